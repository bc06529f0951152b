import PyProof.Rows.All
import Wide.All
import OpenK.AllK
import Wide.FinOn
import KE.KStateDown
import KE.DataMinMax
import KE.SortData
import PyProof.ReprRoads
import KE.GoesMore
import KE.GoesEnum
import KE.GoesZip
import KE.KDictZip
import HandS.Keys
import HandS.Dict
import HandS.ForMost
import HandS.Exc
import HandS.Defaults
import HandS.Flow
import HandS.Style
import HandS.IsInst
import HandS.Zip
import HandS.TupAny
import HandS.TupMul
import HandS.Conv
import HandS.Wide
import HandS.Deep
import HandS.TupLe
import HandS.Star
import HandS.SetFor
import HandS.Strs
import HandS.More
import HandS.Head0
import HandS.Head1
import HandS.Head2
import HandS.HeadEnd
import HandS.HeadHook1
import HandS.HeadHook2
import PySem.Challenge.RW_nobodywaitsbeyond_k47_whole_gates_in_row
set_option Elab.async false
set_option linter.all false
set_option maxRecDepth 100000
set_option maxHeartbeats 4000000
namespace PL
open PySem PySem.Spec PyProof.Rows L2

/-! ### values: tuples and lists that nobody changes are trees; lists and dicts that are changed stand at an address -/
inductive D where
  | non | bl (b : Bool) | int (i : Int) | str (x : Str) | tup (ds : List D) | lst (ds : List D) | fz (ds : List D) | ref (a : Addr) | tpx (ds : List D)

/-- what stands at a tracked address -/
inductive MO where
  | lst (ds : List D)
  | dK (kvs : List (Key × D))
  | dT (kvs : List (List Key × D))

abbrev Sto := Addr → Option MO
def Sto.up (S : Sto) (a : Addr) (o : MO) : Sto := fun b => if b = a then some o else S b
theorem Sto.up_same {S : Sto} {a : Addr} {o : MO} : S.up a o a = some o := by unfold Sto.up; rw [if_pos rfl]
theorem Sto.up_ne {S : Sto} {a b : Addr} {o : MO} (h : b ≠ a) : S.up a o b = S b := by unfold Sto.up; rw [if_neg h]
theorem Sto.up_up {S : Sto} {a : Addr} {o u : MO} : (S.up a o).up a u = S.up a u := by
  funext b; unfold Sto.up; split <;> rfl
abbrev DEnv := List (Option D)

/-- a list that never changes: frozen, or of the written part -/
def KL (K : PySem.W.Frag) (H : Hp) (a : Addr) (xs : List V) : Prop := (∃ o, H a = some (.frz o (.lst xs))) ∨
  ∃ (o : Obj) (its : Array Value) (n : Nat), K.lookup a = some o ∧ o.cls = .type "list" ∧ o.dict = none ∧ o.data = .seq its n ∧ its.size ≤ sizeLine ∧ Vals xs its.toList
theorem KL.sq {K : PySem.W.Frag} {H : Hp} {a : Addr} {xs : List V} (h : KL K H a xs) : SqL K H a xs := h.imp .inr id
section
variable (K : PySem.W.Frag)
mutual
def RD (S : Sto) (H : Hp) : D → V → Prop
  | .non, v => v = .non
  | .bl b, v => v = .bl b
  | .int i, v => v = .int i
  | .str x, v => v = .str x
  | .ref a, v => v = .ref a
  | .tpx ds, v => ∃ a o vs, v = .ref a ∧ H a = some (.frz o (.tup vs)) ∧ o.dict = none ∧ RDs S H ds vs
  | .tup ds, v => ∃ a vs, v = .ref a ∧ SqT K H a vs ∧ RDs S H ds vs
  | .lst ds, v => ∃ a vs, v = .ref a ∧ S a = none ∧ H a = some (.lst vs) ∧ RDs S H ds vs
  | .fz ds, v => ∃ a vs, v = .ref a ∧ KL K H a vs ∧ RDs S H ds vs
def RDs (S : Sto) (H : Hp) : List D → List V → Prop
  | [], vs => vs = []
  | d :: ds, vs => ∃ v r, vs = v :: r ∧ RD S H d v ∧ RDs S H ds r
end
/-- the tuples, the lists that are not tracked are as they were -/
structure Tp (S : Sto) (H : Hp) (S' : Sto) (H' : Hp) : Prop where
  tup : ∀ a xs, H a = some (.tup xs) → H' a = some (.tup xs)
  frz : ∀ a o u, H a = some (.frz o u) → H' a = some (.frz o u)
  old : ∀ a o, S a = none → H a = some o → S' a = none ∧ H' a = some o
variable {K}
variable {S S' S1 S2 : Sto} {H H' H1 H2 : Hp}
theorem Tp.refl : Tp S H S H := ⟨fun _ _ h => h, fun _ _ _ h => h, fun _ _ a b => ⟨a, b⟩⟩
theorem Tp.trans (a : Tp S H S1 H1) (b : Tp S1 H1 S2 H2) : Tp S H S2 H2 :=
  ⟨fun x y h => b.tup x y (a.tup x y h), fun x y z h => b.frz x y z (a.frz x y z h), fun x o h1 h2 => let ⟨e1, e2⟩ := a.old x o h1 h2; b.old x o e1 e2⟩
theorem Tp.sqt {a : Addr} {xs : List V} (e : Tp S H S' H') (h : SqT K H a xs) : SqT K H' a xs := by
  rcases h with (h | ⟨o, h⟩) | h
  · exact .inl (.inl (e.tup _ _ h))
  · exact .inl (.inr ⟨o, e.frz _ _ _ h⟩)
  · exact .inr h
mutual
theorem RD.tp (e : Tp S H S' H') : ∀ {d : D} {v : V}, RD K S H d v → RD K S' H' d v
  | .non, _, h => by simpa only [RD] using h
  | .bl _, _, h => by simpa only [RD] using h
  | .int _, _, h => by simpa only [RD] using h
  | .str _, _, h => by simpa only [RD] using h
  | .ref _, _, h => by simpa only [RD] using h
  | .tpx ds, v, h => by
    rw [RD] at h ⊢
    obtain ⟨a, o, vs, h1, h2, h4, h3⟩ := h
    exact ⟨a, o, vs, h1, e.frz _ _ _ h2, h4, RDs.tp e h3⟩
  | .tup ds, v, h => by
    rw [RD] at h ⊢
    obtain ⟨a, vs, h1, h2, h3⟩ := h
    exact ⟨a, vs, h1, e.sqt h2, RDs.tp e h3⟩
  | .lst ds, v, h => by
    rw [RD] at h ⊢
    obtain ⟨a, vs, h1, h0, h2, h3⟩ := h
    obtain ⟨e1, e2⟩ := e.old _ _ h0 h2
    exact ⟨a, vs, h1, e1, e2, RDs.tp e h3⟩
  | .fz ds, v, h => by
    rw [RD] at h ⊢
    obtain ⟨a, vs, h1, h2, h3⟩ := h
    exact ⟨a, vs, h1, h2.imp (fun ⟨o, q⟩ => ⟨o, e.frz _ _ _ q⟩) id, RDs.tp e h3⟩
theorem RDs.tp (e : Tp S H S' H') : ∀ {ds : List D} {vs : List V}, RDs K S H ds vs → RDs K S' H' ds vs
  | [], _, h => by simpa only [RDs] using h
  | d :: ds, vs, h => by
    rw [RDs] at h ⊢
    obtain ⟨v, r, h1, h2, h3⟩ := h
    exact ⟨v, r, h1, RD.tp e h2, RDs.tp e h3⟩
end
theorem RDs.nil {vs : List V} : RDs K S H [] vs ↔ vs = [] := by rw [RDs]
theorem RDs.cons {d : D} {ds : List D} {v : V} {vs : List V} (h : RD K S H d v) (t : RDs K S H ds vs) : RDs K S H (d :: ds) (v :: vs) := by
  rw [RDs]; exact ⟨v, vs, rfl, h, t⟩
theorem RDs.one {d : D} {vs : List V} (h : RDs K S H [d] vs) : ∃ v, vs = [v] ∧ RD K S H d v := by
  rw [RDs] at h
  obtain ⟨v, r, rfl, h1, h2⟩ := h
  rw [RDs] at h2
  subst h2
  exact ⟨v, rfl, h1⟩
theorem RDs.two {d e : D} {vs : List V} (h : RDs K S H [d, e] vs) : ∃ v w, vs = [v, w] ∧ RD K S H d v ∧ RD K S H e w := by
  rw [RDs] at h
  obtain ⟨v, r, rfl, h1, h2⟩ := h
  obtain ⟨w, rfl, h3⟩ := h2.one
  exact ⟨v, w, rfl, h1, h3⟩
theorem RDs.len : ∀ {ds : List D} {vs : List V}, RDs K S H ds vs → vs.length = ds.length
  | [], _, h => by rw [RDs] at h; subst h; rfl
  | d :: ds, vs, h => by
    rw [RDs] at h
    obtain ⟨v, r, rfl, _, h3⟩ := h
    rw [List.length_cons, List.length_cons, RDs.len h3]
theorem RDs.get : ∀ {ds : List D} {vs : List V} {i : Nat} {d : D}, RDs K S H ds vs → ds[i]? = some d → ∃ v, vs[i]? = some v ∧ RD K S H d v
  | [], _, i, d, _, e => by simp at e
  | x :: ds, vs, i, d, h, e => by
    rw [RDs] at h
    obtain ⟨v, r, rfl, h2, h3⟩ := h
    cases i with
    | zero => simp at e; subst e; exact ⟨v, rfl, h2⟩
    | succ i =>
      obtain ⟨w, e1, e2⟩ := RDs.get h3 (i := i) (d := d) (by simpa using e)
      exact ⟨w, by simpa using e1, e2⟩
theorem RDs.getV : ∀ {ds : List D} {vs : List V} {i : Nat} {v : V}, RDs K S H ds vs → vs[i]? = some v → ∃ d, ds[i]? = some d ∧ RD K S H d v
  | [], vs, i, v, h, e => by rw [RDs] at h; subst h; simp at e
  | x :: ds, vs, i, v, h, e => by
    rw [RDs] at h
    obtain ⟨w, r, rfl, h2, h3⟩ := h
    cases i with
    | zero => simp at e; subst e; exact ⟨x, rfl, h2⟩
    | succ i =>
      obtain ⟨d, e1, e2⟩ := RDs.getV h3 (i := i) (v := v) (by simpa using e)
      exact ⟨d, by simpa using e1, e2⟩
theorem RDs.append : ∀ {ds es : List D} {vs ws : List V}, RDs K S H ds vs → RDs K S H es ws → RDs K S H (ds ++ es) (vs ++ ws)
  | [], _, _, _, h, t => by rw [RDs] at h; subst h; exact t
  | d :: ds, es, vs, ws, h, t => by
    rw [RDs] at h
    obtain ⟨v, r, rfl, h2, h3⟩ := h
    exact RDs.cons h2 (RDs.append h3 t)
theorem RDs.snoc {ds : List D} {vs : List V} {d : D} {v : V} (h : RDs K S H ds vs) (t : RD K S H d v) : RDs K S H (ds ++ [d]) (vs ++ [v]) := h.append (RDs.cons t (RDs.nil.mpr rfl))
theorem RDs.take : ∀ {ds : List D} {vs : List V} (n : Nat), RDs K S H ds vs → RDs K S H (ds.take n) (vs.take n)
  | _, _, 0, _ => by simp [RDs]
  | [], vs, _ + 1, h => by rw [RDs] at h; subst h; simp [RDs]
  | d :: ds, vs, n + 1, h => by
    rw [RDs] at h
    obtain ⟨v, r, rfl, h2, h3⟩ := h
    exact RDs.cons h2 (RDs.take n h3)
theorem RDs.drop : ∀ {ds : List D} {vs : List V} (n : Nat), RDs K S H ds vs → RDs K S H (ds.drop n) (vs.drop n)
  | _, _, 0, h => h
  | [], vs, _ + 1, h => by rw [RDs] at h; subst h; simp [RDs]
  | d :: ds, vs, n + 1, h => by
    rw [RDs] at h
    obtain ⟨v, r, rfl, h2, h3⟩ := h
    exact RDs.drop n h3
theorem RDs.set : ∀ {ds : List D} {vs : List V} {d : D} {v : V} (n : Nat), RDs K S H ds vs → RD K S H d v → RDs K S H (ds.set n d) (vs.set n v)
  | [], vs, _, _, _, h, _ => by rw [RDs] at h; subst h; simp [RDs]
  | x :: ds, vs, d, v, 0, h, t => by
    rw [RDs] at h
    obtain ⟨w, r, rfl, h2, h3⟩ := h
    exact RDs.cons t h3
  | x :: ds, vs, d, v, n + 1, h, t => by
    rw [RDs] at h
    obtain ⟨w, r, rfl, h2, h3⟩ := h
    exact RDs.cons h2 (RDs.set n h3 t)
theorem RDs.reverse : ∀ {ds : List D} {vs : List V}, RDs K S H ds vs → RDs K S H ds.reverse vs.reverse
  | [], _, h => by rw [RDs] at h; subst h; simp [RDs]
  | d :: ds, vs, h => by
    rw [RDs] at h
    obtain ⟨v, r, rfl, h2, h3⟩ := h
    rw [List.reverse_cons, List.reverse_cons]
    exact (RDs.reverse h3).snoc h2
theorem RDs.erase : ∀ {ds : List D} {vs : List V} (n : Nat), RDs K S H ds vs → RDs K S H (ds.eraseIdx n) (vs.eraseIdx n)
  | [], vs, _, h => by rw [RDs] at h; subst h; simp [RDs]
  | d :: ds, vs, 0, h => by
    rw [RDs] at h
    obtain ⟨v, r, rfl, h2, h3⟩ := h
    exact h3
  | d :: ds, vs, n + 1, h => by
    rw [RDs] at h
    obtain ⟨v, r, rfl, h2, h3⟩ := h
    exact RDs.cons h2 (RDs.erase n h3)
theorem RDs.rep {ds : List D} {vs : List V} (h : RDs K S H ds vs) : ∀ k : Nat, RDs K S H (List.replicate k ds).flatten (List.replicate k vs).flatten
  | 0 => by simp [RDs]
  | k + 1 => by
    rw [List.replicate_succ, List.replicate_succ, List.flatten_cons, List.flatten_cons]
    exact h.append (RDs.rep h k)

/-- a tracked object -/
def RM (K : PySem.W.Frag) (S : Sto) (H : Hp) (p : Addr) : MO → Prop
  | .lst ds => ∃ vs, H p = some (.lst vs) ∧ RDs K S H ds vs
  | .dK kvs => ∃ ws, H p = some (.dK ws) ∧ ws.map (·.1) = kvs.map (·.1) ∧ RDs K S H (kvs.map (·.2)) (ws.map (·.2))
  | .dT kvs => ∃ ws, H p = some (.dT ws) ∧ ws.map (·.1) = kvs.map (·.1) ∧ RDs K S H (kvs.map (·.2)) (ws.map (·.2))
def RS (K : PySem.W.Frag) (S : Sto) (H : Hp) : Prop := ∀ p mo, S p = some mo → RM K S H p mo
theorem RM.mv {p : Addr} {mo : MO} (e : Tp S H S' H') (k : ∀ o, H p = some o → H' p = some o) (h : RM K S H p mo) : RM K S' H' p mo := by
  cases mo with
  | lst ds => obtain ⟨vs, h1, h2⟩ := h; exact ⟨vs, k _ h1, h2.tp e⟩
  | dK kvs => obtain ⟨ws, h1, h2, h3⟩ := h; exact ⟨ws, k _ h1, h2, h3.tp e⟩
  | dT kvs => obtain ⟨ws, h1, h2, h3⟩ := h; exact ⟨ws, k _ h1, h2, h3.tp e⟩
theorem RM.mut {p : Addr} {mo : MO} (h : RM K S H p mo) : ∃ o, H p = some o ∧ (∀ xs, o ≠ .tup xs) ∧ ∀ ob u, o ≠ .frz ob u := by
  cases mo with
  | lst ds => obtain ⟨vs, h1, h2⟩ := h; exact ⟨_, h1, fun _ => nofun, fun _ _ => nofun⟩
  | dK kvs => obtain ⟨ws, h1, h2, h3⟩ := h; exact ⟨_, h1, fun _ => nofun, fun _ _ => nofun⟩
  | dT kvs => obtain ⟨ws, h1, h2, h3⟩ := h; exact ⟨_, h1, fun _ => nofun, fun _ _ => nofun⟩

/-- one stretch of the run -/
structure Go (K : PySem.W.Frag) (S : Sto) (H : Hp) (S' : Sto) (H' : Hp) : Prop where
  tp : Tp S H S' H'
  rs : RS K S' H'
theorem Go.refl (r : RS K S H) : Go K S H S H := ⟨Tp.refl, r⟩
theorem Go.trans (a : Go K S H S1 H1) (b : Go K S1 H1 S2 H2) : Go K S H S2 H2 := ⟨a.tp.trans b.tp, b.rs⟩
theorem RS.free {p : Addr} (r : RS K S H) (h : H p = none) : S p = none := by
  cases e : S p with
  | none => rfl
  | some mo => obtain ⟨o, h1, _⟩ := (r p mo e).mut; rw [h] at h1; cases h1
/-- a new object that the store does not know -/
theorem Go.fresh {p : Addr} {o : HO} (r : RS K S H) (h : H p = none) : Go K S H S (upd H p o) := by
  have tp : Tp S H S (upd H p o) := ⟨fun a xs e => by rw [upd_ne (ne_of_none e h)]; exact e, fun a ob u e => by rw [upd_ne (ne_of_none e h)]; exact e, fun a ob e1 e2 => ⟨e1, by rw [upd_ne (ne_of_none e2 h)]; exact e2⟩⟩
  exact ⟨tp, fun a mo e => (r a mo e).mv tp fun ob eb => by rw [upd_ne (ne_of_none eb h)]; exact eb⟩
/-- a new tracked object -/
theorem Go.made {p : Addr} {o : HO} {mo : MO} (r : RS K S H) (h : H p = none) (hm : ∀ S' H', Tp S H S' H' → H' p = some o → RM K S' H' p mo) : Go K S H (S.up p mo) (upd H p o) := by
  have tp : Tp S H (S.up p mo) (upd H p o) := ⟨fun a xs e => by rw [upd_ne (ne_of_none e h)]; exact e, fun a ob u e => by rw [upd_ne (ne_of_none e h)]; exact e,
    fun a ob e1 e2 => ⟨by rw [Sto.up_ne (ne_of_none e2 h)]; exact e1, by rw [upd_ne (ne_of_none e2 h)]; exact e2⟩⟩
  refine ⟨tp, fun a m e => ?_⟩
  by_cases ha : a = p
  · subst ha; rw [Sto.up_same] at e; cases e; exact hm _ _ tp upd_same
  · rw [Sto.up_ne ha] at e
    exact (r a m e).mv tp fun ob eb => by rw [upd_ne ha]; exact eb
/-- a tracked object changes -/
theorem Go.wrote {p : Addr} {o : HO} {mo mo' : MO} (r : RS K S H) (h : S p = some mo) (hm : ∀ S' H', Tp S H S' H' → H' p = some o → RM K S' H' p mo') : Go K S H (S.up p mo') (upd H p o) := by
  obtain ⟨ob, h1, h2, h3⟩ := (r p mo h).mut
  have tp : Tp S H (S.up p mo') (upd H p o) := ⟨fun a xs e => by
      rw [upd_ne]; exact e
      intro z; subst z; rw [h1] at e; cases e; exact h2 xs rfl, fun a oo u e => by
      rw [upd_ne]; exact e
      intro z; subst z; rw [h1] at e; cases e; exact h3 oo u rfl, fun a oa e1 e2 => by
      have ne : a ≠ p := fun z => by subst z; rw [h] at e1; cases e1
      rw [Sto.up_ne ne, upd_ne ne]; exact ⟨e1, e2⟩⟩
  refine ⟨tp, fun a m e => ?_⟩
  by_cases ha : a = p
  · subst ha; rw [Sto.up_same] at e; cases e; exact hm _ _ tp upd_same
  · rw [Sto.up_ne ha] at e
    exact (r a m e).mv tp fun ob eb => by rw [upd_ne ha]; exact eb
end

/-! ### environments -/
def RE (K : PySem.W.Frag) (S : Sto) (H : Hp) (ρ : DEnv) (σ : L2.St) : Prop := ρ.length = σ.length ∧ ∀ (i : Nat) (d : D), ρ[i]? = some (some d) → ∃ v, σ[i]? = some (some v) ∧ RD K S H d v
def wipeD (ρ : DEnv) : List Nat → DEnv
  | [] => ρ
  | v :: vs => (wipeD ρ vs).set v none
def startD (N : List Str) (ds : List D) : DEnv := ds.map some ++ List.replicate (N.length - ds.length) none
section
variable {K : PySem.W.Frag} {S S' : Sto} {H H' : Hp} {ρ : DEnv} {σ : L2.St}
theorem RE.tp (e : Tp S H S' H') (h : RE K S H ρ σ) : RE K S' H' ρ σ := ⟨h.1, fun i d x => let ⟨v, a, b⟩ := h.2 i d x; ⟨v, a, b.tp e⟩⟩
theorem RE.set {d : D} {v : V} (h : RE K S H ρ σ) (i : Nat) (r : RD K S H d v) : RE K S H (ρ.set i (some d)) (σ.set i (some v)) := by
  refine ⟨by simpa using h.1, fun j e x => ?_⟩
  by_cases hj : i = j
  · subst hj
    by_cases hl : i < ρ.length
    · rw [List.getElem?_set_self hl] at x
      cases x
      exact ⟨v, by rw [List.getElem?_set_self (by rw [← h.1]; exact hl)], r⟩
    · rw [List.getElem?_eq_none (by simpa using hl)] at x; cases x
  · rw [List.getElem?_set_ne hj] at x ⊢
    exact h.2 j e x
theorem RE.unset (h : RE K S H ρ σ) (i : Nat) (o : Option V) : RE K S H (ρ.set i none) (σ.set i o) := by
  refine ⟨by simpa using h.1, fun j e x => ?_⟩
  by_cases hj : i = j
  · subst hj
    by_cases hl : i < ρ.length
    · rw [List.getElem?_set_self hl] at x; cases x
    · rw [List.getElem?_eq_none (by simpa using hl)] at x; cases x
  · rw [List.getElem?_set_ne hj] at x ⊢
    exact h.2 j e x
theorem RE.wipe (h : RE K S H ρ σ) : ∀ vs : List Nat, RE K S H (wipeD ρ vs) (wipe σ vs)
  | [] => h
  | v :: vs => by unfold wipeD L2.wipe; exact (RE.wipe h vs).unset v none
theorem RE.start {N : List Str} {ds : List D} {vs : List V} (h : RDs K S H ds vs) : RE K S H (startD N ds) (start N vs) := by
  have hl := h.len
  refine ⟨by simp [startD, L2.start, hl], fun i d x => ?_⟩
  unfold startD at x
  unfold L2.start
  by_cases hi : i < ds.length
  · rw [List.getElem?_append_left (by simpa using hi), List.getElem?_map] at x
    cases e : ds[i]? with
    | none => rw [e] at x; cases x
    | some y =>
      rw [e] at x
      have : y = d := by simpa using x
      subst this
      obtain ⟨v, e1, e2⟩ := h.get e
      refine ⟨v, ?_, e2⟩
      rw [List.getElem?_append_left (by simpa [hl] using hi), List.getElem?_map, e1]; rfl
  · rw [List.getElem?_append_right (by simpa using hi), List.getElem?_replicate] at x
    split at x <;> cases x
end

/-! ### lifts -/
abbrev QD := D → Sto → Prop
abbrev TED := DEnv → Sto → QD → Prop
abbrev TTD := DEnv → Sto → (Bool → Sto → Prop) → Prop
abbrev TAD := DEnv → Sto → (List D → Sto → Prop) → Prop
structure EndsD where
  nx : DEnv → Sto → Prop
  rt : QD
  bk : DEnv → Sto → Prop := fun _ _ => False
  ct : DEnv → Sto → Prop := fun _ _ => False
abbrev TSD := EndsD → DEnv → Sto → Prop
section
variable (K : PySem.W.Frag)
/-- what is wanted behind, in V's words -/
def Aft (S : Sto) (H : Hp) (Qd : QD) (Q : VK) : Prop := ∀ d S' v H', Qd d S' → Go K S H S' H' → RD K S' H' d v → Q v H'
def AftL (S : Sto) (H : Hp) (Qd : List D → Sto → Prop) (Q : List V → Hp → Prop) : Prop := ∀ ds S' vs H', Qd ds S' → Go K S H S' H' → RDs K S' H' ds vs → Q vs H'
def LE (δ : TED) : TE := fun σ H Q => ∃ ρ S Qd, RE K S H ρ σ ∧ RS K S H ∧ δ ρ S Qd ∧ Aft K S H Qd Q
def LT (δ : TTD) : TT := fun σ H Q => ∃ ρ S Qd, RE K S H ρ σ ∧ RS K S H ∧ δ ρ S Qd ∧ ∀ b S' H', Qd b S' → Go K S H S' H' → Q b H'
def LA (δ : TAD) : TA := fun σ H Q => ∃ ρ S Qd, RE K S H ρ σ ∧ RS K S H ∧ δ ρ S Qd ∧ AftL K S H Qd Q
structure EndsOk (S : Sto) (H : Hp) (De : EndsD) (E : Ends) : Prop where
  nx : ∀ ρ' S' σ' H', De.nx ρ' S' → Go K S H S' H' → RE K S' H' ρ' σ' → E.nx σ' H'
  rt : ∀ d S' v H', De.rt d S' → Go K S H S' H' → RD K S' H' d v → E.rt v H'
  bk : ∀ ρ' S' σ' H', De.bk ρ' S' → Go K S H S' H' → RE K S' H' ρ' σ' → E.bk σ' H'
  ct : ∀ ρ' S' σ' H', De.ct ρ' S' → Go K S H S' H' → RE K S' H' ρ' σ' → E.ct σ' H'
def LS (τ : TSD) : TS := fun E σ H => ∃ ρ S De, RE K S H ρ σ ∧ RS K S H ∧ τ De ρ S ∧ EndsOk K S H De E
variable {K}
variable {S S' : Sto} {H H' : Hp}
theorem EndsOk.go {De : EndsD} {E : Ends} (h : EndsOk K S H De E) (g : Go K S H S' H') : EndsOk K S' H' De E :=
  ⟨fun a b c d x y z => h.nx a b c d x (g.trans y) z, fun a b c d x y z => h.rt a b c d x (g.trans y) z, fun a b c d x y z => h.bk a b c d x (g.trans y) z, fun a b c d x y z => h.ct a b c d x (g.trans y) z⟩
theorem Aft.go {Qd : QD} {Q : VK} (h : Aft K S H Qd Q) (g : Go K S H S' H') : Aft K S' H' Qd Q := fun a b c d x y z => h a b c d x (g.trans y) z
theorem AftL.go {Qd : List D → Sto → Prop} {Q : List V → Hp → Prop} (h : AftL K S H Qd Q) (g : Go K S H S' H') : AftL K S' H' Qd Q := fun a b c d x y z => h a b c d x (g.trans y) z
end
abbrev DE (X : Cx) (e : Expr) (δ : TED) : Prop := PE X e (LE X.K δ)
abbrev DT (X : Cx) (e : Expr) (δ : TTD) : Prop := PT X e (LT X.K δ)
abbrev DW (X : Cx) (e : Expr) (δ : TTD) : Prop := PW X e (LT X.K δ)
abbrev DA (X : Cx) (es : List Expr) (δ : TAD) : Prop := PA X es (LA X.K δ)
abbrev DS (X : Cx) (st : Stmt) (τ : TSD) : Prop := PS X st (LS X.K τ)
abbrev DSs (X : Cx) (st : List Stmt) (τ : TSD) : Prop := PSs X st (LS X.K τ)
section
variable {X : Cx}
theorem peW {e : Expr} {t t' : TE} (h : PE X e t) (w : ∀ σ H Q, t' σ H Q → t σ H Q) : PE X e t' := ⟨fun pins s σ H Q I q => h.run pins s σ H Q I (w σ H Q q)⟩
theorem ptW {e : Expr} {t t' : TT} (h : PT X e t) (w : ∀ σ H Q, t' σ H Q → t σ H Q) : PT X e t' := ⟨fun pins s σ H Q I q => h.run pins s σ H Q I (w σ H Q q)⟩
theorem pwW {e : Expr} {t t' : TT} (h : PW X e t) (w : ∀ σ H Q, t' σ H Q → t σ H Q) : PW X e t' := ⟨fun wh pins s σ H Q I q => h.run wh pins s σ H Q I (w σ H Q q)⟩
theorem paW {e : List Expr} {t t' : TA} (h : PA X e t) (w : ∀ σ H Q, t' σ H Q → t σ H Q) : PA X e t' := ⟨fun pos pins s σ H Q I q => h.run pos pins s σ H Q I (w σ H Q q)⟩
theorem psW {e : Stmt} {t t' : TS} (h : PS X e t) (w : ∀ D σ H, t' D σ H → t D σ H) : PS X e t' := ⟨fun pins s σ H D I q => h.run pins s σ H D I (w D σ H q)⟩
theorem pssW {e : List Stmt} {t t' : TS} (h : PSs X e t) (w : ∀ D σ H, t' D σ H → t D σ H) : PSs X e t' := ⟨fun pins s σ H D I q => h.run pins s σ H D I (w D σ H q)⟩
end
end PL
namespace PL
open PySem PySem.Spec PyProof.Rows L2

/-! ### lists: read, made -/
/-- the items of a list: one that nobody changes, one that is tracked -/
def Sto.list (S : Sto) : D → Option (List D)
  | .lst ds => some ds
  | .ref p => match S p with
    | some (.lst ds) => some ds
    | _ => none
  | _ => none
/-- of a list, a tuple -/
def Sto.seq (S : Sto) : D → Option (List D)
  | .tup ds => some ds
  | .tpx ds => some ds
  | .fz ds => some ds
  | .lst ds => some ds
  | .ref p => match S p with
    | some (.lst ds) => some ds
    | _ => none
  | _ => none
/-- a new list: tracked (r), or one that nobody will change -/
def newL (r : Bool) (ds : List D) (S : Sto) (Q : QD) : Prop := match r with
  | true => ∀ p, S p = none → Q (.ref p) (S.up p (.lst ds))
  | false => Q (.lst ds) S
section
variable {K : PySem.W.Frag} {S S' : Sto} {H H' : Hp} {d : D} {ds : List D} {v : V} {vs : List V}
theorem list_at (h : S.list d = some ds) (rd : RD K S H d v) (rs : RS K S H) : ∃ a vs, v = .ref a ∧ H a = some (.lst vs) ∧ RDs K S H ds vs := by
  cases d with
  | lst es =>
    have e : es = ds := Option.some.inj h
    subst e
    rw [RD] at rd
    obtain ⟨a, vs, h1, _, h2, h3⟩ := rd
    exact ⟨a, vs, h1, h2, h3⟩
  | ref p =>
    rw [RD] at rd
    have h' : (match S p with
      | some (.lst ds) => some ds
      | _ => none) = some ds := h
    split at h'
    · rename_i es he
      have e : es = ds := Option.some.inj h'
      subst e
      obtain ⟨vs, h1, h2⟩ := rs p _ he
      exact ⟨p, vs, rd, h1, h2⟩
    · cases h'
  | _ => cases h
theorem seq_at (h : S.seq d = some ds) (rd : RD K S H d v) (rs : RS K S H) : ∃ a vs, v = .ref a ∧ (SqL K H a vs ∨ SqT K H a vs) ∧ RDs K S H ds vs := by
  cases d with
  | tup es =>
    have e : es = ds := Option.some.inj h
    subst e
    rw [RD] at rd
    obtain ⟨a, vs, h1, h2, h3⟩ := rd
    exact ⟨a, vs, h1, .inr h2, h3⟩
  | tpx es =>
    have e : es = ds := Option.some.inj h
    subst e
    rw [RD] at rd
    obtain ⟨a, o, vs, h1, h2, _, h3⟩ := rd
    exact ⟨a, vs, h1, .inr (.inl (.inr ⟨o, h2⟩)), h3⟩
  | fz es =>
    have e : es = ds := Option.some.inj h
    subst e
    rw [RD] at rd
    obtain ⟨a, vs, h1, h2, h3⟩ := rd
    exact ⟨a, vs, h1, .inl h2.sq, h3⟩
  | lst es =>
    obtain ⟨a, vs, h1, h2, h3⟩ := list_at (d := .lst es) (ds := ds) h rd rs
    exact ⟨a, vs, h1, .inl (.of h2), h3⟩
  | ref p =>
    obtain ⟨a, vs, h1, h2, h3⟩ := list_at (d := .ref p) (ds := ds) h rd rs
    exact ⟨a, vs, h1, .inl (.of h2), h3⟩
  | _ => cases h
theorem Aft.here {Qd : QD} {Q : VK} (k : Aft K S H Qd Q) (rs : RS K S H) (q : Qd d S) (r : RD K S H d v) : Q v H := k _ _ _ _ q (.refl rs) r
theorem newL_ok {r : Bool} {Qd : QD} {Q : VK} (rs : RS K S H) (rd : RDs K S H ds vs) (n : newL r ds S Qd) (k : Aft K S H Qd Q) (p : Addr) (hp : H p = none) : Q (.ref p) (upd H p (.lst vs)) := by
  cases r with
  | true =>
    have g : Go K S H (S.up p (.lst ds)) (upd H p (.lst vs)) := Go.made rs hp fun S' H' tp e => ⟨vs, e, rd.tp tp⟩
    exact k _ _ _ _ (n p (rs.free hp)) g (by rw [RD])
  | false =>
    have g : Go K S H S (upd H p (.lst vs)) := Go.fresh rs hp
    refine k _ _ _ _ n g ?_
    rw [RD]
    exact ⟨p, vs, rfl, rs.free hp, upd_same, rd.tp g.tp⟩
theorem newT_ok {Qd : QD} {Q : VK} (rs : RS K S H) (rd : RDs K S H ds vs) (n : Qd (.tup ds) S) (k : Aft K S H Qd Q) (p : Addr) (hp : H p = none) : Q (.ref p) (upd H p (.tup vs)) := by
  have g : Go K S H S (upd H p (.tup vs)) := Go.fresh rs hp
  refine k _ _ _ _ n g ?_
  rw [RD]
  exact ⟨p, vs, rfl, .of upd_same, rd.tp g.tp⟩
end

/-! ### names, constants -/
section
variable {X : Cx} {e a b c : Expr} {es : List Expr} {pos : Pos} {δ δa δb δc : TED} {θ θ1 θ2 : TTD} {α : TAD}
def dVar (i : Nat) : TED := fun ρ S Q => match ρ[i]? with
  | some (some d) => Q d S
  | _ => False
theorem de_var {i : Nat} (h : PE X e (tVar i)) : DE X e (dVar i) := peW h fun σ H Q ⟨ρ, S, Qd, re, rs, q, k⟩ => by
  unfold dVar at q
  split at q
  · rename_i d hd
    obtain ⟨v, e1, e2⟩ := re.2 i d hd
    exact ⟨v, e1, k.here rs q e2⟩
  · exact q.elim
theorem dv (i : Nat) {x : Str} {pos : Pos} (hN : X.N[i]? = some x := by rfl) (hv : Vis X.env.scope x := by first | exact Or.inl rfl | exact Or.inr (Or.inl rfl) | exact Or.inr (Or.inr rfl)) (hd : (x == ("__debug__" : Str)) = false := by decide)
    (hcd : (x == ("__classdict__" : Str)) = false := by decide) : DE X (.Name x pos) (dVar i) := de_var (pe_var hN hv hd hcd)
def dC (d : D) : TED := fun _ S Q => Q d S
theorem de_c {d : D} {v : V} (h : PE X e (tC v)) (r : ∀ S H, RD X.K S H d v) : DE X e (dC d) := peW h fun σ H Q ⟨ρ, S, Qd, re, rs, q, k⟩ => k.here rs q (r S H)
theorem de_int {i j} : DE X (.Constant (.int i) j pos) (dC (.int i)) := de_c pe_int fun _ _ => by rw [RD]
theorem de_bl {b j} : DE X (.Constant (.bool b) j pos) (dC (.bl b)) := de_c pe_bl fun _ _ => by rw [RD]
theorem de_non {j} : DE X (.Constant .none j pos) (dC .non) := de_c pe_non fun _ _ => by rw [RD]
theorem de_str {x j} : DE X (.Constant (.str x) j pos) (dC (.str x)) := de_c pe_str fun _ _ => by rw [RD]
theorem de_gint {x : Str} {i : Int} (hm : ∃ t, X.mg x = some (.int i t)) (hg : Gl X x := by rfl) (hd : (x == ("__debug__" : Str)) = false := by decide) : DE X (.Name x pos) (dC (.int i)) := by
  obtain ⟨t, hm⟩ := hm
  exact de_c (pe_glob (v := .int i) hg hm ⟨t, rfl⟩ hd) fun _ _ => by rw [RD]
theorem de_gstr {x y : Str} (hm : ∃ t, X.mg x = some (.str y t)) (hg : Gl X x := by rfl) (hd : (x == ("__debug__" : Str)) = false := by decide) : DE X (.Name x pos) (dC (.str y)) := by
  obtain ⟨t, hm⟩ := hm
  exact de_c (pe_glob (v := .str y) hg hm ⟨t, rfl⟩ hd) fun _ _ => by rw [RD]

/-! ### operations by values -/
abbrev R2D := D → D → Sto → QD → Prop
def Lf2 (K : PySem.W.Frag) (o : R2D) : R2 := fun x y H Q => ∃ d e S Qd, RD K S H d x ∧ RD K S H e y ∧ RS K S H ∧ o d e S Qd ∧ Aft K S H Qd Q
abbrev OpD (X : Cx) (f : Value → Value → Sem Value) (o : R2D) : Prop := OpR X f (Lf2 X.K o)
theorem opW {f : Value → Value → Sem Value} {r r' : R2} (h : OpR X f r) (w : ∀ x y H Q, r' x y H Q → r x y H Q) : OpR X f r' := fun pins s σ H x y v u Q I rx ry q => h pins s σ H x y v u Q I rx ry (w _ _ _ _ q)
theorem opD_of {f : Value → Value → Sem Value} {r : R2} {o : R2D} (h : OpR X f r) (w : ∀ d e x y S H Qd Q, RD X.K S H d x → RD X.K S H e y → RS X.K S H → o d e S Qd → Aft X.K S H Qd Q → r x y H Q) : OpD X f o :=
  opW h fun x y H Q ⟨d, e, S, Qd, r1, r2, rs, q, k⟩ => w d e x y S H Qd Q r1 r2 rs q k
theorem opD_or {f : Value → Value → Sem Value} {o o' : R2D} (h : OpD X f o) (h' : OpD X f o') : OpD X f (fun d e S Q => o d e S Q ∨ o' d e S Q) :=
  opD_of (h.or h') fun d e x y S H Qd Q r1 r2 rs q k => q.imp (fun q => ⟨d, e, S, Qd, r1, r2, rs, q, k⟩) (fun q => ⟨d, e, S, Qd, r1, r2, rs, q, k⟩)
theorem opD_W {f : Value → Value → Sem Value} {o o' : R2D} (h : OpD X f o) (w : ∀ d e S Q, o' d e S Q → o d e S Q) : OpD X f o' :=
  opD_of h fun d e x y S H Qd Q r1 r2 rs q k => ⟨d, e, S, Qd, r1, r2, rs, w _ _ _ _ q, k⟩
def dOp (o : R2D) (δa δb : TED) : TED := fun ρ S Q => δa ρ S fun x S1 => δb ρ S1 fun y S2 => o x y S2 Q
theorem lift2 {o : R2D} {K : PySem.W.Frag} (σ : L2.St) (H : Hp) (Q : VK) (h : LE K (dOp o δa δb) σ H Q) : tOp (Lf2 K o) (LE K δa) (LE K δb) σ H Q := by
  obtain ⟨ρ, S, Qd, re, rs, q, k⟩ := h
  refine ⟨ρ, S, _, re, rs, q, fun x S1 v H1 q1 g1 r1 => ?_⟩
  refine ⟨ρ, S1, _, re.tp g1.tp, g1.rs, q1, fun y S2 w H2 q2 g2 r2 => ?_⟩
  exact ⟨x, y, S2, Qd, r1.tp g2.tp, r2, g2.rs, q2, k.go (g1.trans g2)⟩
theorem de_op {op : Operator} {o : R2D} (ho : OpD X (binaryOp op) o) (ha : DE X a δa) (hb : DE X b δb) : DE X (.BinOp a op b pos) (dOp o δa δb) := peW (pe_op ho ha hb) lift2
theorem de_cmp {op : CmpOp} {o : R2D} (ho : OpD X (compareOp op) o) (ha : DE X a δa) (hb : DE X b δb) (hm : behindInMarks op b = false) : DE X (.Compare a [op] [b] pos) (dOp o δa δb) := peW (pe_cmpR ho ha hb hm) lift2
/-- a bool, as a test -/
def dTest (δ : TED) : TTD := fun ρ S Q => δ ρ S fun x S1 => match x with
  | .bl b => Q b S1
  | _ => False
theorem liftT {K : PySem.W.Frag} (σ : L2.St) (H : Hp) (Q : Bool → Hp → Prop) (h : LT K (dTest δ) σ H Q) : LE K δ σ H (fun x H1 => ∃ k, x = .bl k ∧ Q k H1) := by
  obtain ⟨ρ, S, Qd, re, rs, q, k⟩ := h
  refine ⟨ρ, S, _, re, rs, q, fun x S1 v H1 q1 g1 r1 => ?_⟩
  try dsimp only at q1
  split at q1
  · rename_i b
    rw [RD] at r1
    exact ⟨b, r1, k _ _ _ q1 g1⟩
  · exact q1.elim
theorem dt_cmp {op : CmpOp} {o : R2D} (ho : OpD X (compareOp op) o) (ha : DE X a δa) (hb : DE X b δb) (hm : behindInMarks op b = false) : DT X (.Compare a [op] [b] pos) (dTest (dOp o δa δb)) :=
  ptW (pt_cmpR ho ha hb hm) fun σ H Q h => by
    have h2 := liftT σ H Q h
    exact lift2 σ H _ h2
theorem dt_val (h : DE X e δ) (he : ∀ whole, isTrue e X.env whole = (do let v ← whole; standAt e.pos; holding [v] (truthy v)) := by intro _; rfl) : DT X e (dTest δ) := ptW (pt_val h he) liftT
/-- a < b < c -/
def dChain (o o' : R2D) (δa δb δc : TED) : TED := fun ρ S Q => δa ρ S fun x S1 => δb ρ S1 fun y S2 => o x y S2 fun z S3 => match z with
  | .bl true => δc ρ S3 fun w S4 => o' y w S4 Q
  | .bl false => Q (.bl false) S3
  | _ => False
theorem liftC {o o' : R2D} {K : PySem.W.Frag} (σ : L2.St) (H : Hp) (Q : VK) (h : LE K (dChain o o' δa δb δc) σ H Q) : tChain (Lf2 K o) (Lf2 K o') (LE K δa) (LE K δb) (LE K δc) σ H Q := by
  obtain ⟨ρ, S, Qd, re, rs, q, k⟩ := h
  refine ⟨ρ, S, _, re, rs, q, fun x S1 v H1 q1 g1 r1 => ?_⟩
  refine ⟨ρ, S1, _, re.tp g1.tp, g1.rs, q1, fun y S2 w H2 q2 g2 r2 => ?_⟩
  refine ⟨x, y, S2, _, r1.tp g2.tp, r2, g2.rs, q2, fun z S3 u H3 q3 g3 r3 => ?_⟩
  try dsimp only at q3
  split at q3
  · rw [RD] at r3
    refine ⟨true, r3, ?_⟩
    rw [if_pos rfl]
    refine ⟨ρ, S3, _, (re.tp g1.tp).tp (g2.trans g3).tp, g3.rs, q3, fun w S4 u' H4 q4 g4 r4 => ?_⟩
    exact ⟨y, w, S4, Qd, (r2.tp g3.tp).tp g4.tp, r4, g4.rs, q4, k.go (((g1.trans g2).trans g3).trans g4)⟩
  · rw [RD] at r3
    refine ⟨false, r3, ?_⟩
    rw [if_neg Bool.false_ne_true]
    exact (k.go ((g1.trans g2).trans g3)).here g3.rs q3 (by rw [RD])
  · exact q3.elim
theorem de_chain {op op' : CmpOp} {o o' : R2D} (ho : OpD X (compareOp op) o) (ho' : OpD X (compareOp op') o') (ha : DE X a δa) (hb : DE X b δb) (hc : DE X c δc) (hm : lastMarks [op, op'] [b, c] = false := by with_unfolding_all rfl) : DE X (.Compare a [op, op'] [b, c] pos) (dChain o o' δa δb δc) := peW (pe_chain ho ho' ha hb hc hm) liftC
theorem dt_chain {op op' : CmpOp} {o o' : R2D} (ho : OpD X (compareOp op) o) (ho' : OpD X (compareOp op') o') (ha : DE X a δa) (hb : DE X b δb) (hc : DE X c δc) (hm : lastMarks [op, op'] [b, c] = false := by with_unfolding_all rfl) : DT X (.Compare a [op, op'] [b, c] pos) (dTest (dChain o o' δa δb δc)) :=
  ptW (pt_chain ho ho' ha hb hc hm) fun σ H Q h => by
    have h2 := liftT σ H Q h
    exact liftC σ H _ h2

/-! ### and, or, not, if -/
def dAnd (t u : TTD) : TTD := fun ρ S Q => t ρ S fun b S1 => match b with
  | true => u ρ S1 Q
  | false => Q false S1
def dOr (t u : TTD) : TTD := fun ρ S Q => t ρ S fun b S1 => match b with
  | true => Q true S1
  | false => u ρ S1 Q
def dNot (t : TTD) : TTD := fun ρ S Q => t ρ S fun b S1 => Q (!b) S1
variable {rest : List Expr}
theorem dw_and1 (ha : DT X a θ) : DW X (.BoolOp .And [a] pos) θ := pw_and1 ha
theorem dw_or1 (ha : DT X a θ) : DW X (.BoolOp .Or [a] pos) θ := pw_or1 ha
theorem dw_and (ha : DT X a θ1) (hb : DW X (.BoolOp .And (b :: rest) pos) θ2) : DW X (.BoolOp .And (a :: b :: rest) pos) (dAnd θ1 θ2) := pwW (pw_and ha hb) fun σ H Q h => by
  obtain ⟨ρ, S, Qd, re, rs, q, k⟩ := h
  refine ⟨ρ, S, _, re, rs, q, fun b S1 H1 q1 g1 => ?_⟩
  cases b with
  | true => exact ⟨ρ, S1, Qd, re.tp g1.tp, g1.rs, q1, fun b' S2 H2 q2 g2 => k _ _ _ q2 (g1.trans g2)⟩
  | false => exact k _ _ _ q1 g1
theorem dw_or (ha : DT X a θ1) (hb : DW X (.BoolOp .Or (b :: rest) pos) θ2) : DW X (.BoolOp .Or (a :: b :: rest) pos) (dOr θ1 θ2) := pwW (pw_or ha hb) fun σ H Q h => by
  obtain ⟨ρ, S, Qd, re, rs, q, k⟩ := h
  refine ⟨ρ, S, _, re, rs, q, fun b S1 H1 q1 g1 => ?_⟩
  cases b with
  | true => exact k _ _ _ q1 g1
  | false => exact ⟨ρ, S1, Qd, re.tp g1.tp, g1.rs, q1, fun b' S2 H2 q2 g2 => k _ _ _ q2 (g1.trans g2)⟩
theorem dt_w (h : DW X e θ) : DT X e θ := PW.pt h
theorem dt_not (ha : DT X a θ) : DT X (.UnaryOp .Not a pos) (dNot θ) := ptW (pt_not ha) fun σ H Q h => by
  obtain ⟨ρ, S, Qd, re, rs, q, k⟩ := h
  exact ⟨ρ, S, _, re, rs, q, fun b S1 H1 q1 g1 => k _ _ _ q1 g1⟩
/-- as values, all but the last one bools -/
def dAndV (δa δb : TED) : TED := fun ρ S Q => δa ρ S fun x S1 => match x with
  | .bl true => δb ρ S1 Q
  | .bl false => Q (.bl false) S1
  | _ => False
def dOrV (δa δb : TED) : TED := fun ρ S Q => δa ρ S fun x S1 => match x with
  | .bl true => Q (.bl true) S1
  | .bl false => δb ρ S1 Q
  | _ => False
def dNotV (δa : TED) : TED := fun ρ S Q => δa ρ S fun x S1 => match x with
  | .bl b => Q (.bl (!b)) S1
  | _ => False
theorem de_one {op} (h : DE X a δ) : DE X (.BoolOp op [a] pos) δ := pe_one h
theorem de_and (ha : DE X a δa) (hb : DE X (.BoolOp .And (b :: rest) pos) δb) : DE X (.BoolOp .And (a :: b :: rest) pos) (dAndV δa δb) := peW (pe_and ha hb) fun σ H Q h => by
  obtain ⟨ρ, S, Qd, re, rs, q, k⟩ := h
  refine ⟨ρ, S, _, re, rs, q, fun x S1 v H1 q1 g1 r1 => ?_⟩
  try dsimp only at q1
  split at q1
  · rw [RD] at r1
    refine ⟨true, r1, ?_⟩
    rw [if_pos rfl]
    exact ⟨ρ, S1, Qd, re.tp g1.tp, g1.rs, q1, k.go g1⟩
  · rw [RD] at r1
    refine ⟨false, r1, ?_⟩
    rw [if_neg Bool.false_ne_true]
    exact (k.go g1).here g1.rs q1 (by rw [RD])
  · exact q1.elim
theorem de_or (ha : DE X a δa) (hb : DE X (.BoolOp .Or (b :: rest) pos) δb) : DE X (.BoolOp .Or (a :: b :: rest) pos) (dOrV δa δb) := peW (pe_or ha hb) fun σ H Q h => by
  obtain ⟨ρ, S, Qd, re, rs, q, k⟩ := h
  refine ⟨ρ, S, _, re, rs, q, fun x S1 v H1 q1 g1 r1 => ?_⟩
  try dsimp only at q1
  split at q1
  · rw [RD] at r1
    refine ⟨true, r1, ?_⟩
    rw [if_pos rfl]
    exact (k.go g1).here g1.rs q1 (by rw [RD])
  · rw [RD] at r1
    refine ⟨false, r1, ?_⟩
    rw [if_neg Bool.false_ne_true]
    exact ⟨ρ, S1, Qd, re.tp g1.tp, g1.rs, q1, k.go g1⟩
  · exact q1.elim
theorem de_not (ha : DE X a δa) : DE X (.UnaryOp .Not a pos) (dNotV δa) := peW (pe_not ha) fun σ H Q h => by
  obtain ⟨ρ, S, Qd, re, rs, q, k⟩ := h
  refine ⟨ρ, S, _, re, rs, q, fun x S1 v H1 q1 g1 r1 => ?_⟩
  try dsimp only at q1
  split at q1
  · rw [RD] at r1
    exact ⟨_, r1, (k.go g1).here g1.rs q1 (by rw [RD])⟩
  · exact q1.elim
def dIf (t : TTD) (δa δb : TED) : TED := fun ρ S Q => t ρ S fun b S1 => match b with
  | true => δa ρ S1 Q
  | false => δb ρ S1 Q
theorem de_if (hc : DT X c θ) (ha : DE X a δa) (hb : DE X b δb) : DE X (.IfExp c a b pos) (dIf θ δa δb) := peW (pe_ifExp hc ha hb) fun σ H Q h => by
  obtain ⟨ρ, S, Qd, re, rs, q, k⟩ := h
  refine ⟨ρ, S, _, re, rs, q, fun b S1 H1 q1 g1 => ?_⟩
  cases b with
  | true => exact ⟨ρ, S1, Qd, re.tp g1.tp, g1.rs, q1, k.go g1⟩
  | false => exact ⟨ρ, S1, Qd, re.tp g1.tp, g1.rs, q1, k.go g1⟩

/-! ### arguments, displays -/
def dNil : TAD := fun _ S Q => Q [] S
def dCons (δ : TED) (α : TAD) : TAD := fun ρ S Q => δ ρ S fun x S1 => α ρ S1 fun xs S2 => Q (x :: xs) S2
theorem da_nil : DA X [] dNil := paW pa_nil fun σ H Q ⟨ρ, S, Qd, re, rs, q, k⟩ => k _ _ _ _ q (.refl rs) (RDs.nil.mpr rfl)
theorem da_cons (ha : DE X e δ) (hr : DA X es α) (hs : starEach (e :: es) X.env = (false, eval e X.env) :: starEach es X.env := by rfl) : DA X (e :: es) (dCons δ α) := paW (pa_cons ha hr hs) fun σ H Q h => by
  obtain ⟨ρ, S, Qd, re, rs, q, k⟩ := h
  refine ⟨ρ, S, _, re, rs, q, fun x S1 v H1 q1 g1 r1 => ?_⟩
  refine ⟨ρ, S1, _, re.tp g1.tp, g1.rs, q1, fun xs S2 vs H2 q2 g2 r2 => ?_⟩
  exact k _ _ _ _ q2 (g1.trans g2) (RDs.cons (r1.tp g2.tp) r2)
/-- *e among arguments, in a display -/
def dStar (δ : TED) (α : TAD) : TAD := fun ρ S Q => δ ρ S fun x S1 => ∃ ds, S1.seq x = some ds ∧ (α ρ S1 fun xs S2 => Q (ds ++ xs) S2)
def dTup (α : TAD) : TED := fun ρ S Q => α ρ S fun xs S1 => xs.length ≤ sizeLine ∧ Q (.tup xs) S1
def dLst (r : Bool) (α : TAD) : TED := fun ρ S Q => α ρ S fun xs S1 => xs.length ≤ sizeLine ∧ newL r xs S1 Q
theorem de_tup {x1} (h : DA X es α) : DE X (.Tuple es x1 pos) (dTup α) := peW (pe_tup h) fun σ H Q hh => by
  obtain ⟨ρ, S, Qd, re, rs, q, k⟩ := hh
  refine ⟨ρ, S, _, re, rs, q, fun xs S1 vs H1 q1 g1 r1 => ?_⟩
  obtain ⟨q1, q2⟩ := q1
  exact ⟨by rw [r1.len]; exact q1, fun p hp => newT_ok g1.rs r1 q2 (k.go g1) p hp⟩
theorem de_lst {r : Bool} (h : DA X es α) : DE X (.List es pos) (dLst r α) := peW (pe_lst h) fun σ H Q hh => by
  obtain ⟨ρ, S, Qd, re, rs, q, k⟩ := hh
  refine ⟨ρ, S, _, re, rs, q, fun xs S1 vs H1 q1 g1 r1 => ?_⟩
  obtain ⟨q1, q2⟩ := q1
  exact ⟨by rw [r1.len]; exact q1, fun p hp => newL_ok g1.rs r1 q2 (k.go g1) p hp⟩

/-! ### calls by values -/
abbrev RLD := List D → Sto → QD → Prop
def LfL (K : PySem.W.Frag) (o : RLD) : List V → Hp → VK → Prop := fun vs H Q => ∃ ds S Qd, RDs K S H ds vs ∧ RS K S H ∧ o ds S Qd ∧ Aft K S H Qd Q
abbrev CallD (X : Cx) (f : Value) (o : RLD) : Prop := CallR X f (LfL X.K o)
theorem callW {f : Value} {r r' : List V → Hp → VK → Prop} (h : CallR X f r) (w : ∀ vs H Q, r' vs H Q → r vs H Q) : CallR X f r' := fun pins s σ H vs us Q I rv q => h pins s σ H vs us Q I rv (w _ _ _ q)
theorem callD_of {f : Value} {r : List V → Hp → VK → Prop} {o : RLD} (h : CallR X f r) (w : ∀ ds vs S H Qd Q, RDs X.K S H ds vs → RS X.K S H → o ds S Qd → Aft X.K S H Qd Q → r vs H Q) : CallD X f o :=
  callW h fun vs H Q ⟨ds, S, Qd, r1, rs, q, k⟩ => w ds vs S H Qd Q r1 rs q k
theorem callD_or {f : Value} {o o' : RLD} (h : CallD X f o) (h' : CallD X f o') : CallD X f (fun ds S Q => o ds S Q ∨ o' ds S Q) :=
  callD_of (h.or h') fun ds vs S H Qd Q r1 rs q k => q.imp (fun q => ⟨ds, S, Qd, r1, rs, q, k⟩) (fun q => ⟨ds, S, Qd, r1, rs, q, k⟩)
theorem callD_W {f : Value} {o o' : RLD} (h : CallD X f o) (w : ∀ ds S Q, o' ds S Q → o ds S Q) : CallD X f o' :=
  callD_of h fun ds vs S H Qd Q r1 rs q k => ⟨ds, S, Qd, r1, rs, w _ _ _ q, k⟩
def dCB (o : RLD) (α : TAD) : TED := fun ρ S Q => α ρ S fun ds S1 => o ds S1 Q
theorem liftL {o : RLD} {K : PySem.W.Frag} (σ : L2.St) (H : Hp) (Q : VK) (h : LE K (dCB o α) σ H Q) : tCB (LfL K o) (LA K α) σ H Q := by
  obtain ⟨ρ, S, Qd, re, rs, q, k⟩ := h
  refine ⟨ρ, S, _, re, rs, q, fun xs S1 vs H1 q1 g1 r1 => ?_⟩
  exact ⟨xs, S1, Qd, r1, g1.rs, q1, k.go g1⟩
variable {x : Str} {p : Pos} {id T : String} {o : RLD}
theorem de_callB (hc : CallD X (.builtin id) o) (hm : X.mg x = none) (hv : bootBuiltins x = some (.builtin id)) (ha : DA X (e :: es) α) (hg : Gl X x := by rfl) (hn : x ≠ "__name__" := by decide) (hdb : (x == ("__debug__" : Str)) = false := by decide)
    (he : starEach (e :: es) X.env = (false, eval e X.env) :: starEach es X.env := by rfl) (hpl : (backTo pos (starEach es X.env)).any (·.1) = false := by rfl) : DE X (.Call (.Name x p) (e :: es) [] pos) (dCB o α) := peW (pe_callB hc hg hm hv ha hn hdb he hpl) liftL
theorem de_callTy (hc : CallD X (.type T) o) (hm : X.mg x = none) (hv : bootBuiltins x = some (.type T)) (ha : DA X (e :: es) α) (hg : Gl X x := by rfl) (hn : x ≠ "__name__" := by decide) (hdb : (x == ("__debug__" : Str)) = false := by decide)
    (he : starEach (e :: es) X.env = (false, eval e X.env) :: starEach es X.env := by rfl) (hpl : (backTo pos (starEach es X.env)).any (·.1) = false := by rfl) : DE X (.Call (.Name x p) (e :: es) [] pos) (dCB o α) := peW (pe_callTy hc hg hm hv ha hn hdb he hpl) liftL

/-! ### calls of the text's own defs -/
/-- a promise: arguments, store, what follows -/
abbrev DSp := List D → Sto → QD → Prop
def LSp (K : PySem.W.Frag) (sp : DSp) : Sp := fun vs H Q _ => ∃ ds S Qd, RDs K S H ds vs ∧ RS K S H ∧ sp ds S Qd ∧ Aft K S H Qd Q
def dCall (sp : DSp) (α : TAD) : TED := fun ρ S Q => α ρ S fun ds S1 => sp ds S1 Q
theorem liftCall {sp : DSp} {K : PySem.W.Frag} {E : XK} (σ : L2.St) (H : Hp) (Q : VK) (h : LE K (dCall sp α) σ H Q) : tCall (LSp K sp) [] E (LA K α) σ H Q := by
  obtain ⟨ρ, S, Qd, re, rs, q, k⟩ := h
  refine ⟨ρ, S, _, re, rs, q, fun xs S1 vs H1 q1 g1 r1 => ?_⟩
  show LSp K sp (vs ++ []) H1 Q E
  rw [List.append_nil]
  exact ⟨xs, S1, Qd, r1, g1.rs, q1, k.go g1⟩
variable {k : Nat} {f : Addr} {fd : FuncData} {ps : List Str} {sp : DSp} {CX : CXT} {E : XK}
theorem de_call (F : FnOk X.prog X.w X.K X.mg X.base CX k f fd ps (LSp X.K sp)) (hr : Room k X.A) (hm : X.mg x = some (.ref f)) (hk : PySem.W.keepIn X.K (.ref f) = true) (hb : Binds X.K fd ps []) (hx : Passes CX X E) (ha : DA X (e :: es) α)
    (hg : Gl X x := by rfl) (hdb : (x == ("__debug__" : Str)) = false := by decide) (he : starEach (e :: es) X.env = (false, eval e X.env) :: starEach es X.env := by rfl) (hpl : (backTo pos (starEach es X.env)).any (·.1) = false := by rfl) :
    DE X (.Call (.Name x p) (e :: es) [] pos) (dCall sp α) := peW (pe_call F hr hg hm hk hb .nil hx ha hdb he hpl) liftCall

/-! ### subscripts, slices, methods by values -/
abbrev IxD (X : Cx) (o : R2D) : Prop := IxR X (Lf2 X.K o)
theorem ixD_of {r : R2} {o : R2D} (h : IxR X r) (w : ∀ d e x y S H Qd Q, RD X.K S H d x → RD X.K S H e y → RS X.K S H → o d e S Qd → Aft X.K S H Qd Q → r x y H Q) : IxD X o :=
  fun va sl pins s σ H x y v u Q I rx ry ⟨d, e, S, Qd, r1, r2, rs, q, k⟩ => h va sl pins s σ H x y v u Q I rx ry (w d e x y S H Qd Q r1 r2 rs q k)
theorem ixD_or {o o' : R2D} (h : IxD X o) (h' : IxD X o') : IxD X (fun d e S Q => o d e S Q ∨ o' d e S Q) :=
  ixD_of (h.or h') fun d e x y S H Qd Q r1 r2 rs q k => q.imp (fun q => ⟨d, e, S, Qd, r1, r2, rs, q, k⟩) (fun q => ⟨d, e, S, Qd, r1, r2, rs, q, k⟩)
theorem ixD_W {o o' : R2D} (h : IxD X o) (w : ∀ d e S Q, o' d e S Q → o d e S Q) : IxD X o' :=
  ixD_of h fun d e x y S H Qd Q r1 r2 rs q k => ⟨d, e, S, Qd, r1, r2, rs, w _ _ _ _ q, k⟩
theorem de_ix {o : R2D} (hr : IxD X o) (ha : DE X a δa) (hb : DE X b δb) (hs : PlainIx b := by exact fun _ _ => rfl) : DE X (.Subscript a b pos) (dOp o δa δb) := peW (pe_ix hr ha hb hs) lift2
abbrev TOD := DEnv → Sto → (Option Int → Sto → Prop) → Prop
def LO (K : PySem.W.Frag) (δ : TOD) : TO := fun σ H Q => ∃ ρ S Qd, RE K S H ρ σ ∧ RS K S H ∧ δ ρ S Qd ∧ ∀ b S' H', Qd b S' → Go K S H S' H' → Q b H'
abbrev DO (X : Cx) (e : Option Expr) (δ : TOD) : Prop := PO X e (LO X.K δ)
def dNoPart : TOD := fun _ S Q => Q none S
def dPart (δ : TED) : TOD := fun ρ S Q => δ ρ S fun x S1 => match x with
  | .int i => Q (some i) S1
  | _ => False
theorem poW {e : Option Expr} {t t' : TO} (h : PO X e t) (w : ∀ σ H Q, t' σ H Q → t σ H Q) : PO X e t' := ⟨fun pins s σ H Q I q => h.run pins s σ H Q I (w σ H Q q)⟩
theorem do_none : DO X none dNoPart := poW po_none fun σ H Q ⟨ρ, S, Qd, re, rs, q, k⟩ => k _ _ _ q (.refl rs)
theorem do_some (h : DE X e δ) : DO X (some e) (dPart δ) := poW (po_some h) fun σ H Q hh => by
  obtain ⟨ρ, S, Qd, re, rs, q, k⟩ := hh
  refine ⟨ρ, S, _, re, rs, q, fun x S1 v H1 q1 g1 r1 => ?_⟩
  try dsimp only at q1
  split at q1
  · rw [RD] at r1
    exact ⟨_, r1, k _ _ _ q1 g1⟩
  · exact q1.elim
abbrev RSlD := D → Option Int → Option Int → Sto → QD → Prop
def LfSl (K : PySem.W.Frag) (o : RSlD) : V → Option Int → Option Int → Hp → VK → Prop := fun x lo hi H Q => ∃ d S Qd, RD K S H d x ∧ RS K S H ∧ o d lo hi S Qd ∧ Aft K S H Qd Q
abbrev SlD (X : Cx) (o : RSlD) : Prop := SlR X (LfSl X.K o)
theorem slD_of {r : V → Option Int → Option Int → Hp → VK → Prop} {o : RSlD} (h : SlR X r) (w : ∀ d x lo hi S H Qd Q, RD X.K S H d x → RS X.K S H → o d lo hi S Qd → Aft X.K S H Qd Q → r x lo hi H Q) : SlD X o :=
  fun pins s σ H x v vl vu lo hi sl Q I rx hs pl pu ⟨d, S, Qd, r1, rs, q, k⟩ => h pins s σ H x v vl vu lo hi sl Q I rx hs pl pu (w d x lo hi S H Qd Q r1 rs q k)
theorem slD_or {o o' : RSlD} (h : SlD X o) (h' : SlD X o') : SlD X (fun d lo hi S Q => o d lo hi S Q ∨ o' d lo hi S Q) :=
  slD_of (h.or h') fun d x lo hi S H Qd Q r1 rs q k => q.imp (fun q => ⟨d, S, Qd, r1, rs, q, k⟩) (fun q => ⟨d, S, Qd, r1, rs, q, k⟩)
theorem slD_W {o o' : RSlD} (h : SlD X o) (w : ∀ d lo hi S Q, o' d lo hi S Q → o d lo hi S Q) : SlD X o' :=
  slD_of h fun d x lo hi S H Qd Q r1 rs q k => ⟨d, S, Qd, r1, rs, w _ _ _ _ _ q, k⟩
def dSl (o : RSlD) (δ : TED) (l h : TOD) : TED := fun ρ S Q => δ ρ S fun x S1 => l ρ S1 fun lo S2 => h ρ S2 fun hi S3 => o x lo hi S3 Q
variable {ol oh : TOD} {lo hi : Option Expr} {p2 : Pos}
theorem de_slice {o : RSlD} (hr : SlD X o) (he : DE X e δ) (hl : DO X lo ol) (hu : DO X hi oh) : DE X (.Subscript e (.Slice lo hi none p2) pos) (dSl o δ ol oh) := peW (pe_slice hr he hl hu) fun σ H Q hh => by
  obtain ⟨ρ, S, Qd, re, rs, q, k⟩ := hh
  refine ⟨ρ, S, _, re, rs, q, fun x S1 v H1 q1 g1 r1 => ?_⟩
  refine ⟨ρ, S1, _, re.tp g1.tp, g1.rs, q1, fun l S2 H2 q2 g2 => ?_⟩
  refine ⟨ρ, S2, _, re.tp (g1.trans g2).tp, g2.rs, q2, fun h S3 H3 q3 g3 => ?_⟩
  exact ⟨x, S3, Qd, r1.tp (g2.trans g3).tp, g3.rs, q3, k.go ((g1.trans g2).trans g3)⟩

/-! ### methods of lists -/
abbrev RMD := D → List D → Sto → QD → Prop
def LfM (K : PySem.W.Frag) (o : RMD) : V → List V → Hp → VK → Prop := fun x xs H Q => ∃ d ds S Qd, RD K S H d x ∧ RDs K S H ds xs ∧ RS K S H ∧ o d ds S Qd ∧ Aft K S H Qd Q
abbrev MtD (X : Cx) (id : String) (o : RMD) : Prop := MtR X id (LfM X.K o)
theorem mtD_of {id : String} {r : V → List V → Hp → VK → Prop} {o : RMD} (h : MtR X id r) (w : ∀ d ds x xs S H Qd Q, RD X.K S H d x → RDs X.K S H ds xs → RS X.K S H → o d ds S Qd → Aft X.K S H Qd Q → r x xs H Q) : MtD X id o :=
  fun pins s σ H x xs v us Q I rx rxs ⟨d, ds, S, Qd, r1, r2, rs, q, k⟩ => h pins s σ H x xs v us Q I rx rxs (w d ds x xs S H Qd Q r1 r2 rs q k)
def dBM (o : RMD) (δ : TED) (α : TAD) : TED := fun ρ S Q => δ ρ S fun x S1 => (∃ ds, S1.list x = some ds) ∧ α ρ S1 fun xs S2 => o x xs S2 Q
variable {name : Str} {apos cpos : Pos} {ob : Expr}
theorem de_bm {o : RMD} (pa : PlainAttrs "list") (slot : Slot "list" name id) (hty : typeOf (.builtin id) = pure (.type "method_descriptor")) (hm : MtD X id o) (ho : DE X ob δ) (ha : DA X (e :: es) α)
    (hbase : attributeBase ob name X.env (eval ob X.env) = eval ob X.env := by rfl)
    (hfew : ((backTo cpos (starEach (e :: es) X.env)).all (fun x => !x.1) && (backToKw cpos (keywordEach [] X.env)).all (fun x => x.1.isSome)
      && decide ((e :: es).length + ([] : List Keyword).length + (if ([] : List Keyword).isEmpty then 0 else 1) < 30)) = true := by rfl)
    (hline : (apos.endLine == cpos.line) = true := by rfl) (hs : starEach (e :: es) X.env = (false, eval e X.env) :: starEach es X.env := by rfl) (hplain : (backTo cpos (starEach es X.env)).any (·.1) = false := by rfl) :
    DE X (.Call (.Attribute ob name apos) (e :: es) [] cpos) (dBM o δ α) := peW (pe_bm pa slot hty hm ho ha hbase hfew hline hs hplain) fun σ H Q hh => by
  obtain ⟨ρ, S, Qd, re, rs, q, k⟩ := hh
  refine ⟨ρ, S, _, re, rs, q, fun x S1 v H1 q1 g1 r1 => ?_⟩
  obtain ⟨⟨ds, hds⟩, q1⟩ := q1
  obtain ⟨a, vs, e1, e2, e3⟩ := list_at hds r1 g1.rs
  refine ⟨by rw [e1]; exact .inl ⟨rfl, vs, .of e2⟩, ρ, S1, _, re.tp g1.tp, g1.rs, q1, fun xs S2 ws H2 q2 g2 r2 => ?_⟩
  exact ⟨x, xs, S2, Qd, r1.tp g2.tp, r2, g2.rs, q2, k.go (g1.trans g2)⟩
theorem de_bm0 {o : RMD} (pa : PlainAttrs "list") (slot : Slot "list" name id) (hty : typeOf (.builtin id) = pure (.type "method_descriptor")) (hm : MtD X id o) (ho : DE X ob δ)
    (hbase : attributeBase ob name X.env (eval ob X.env) = eval ob X.env := by rfl) (hline : (apos.endLine == cpos.line) = true := by rfl) : DE X (.Call (.Attribute ob name apos) [] [] cpos) (dBM o δ dNil) := peW (pe_bm0 pa slot hty hm ho hbase hline) fun σ H Q hh => by
  obtain ⟨ρ, S, Qd, re, rs, q, k⟩ := hh
  refine ⟨ρ, S, _, re, rs, q, fun x S1 v H1 q1 g1 r1 => ?_⟩
  obtain ⟨⟨ds, hds⟩, q1⟩ := q1
  obtain ⟨a, vs, e1, e2, e3⟩ := list_at hds r1 g1.rs
  exact ⟨by rw [e1]; exact .inl ⟨rfl, vs, .of e2⟩, x, [], S1, Qd, r1, RDs.nil.mpr rfl, g1.rs, q1, k.go g1⟩
end
end PL
/-! zip of two, of three, enumerate: over lists and tuples in any mix -/
namespace PL
open PySem PySem.Spec PyProof.Rows L2

/-- a list (true) or a tuple (false) -/
def Sq (b : Bool) (K : PySem.W.Frag) (H : Hp) (a : Addr) (xs : List V) : Prop := match b with
  | true => SqL K H a xs
  | false => SqT K H a xs
def SqIs (b : Bool) (h : Heap) (a : Addr) (its : Array Value) : Prop := match b with
  | true => h.IsList a its
  | false => h.IsTuple a its
def SqIt (b : Bool) (h : Heap) (it a : Addr) (i : Nat) : Prop := match b with
  | true => h.IsListIter it a i
  | false => h.IsTupleIter it a i
def sqO (b : Bool) (a : Addr) : Obj := match b with
  | true => { cls := .type "list_iterator", data := .fields #[.ref a, .int 0 0] }
  | false => { cls := .type "tuple_iterator", data := .fields #[.ref a, .int 0 0] }
theorem sq_begins (b : Bool) (a : Addr) (its : Array Value) : Begins (.ref a) (sqO b a) (fun h => SqIs b h a its) := by
  cases b with
  | true => exact begins_list a its
  | false => exact begins_tuple a its
theorem sq_draws {prog : Program} {w : World} {A : Around} (b : Bool) (hh : A.handled = none) (it a : Addr) (hne : a ≠ it) (its : Array Value) :
    Draws prog w A it [it, a] its.size (fun i v => its[i]? = some v) (fun i h => SqIt b h it a i ∧ SqIs b h a its) := by
  cases b with
  | true => exact Draws.list hh it a hne its
  | false => exact Draws.tuple hh it a hne its
section
variable {X : Cx} {pins : List (Addr × Obj)} {σ : L2.St} {H : Hp} {s : Shared} {a : Addr} {xs ys : List V} {b : Bool}
theorem sq_get (I : Inv X pins σ H s) (h : Sq b X.K H a xs) : ∃ its : List Value, Vals xs its ∧ SqIs b s.heap a its.toArray ∧ a < s.heap.objs.size := by
  cases b with
  | true => obtain ⟨its, rv, p, _⟩ := I.list h; exact ⟨its, rv, p.isList, p.lt⟩
  | false => obtain ⟨its, rv, p, _⟩ := I.tuple h; obtain ⟨o, ho, r⟩ := id p; exact ⟨its, rv, ⟨o, ho, r⟩, Heap.lt_size ho⟩
theorem sq_inj (I : Inv X pins σ H s) (h : Sq b X.K H a xs) (h' : Sq b X.K H a ys) : xs = ys := by
  cases b with
  | true => exact I.list_inj h h'
  | false => exact I.tuple_inj h h'
theorem sqIt_obj {h : Heap} {it : Addr} {i : Nat} (st : SqIt b h it a i) : ∃ o, h.get? it = some o ∧ ∀ v, o.data ≠ .cell v := by
  cases b <;> (obtain ⟨o, e, _, d⟩ := st; exact ⟨o, e, fun v z => by rw [d] at z; cases z⟩)
theorem sqIt_at {h h' : Heap} {it : Addr} {i : Nat} (st : SqIt b h it a i) (k : ∀ o, h.get? it = some o → h'.get? it = some o) : SqIt b h' it a i := by
  cases b with
  | true => exact Heap.IsListIter.at st k
  | false => exact Heap.IsTupleIter.at st k
theorem sqIt_lt {h : Heap} {it : Addr} {i : Nat} (st : SqIt b h it a i) : it < h.objs.size := by obtain ⟨o, e, _⟩ := sqIt_obj st; exact Heap.lt_size e
theorem sqO_it {h : Heap} {it : Addr} (e : h.get? it = some (sqO b a)) : SqIt b h it a 0 := by
  cases b <;> exact ⟨_, e, rfl, rfl⟩
theorem sq_ne {K : PySem.W.Frag} {it : Addr} {h : Heap} {i : Nat} {its : Array Value} (st : SqIt b h it a i) (q : SqIs b h a its) : a ≠ it := by
  intro e; subst e
  cases b with
  | true =>
    obtain ⟨o, e, c, d⟩ := st
    obtain ⟨o', e', c', _⟩ := q
    rw [e] at e'; cases e'; rw [c] at c'; injection c' with z; exact absurd z (by decide)
  | false =>
    obtain ⟨o, e, c, d⟩ := st
    obtain ⟨o', e', c', _⟩ := q
    rw [e] at e'; cases e'; rw [c] at c'; injection c' with z; exact absurd z (by decide)
end

/-! ### enumerate -/
def ItE (b : Bool) (K : PySem.W.Frag) (a : Addr) : It :=
  ⟨fun i H => ∃ (xs : List V) (x : V), Sq b K H a xs ∧ xs[i]? = some x, fun i H v H' => ∃ T x, v = .ref T ∧ H T = none ∧ H' = upd H T (.tup [.int (i : Nat), x]) ∧ ∀ xs, Sq b K H a xs → xs[i]? = some x, fun i H => ∃ xs : List V, Sq b K H a xs ∧ xs.length = i⟩
theorem turn_E {P : Program} {w : World} {K : PySem.W.Frag} {elts : List Expr} {kk : Nat} {tpos : Pos} (b : Bool) (a e it : Addr) :
    Turn P w K (.Tuple elts kk tpos) (ItE b K a) [e, it] e (fun i h => (∃ old, IsEnum h e it ((i : Nat) : Int) old) ∧ SqIt b h it a i ∧ e ≠ it ∧ e ≠ a) where
  mem := by simp
  obj := fun i h st c hc => by
    obtain ⟨⟨old, he⟩, hi, _⟩ := st
    have e' : c = e ∨ c = it := by simpa using hc
    rcases e' with z | z
    · rw [z]; exact ⟨_, he, fun v q => nomatch q⟩
    · rw [z]; exact sqIt_obj hi
  keep := fun i h h' st k => let ⟨⟨old, he⟩, hi, hne⟩ := st; ⟨⟨old, k e (by simp) _ he⟩, sqIt_at hi fun o q => k it (by simp) o q, hne⟩
  item := by
    intro X hP hw hK hc i pins s σ H E I hf st hg
    subst hP hw hK
    obtain ⟨⟨old, he⟩, hit, hne, hea⟩ := st
    obtain ⟨xs, x, hq, hx⟩ := hg
    obtain ⟨its, rv, p, _⟩ := sq_get I hq
    obtain ⟨u, hu, ru⟩ := rv.get hx
    have hel : e < s.heap.objs.size := Heap.lt_size he
    have hil := sqIt_lt hit
    have hai : a ≠ it := sq_ne (K := X.K) hit p
    have hlt : i < its.toArray.size := by
      obtain ⟨h1, _⟩ := List.getElem?_eq_some_iff.mp hu
      simpa using h1
    refine wpAny_pyNext_enum_itemC (sq_draws (prog := X.prog) (w := X.w) (A := X.A.in1) b (I.ok.hd hc) it a hai its.toArray) he ⟨hit, p⟩ hlt hne (by simp [hne, hea]) fun y h' tk hy ho st' hT hsz hk => ?_
    have ey : y = u := by
      have h2 : its[i]? = some y := by simpa using hy
      rw [hu] at h2; exact (Option.some.inj h2).symm
    subst ey
    refine ⟨_, rfl, wpAny_letOwnedTupleGo_enum (s := { s with heap := h', toks := tk + 1 }) ho fun h'' he' sb => ?_⟩
    have hT2 : h''.get? s.heap.objs.size = some { cls := .type "tuple", data := .seq #[.int i tk, y] } := (sb.2 _ (Nat.ne_of_gt hel)).trans hT
    have new : ObjOk X.prog X.w (upd H s.heap.objs.size (.tup [.int (i : Nat), x])) h'' s.heap.objs.size (.tup [.int (i : Nat), x]) :=
      ⟨by show 2 ≤ sizeLine; decide, [.int i tk, y], .cons ⟨_, rfl⟩ (.cons ru .nil), ⟨_, hT2, rfl, _, rfl⟩⟩
    have I1 : Inv X pins σ (upd H s.heap.objs.size (.tup [.int (i : Nat), x])) { s with heap := h'', toks := tk + 1 } :=
      I.turnedNew (ch := [e, it]) (fun b ob hb q => (sb.2 b (fun z => hb (by simp [z]))).trans (hk b ob (fun z => hb (by simp [z])) (fun z => hb (by simp [z])) q)) hf (Nat.le_refl _) new
    refine ⟨.ref s.heap.objs.size, _, I1, rfl, ⟨_, x, rfl, I.hok.fresh (Nat.le_refl _), rfl, fun ys hy => by rw [sq_inj I hy hq]; exact hx⟩, ⟨⟨y, ?_⟩, sqIt_at st'.1 fun o q => (sb.2 it (Ne.symm hne)).trans q, hne, hea⟩, fun b hb => ?_⟩
    · have e1 : ((i + 1 : Nat) : Int) = (i : Int) + 1 := by omega
      rw [e1]; exact he'
    · have hb' : b < s.heap.objs.size := by
        have e' : b = e ∨ b = it := by simpa using hb
        rcases e' with z | z
        · rw [z]; exact hel
        · rw [z]; exact hil
      rw [upd_ne (Nat.ne_of_lt hb')]
      exact (hf b hb).1
  done := by
    intro X hP hw hK hc i pins s σ H E I hf st hg
    subst hP hw hK
    obtain ⟨⟨old, he⟩, hit, hne, hea⟩ := st
    obtain ⟨xs, hq, hx⟩ := hg
    obtain ⟨its, rv, p, _⟩ := sq_get I hq
    have hai : a ≠ it := sq_ne (K := X.K) hit p
    have hl : its.toArray.size = i := by
      have := rv.length
      simp; omega
    refine wpAny_pyNext_enum_endD (sq_draws (prog := X.prog) (w := X.w) (A := X.A.in1) b (I.ok.hd hc) it a hai its.toArray) he ⟨by rw [hl]; exact hit, p⟩ fun h' eb => ⟨rfl, ?_⟩
    obtain ⟨f0, f1, f2, f3, f4, f5⟩ := hf it (by simp)
    exact I.turned (t' := s.toks) (fun b o hb q => eb b o hb q) f0 f1 f3 f4 f5
  self := fun A i s Q E st h => let ⟨⟨_, he⟩, _⟩ := st; wpAny_pyIter_enum he h

theorem meets_enumerate_1B {v : Value} {o : Obj} {H : Heap → Prop} (B : Begins v o H) :
    Meets (Builtin.«enumerate.__new__» ⟨[.type "enumerate", v], []⟩) (fun _ R s => H s.heap ∧
      R (.ok (.ret (.ref (s.heap.push o).objs.size))) { s with heap := (s.heap.push o).push { cls := .type "enumerate", data := .fields #[.none, .bool false, .ref s.heap.objs.size, rawInt 0, .none, .none] } }) :=
  .of_wp fun prog w A R s h => by
    obtain ⟨hp, g, d, tk, os⟩ := s; obtain ⟨h1, h⟩ := h
    have hsub := sub_enumerate
    have q1 : ∀ {A' : Around} {E : Value → Shared → Prop} {Q : Value → Shared → Prop}, Q (.ref hp.objs.size) ⟨hp.push o, g, d, tk, os⟩ → wpAny (model prog w) A' (pyIter v) Q E ⟨hp, g, d, tk, os⟩ :=
      fun q => B.iter prog w _ _ ⟨hp, g, d, tk, os⟩ _ h1 q
    wp_walk using q1
    refine wpAny_stack_any fun st => wpAny_pure ?_
    split
    · rename_i c _ _ _ _ _
      cases (c == Value.type "enumerate")
      · wp_walk using q1
        exact ⟨_, rfl, h⟩
      · wp_walk using q1
        exact ⟨_, rfl, h⟩
    · wp_walk using q1
      exact ⟨_, rfl, h⟩
theorem enum_begins1 {prog : Program} {w : World} {A : Around} {E : Value → Shared → Prop} {s : Shared} {v : Value} {o : Obj} {H : Heap → Prop} {Q : Value → Shared → Prop} (B : Begins v o H) (h1 : H s.heap)
    (h : ∀ h', IsEnum h' (s.heap.objs.size + 1) s.heap.objs.size 0 .none → h'.get? s.heap.objs.size = some o → h'.objs.size = s.heap.objs.size + 2 →
      (∀ b o, s.heap.get? b = some o → h'.get? b = some o) → Q (.ref (s.heap.objs.size + 1)) { s with heap := h' }) :
    wpAny (model prog w) A (call (.type "enumerate") [v]) Q E s := by
  refine callType_new F.called_enumerate (by decide) (F.typeCall_enumerate_1 _) (F.newCall_enumerate_1 _) (fun obj => F.args_object_init_2 obj _) F.entry_enumerate_new
    (meets_enumerate_1B B) ⟨h1, ?_⟩
  have hz : (s.heap.push o).objs.size = s.heap.objs.size + 1 := Heap.size_push ..
  show _ ∧ _
  rw [hz]
  have he : IsEnum ((s.heap.push o).push { cls := .type "enumerate", data := .fields #[.none, .bool false, .ref s.heap.objs.size, rawInt 0, .none, .none] }) (s.heap.objs.size + 1) s.heap.objs.size 0 .none := by
    have := Heap.get?_push_size (s.heap.push o) (o := { cls := .type "enumerate", data := .fields #[.none, .bool false, .ref s.heap.objs.size, rawInt 0, .none, .none] }) rfl
    rw [hz] at this; exact this
  exact ⟨⟨_, he, rfl⟩, h _ he (Heap.get?_push_of_some _ (Heap.get?_push_size _ B.free)) (by rw [Heap.size_push, hz]) fun b o x => Heap.get?_push_of_some _ (Heap.get?_push_of_some _ x)⟩
def iE (K : PySem.W.Frag) (ta : TA) : TI := fun σ H R => ta σ H fun vs H1 => ∃ b a xs, vs = [.ref a] ∧ Sq b K H1 a xs ∧ R (ItE b K a) H1
theorem pi_E {X : Cx} {e : Expr} {ta : TA} {p pos tpos : Pos} {elts : List Expr} {kk : Nat} (hg : Gl X "enumerate") (hm : X.mg "enumerate" = none) (ha : PA X [e] ta) (hs : starEach [e] X.env = [(false, eval e X.env)] := by rfl) :
    PI X (.Tuple elts kk tpos) (.Call (.Name "enumerate" p) [e] [] pos) (iE X.K ta) := by
  refine ⟨fun pins s σ H R I h => ?_⟩
  refine Call_ (ld_blt I hg hm boot_enumerate (PyProof.Rows.callWith_type1 (thn (ha.run pos pins s σ H _ I h) fun us s1 ⟨vs, H1, I1, r1, q1⟩ => ?_) hs rfl))
  obtain ⟨b, a, xs, ex, hq, q⟩ := q1
  subst ex
  cases r1 with
  | cons r rr =>
    cases rr
    cases r
    obtain ⟨its, rv, p', lt⟩ := sq_get I1 hq
    refine enum_begins1 (sq_begins b a its.toArray) p' fun h' he hit hsz hk => wpAny_pyIter_enum he ?_
    have I2 : Inv X pins σ H1 { s1 with heap := h' } := I1.kept (t' := s1.toks) hk
    have hea : s1.heap.objs.size + 1 ≠ a := Nat.ne_of_gt (Nat.lt_succ_of_lt lt)
    refine ⟨s1.heap.objs.size + 1, [s1.heap.objs.size + 1, s1.heap.objs.size], _, _, H1, rfl, I2, turn_E b a (s1.heap.objs.size + 1) s1.heap.objs.size, ⟨⟨.none, he⟩, sqO_it hit, Nat.succ_ne_self _, hea⟩, fun c hc => ?_, q⟩
    have e' : c = s1.heap.objs.size + 1 ∨ c = s1.heap.objs.size := by simpa using hc
    have hle : s1.heap.objs.size ≤ c := by
      rcases e' with z | z
      · rw [z]; exact Nat.le_add_right _ _
      · rw [z]; exact Nat.le_refl _
    exact I1.fpOk hle (I1.hok.fresh hle)
/-! ### zip of two -/
def ItZ2 (b1 b2 : Bool) (K : PySem.W.Frag) (a1 a2 : Addr) : It :=
  ⟨fun i H => ∃ (xs ys : List V) (x y : V), Sq b1 K H a1 xs ∧ Sq b2 K H a2 ys ∧ xs[i]? = some x ∧ ys[i]? = some y,
    fun i H v H' => ∃ T x y, v = .ref T ∧ H T = none ∧ H' = upd H T (.tup [x, y]) ∧ (∀ xs, Sq b1 K H a1 xs → xs[i]? = some x) ∧ ∀ ys, Sq b2 K H a2 ys → ys[i]? = some y,
    fun i H => ∃ xs ys : List V, Sq b1 K H a1 xs ∧ Sq b2 K H a2 ys ∧ i ≤ xs.length ∧ i ≤ ys.length ∧ (xs.length = i ∨ ys.length = i)⟩
/-- the five cells of a zip lie apart, and from what it walks -/
structure Sep2 (z TI TO i1 i2 a1 a2 : Addr) : Prop where
  S : ZipSep2 z TI TO i1 i2 [i1, a1] [i2, a2]
theorem pr_ne (x i a : Nat) (e1 : x ≠ i) (e2 : x ≠ a) : x ∉ [i, a] := fun z => (List.mem_cons.mp z).elim e1 fun z => e2 (List.mem_singleton.mp z)
theorem ad_nn (n i j : Nat) (h : i ≠ j) : n + i ≠ n + j := by omega
theorem ad_n0 (n j : Nat) (h : 0 ≠ j) : n ≠ n + j := by omega
theorem ad_m0 (n j : Nat) (h : 0 ≠ j) : n + j ≠ n := by omega
theorem ad_a (n j a : Nat) (h : a < n) : n + j ≠ a := by omega
theorem ad_a0 (n a : Nat) (h : a < n) : n ≠ a := by omega
theorem sep2_nat (n a1 a2 : Nat) (h1 : a1 < n) (h2 : a2 < n) : @ZipSep2 (n + 4) (n + 2) (n + 3) n (n + 1) [n, a1] [n + 1, a2] :=
  ⟨ad_nn n 2 4 (by decide), ad_nn n 3 4 (by decide), ad_nn n 2 3 (by decide), ad_m0 n 2 (by decide), by simp, pr_ne _ _ _ (ad_m0 n 4 (by decide)) (ad_a n 4 _ h1), pr_ne _ _ _ (ad_m0 n 3 (by decide)) (ad_a n 3 _ h1),
    ad_nn n 2 1 (by decide), by simp, pr_ne _ _ _ (ad_nn n 4 1 (by decide)) (ad_a n 4 _ h2), pr_ne _ _ _ (ad_nn n 3 1 (by decide)) (ad_a n 3 _ h2), pr_ne _ _ _ (ad_n0 n 1 (by decide)) (ad_a0 n _ h2), pr_ne _ _ _ (ad_m0 n 1 (by decide)) (ad_a n 1 _ h1)⟩
theorem sep2_of {n a1 a2 : Addr} (h1 : a1 < n) (h2 : a2 < n) : Sep2 (n + 4) (n + 2) (n + 3) n (n + 1) a1 a2 := ⟨sep2_nat n a1 a2 h1 h2⟩
theorem turn_Z2 {P : Program} {w : World} {K : PySem.W.Frag} {elts : List Expr} {kk : Nat} {tpos : Pos} (b1 b2 : Bool) {a1 a2 z TI TO i1 i2 : Addr} (D : Sep2 z TI TO i1 i2 a1 a2) :
    Turn P w K (.Tuple elts kk tpos) (ItZ2 b1 b2 K a1 a2) [z, TI, TO, i1, i2] z (fun i h => IsZip h z TI TO .none ∧ IsTupOf2 h TI (.ref i1) (.ref i2) ∧ (∃ x y, IsTupOf2 h TO x y) ∧ SqIt b1 h i1 a1 i ∧ SqIt b2 h i2 a2 i) where
  mem := by simp
  obj := fun i h st c hc => by
    obtain ⟨hz, hTI, ⟨x, y, hTO⟩, h1, h2⟩ := st
    have e' : c = z ∨ c = TI ∨ c = TO ∨ c = i1 ∨ c = i2 := by simpa using hc
    rcases e' with q | q | q | q | q
    · rw [q]; exact ⟨_, hz, fun v q => nomatch q⟩
    · rw [q]; exact ⟨_, hTI, fun v q => nomatch q⟩
    · rw [q]; exact ⟨_, hTO, fun v q => nomatch q⟩
    · rw [q]; exact sqIt_obj h1
    · rw [q]; exact sqIt_obj h2
  keep := fun i h h' st k => by
    obtain ⟨hz, hTI, ⟨x, y, hTO⟩, h1, h2⟩ := st
    exact ⟨k z (by simp) _ hz, k TI (by simp) _ hTI, ⟨x, y, k TO (by simp) _ hTO⟩, sqIt_at h1 fun o q => k i1 (by simp) o q, sqIt_at h2 fun o q => k i2 (by simp) o q⟩
  item := by
    intro X hP hw hK hc i pins s σ H E I hf st hg
    subst hP hw hK
    obtain ⟨hz, hTI, ⟨x0, y0, hTO⟩, h1, h2⟩ := st
    obtain ⟨xs, ys, x, y, hqx, hqy, hx, hy⟩ := hg
    obtain ⟨its, rv, p, _⟩ := sq_get I hqx
    obtain ⟨its2, rv2, p2, _⟩ := sq_get I hqy
    obtain ⟨u, hu, ru⟩ := rv.get hx
    obtain ⟨u2, hu2, ru2⟩ := rv2.get hy
    have hzl : z < s.heap.objs.size := Heap.lt_size hz
    have l1 : i < its.toArray.size := by
      obtain ⟨h1, _⟩ := List.getElem?_eq_some_iff.mp hu
      simpa using h1
    have l2 : i < its2.toArray.size := by
      obtain ⟨h1, _⟩ := List.getElem?_eq_some_iff.mp hu2
      simpa using h1
    refine wpAny_pyNext_zipD2_item D.S (sq_draws (prog := X.prog) (w := X.w) (A := X.A.in1) b1 (I.ok.hd hc) i1 a1 (sq_ne (K := X.K) h1 p) its.toArray) (sq_draws (prog := X.prog) (w := X.w) (A := X.A.in1) b2 (I.ok.hd hc) i2 a2 (sq_ne (K := X.K) h2 p2) its2.toArray) hz hTI hTO ⟨h1, p⟩ ⟨h2, p2⟩ l1 l2 fun y1 y2 h' tk hy1 hy2 z' TO' h1' h2' hT hsz hk => ?_
    have ey : y1 = u := by
      have h2 : its[i]? = some y1 := by simpa using hy1
      rw [hu] at h2; exact (Option.some.inj h2).symm
    have ey2 : y2 = u2 := by
      have h2 : its2[i]? = some y2 := by simpa using hy2
      rw [hu2] at h2; exact (Option.some.inj h2).symm
    subst ey; subst ey2
    refine ⟨_, rfl, wpAny_letOwnedTupleGo_zip (s := { s with heap := h', toks := tk }) z' fun h'' z'' sb => ?_⟩
    have hT2 : h''.get? s.heap.objs.size = some { cls := .type "tuple", data := .seq #[y1, y2] } := (sb.2 _ (Nat.ne_of_gt hzl)).trans hT
    have new : ObjOk X.prog X.w (upd H s.heap.objs.size (.tup [x, y])) h'' s.heap.objs.size (.tup [x, y]) :=
      ⟨by show 2 ≤ sizeLine; decide, [y1, y2], .cons ru (.cons ru2 .nil), ⟨_, hT2, rfl, _, rfl⟩⟩
    have I1 : Inv X pins σ (upd H s.heap.objs.size (.tup [x, y])) { s with heap := h'', toks := tk } :=
      I.turnedNew (ch := [z, TI, TO, i1, i2]) (fun c o hb q => (sb.2 c (fun q' => hb (by simp [q']))).trans (hk c o (fun q' => hb (by simp [q'])) (fun q' => hb (by simp [q'])) (fun q' => hb (by simp [q'])) (fun q' => hb (by simp [q'])) q)) hf (Nat.le_refl _) new
    refine ⟨.ref s.heap.objs.size, _, I1, rfl, ⟨_, x, y, rfl, I.hok.fresh (Nat.le_refl _), rfl, fun l hl => by rw [sq_inj I hl hqx]; exact hx, fun l hl => by rw [sq_inj I hl hqy]; exact hy⟩, ⟨z'', ?_, ⟨y1, y2, ?_⟩, ?_, ?_⟩, fun c hcm => ?_⟩
    · exact (sb.2 _ D.S.TIz).trans (hk _ _ D.S.TIz D.S.TITO D.S.TIi1 D.S.TIi2 hTI)
    · exact (sb.2 _ D.S.TOz).trans TO'
    · exact sqIt_at h1'.1 fun o q => (sb.2 _ (Ne.symm D.S.zi1)).trans q
    · exact sqIt_at h2'.1 fun o q => (sb.2 _ (Ne.symm D.S.zi2)).trans q
    · have hlt : c < s.heap.objs.size := by
        have e' : c = z ∨ c = TI ∨ c = TO ∨ c = i1 ∨ c = i2 := by simpa using hcm
        rcases e' with q | q | q | q | q
        · rw [q]; exact hzl
        · rw [q]; exact Heap.lt_size hTI
        · rw [q]; exact Heap.lt_size hTO
        · rw [q]; exact sqIt_lt h1
        · rw [q]; exact sqIt_lt h2
      rw [upd_ne (Nat.ne_of_lt hlt)]
      exact (hf c hcm).1
  done := by
    intro X hP hw hK hc i pins s σ H E I hf st hg
    subst hP hw hK
    obtain ⟨hz, hTI, ⟨x0, y0, hTO⟩, h1, h2⟩ := st
    obtain ⟨xs, ys, hqx, hqy, le1, le2, hend⟩ := hg
    obtain ⟨its, rv, p, _⟩ := sq_get I hqx
    obtain ⟨its2, rv2, p2, _⟩ := sq_get I hqy
    have l1 := rv.length
    have l2 := rv2.length
    exact wpAny_pyNext_zipD2_end D.S (sq_draws (prog := X.prog) (w := X.w) (A := X.A.in1) b1 (I.ok.hd hc) i1 a1 (sq_ne (K := X.K) h1 p) its.toArray) (sq_draws (prog := X.prog) (w := X.w) (A := X.A.in1) b2 (I.ok.hd hc) i2 a2 (sq_ne (K := X.K) h2 p2) its2.toArray) hz hTI hTO ⟨h1, p⟩ ⟨h2, p2⟩
      (by simp; omega) (by simp; omega) (by simp; omega) fun h' tk hk => ⟨rfl, I.turnedL (ch := [z, TI, TO, i1, i2]) (fun c o hb q =>
      hk c o (fun q' => hb (by simp [q'])) (fun q' => hb (by simp [q'])) (fun q' => hb (by simp [q'])) (fun q' => hb (by simp [q'])) q) hf⟩
  self := fun A i s Q E st h => wpAny_pyIter_zip st.1 h
def iZ2 (K : PySem.W.Frag) (ta : TA) : TI := fun σ H R => ta σ H fun vs H1 => ∃ b1 b2 a1 a2 xs ys, vs = [.ref a1, .ref a2] ∧ Sq b1 K H1 a1 xs ∧ Sq b2 K H1 a2 ys ∧ R (ItZ2 b1 b2 K a1 a2) H1
theorem pi_Z2 {X : Cx} {e e2 : Expr} {ta : TA} {p pos tpos : Pos} {elts : List Expr} {kk : Nat} (hg : Gl X "zip") (hm : X.mg "zip" = none) (ha : PA X [e, e2] ta)
    (hs : starEach [e, e2] X.env = (false, eval e X.env) :: starEach [e2] X.env := by rfl) (hpl : (backTo pos (starEach [e2] X.env)).any (·.1) = false := by rfl) :
    PI X (.Tuple elts kk tpos) (.Call (.Name "zip" p) [e, e2] [] pos) (iZ2 X.K ta) := by
  refine ⟨fun pins s σ H R I h => ?_⟩
  refine Call_ (ld_blt I hg hm PyProof.Rows.boot_zip (PyProof.Rows.callWith_type1 (thn (ha.run pos pins s σ H _ I h) fun us s1 ⟨vs, H1, I1, r1, q1⟩ => ?_) hs hpl))
  obtain ⟨b1, b2, a1, a2, xs, ys, ex, hqx, hqy, q⟩ := q1
  subst ex
  cases r1 with
  | cons r rr =>
    cases rr with
    | cons r' rr =>
      cases rr
      cases r
      cases r'
      have fresh5 : ∀ c, c ∈ [s1.heap.objs.size + 4, s1.heap.objs.size + 2, s1.heap.objs.size + 3, s1.heap.objs.size, s1.heap.objs.size + 1] → FpOk X pins H1 c := fun c hcm => by
        have e' : c = s1.heap.objs.size + 4 ∨ c = s1.heap.objs.size + 2 ∨ c = s1.heap.objs.size + 3 ∨ c = s1.heap.objs.size ∨ c = s1.heap.objs.size + 1 := by simpa using hcm
        have hle : s1.heap.objs.size ≤ c := by
          rcases e' with z | z | z | z | z
          · rw [z]; exact Nat.le_add_right _ _
          · rw [z]; exact Nat.le_add_right _ _
          · rw [z]; exact Nat.le_add_right _ _
          · rw [z]; exact Nat.le_refl _
          · rw [z]; exact Nat.le_add_right _ _
        exact I1.fpOk hle (I1.hok.fresh hle)
      obtain ⟨its, rv, p1, lt1⟩ := sq_get I1 hqx
      obtain ⟨its2, rv2, p2, lt2⟩ := sq_get I1 hqy
      refine zip_begins2 (sq_begins b1 a1 its.toArray) (sq_begins b2 a2 its2.toArray) p1 p2 fun h' hz hTI hTO h1 h2 hsz hk => wpAny_pyIter_zip hz ?_
      have I2 : Inv X pins σ H1 { s1 with heap := h' } := I1.kept (t' := s1.toks) hk
      exact ⟨s1.heap.objs.size + 4, [s1.heap.objs.size + 4, s1.heap.objs.size + 2, s1.heap.objs.size + 3, s1.heap.objs.size, s1.heap.objs.size + 1], _, _, H1, rfl, I2, turn_Z2 b1 b2 (sep2_of lt1 lt2), ⟨hz, hTI, ⟨_, _, hTO⟩, sqO_it h1, sqO_it h2⟩, fresh5, q⟩

/-! ### zip of three -/
def ItZ3 (b1 b2 b3 : Bool) (K : PySem.W.Frag) (a1 a2 a3 : Addr) : It :=
  ⟨fun i H => ∃ (xs ys zs : List V) (x y z : V), Sq b1 K H a1 xs ∧ Sq b2 K H a2 ys ∧ Sq b3 K H a3 zs ∧ xs[i]? = some x ∧ ys[i]? = some y ∧ zs[i]? = some z,
    fun i H v H' => ∃ T x y z, v = .ref T ∧ H T = none ∧ H' = upd H T (.tup [x, y, z]) ∧ (∀ xs, Sq b1 K H a1 xs → xs[i]? = some x) ∧ (∀ ys, Sq b2 K H a2 ys → ys[i]? = some y) ∧ ∀ zs, Sq b3 K H a3 zs → zs[i]? = some z,
    fun i H => ∃ xs ys zs : List V, Sq b1 K H a1 xs ∧ Sq b2 K H a2 ys ∧ Sq b3 K H a3 zs ∧ i ≤ xs.length ∧ i ≤ ys.length ∧ i ≤ zs.length ∧ (xs.length = i ∨ ys.length = i ∨ zs.length = i)⟩
structure Sep3 (z TI TO i1 i2 i3 a1 a2 a3 : Addr) : Prop where
  S : ZipSep3 z TI TO i1 i2 i3 [i1, a1] [i2, a2] [i3, a3]
theorem sep3_nat (n a1 a2 a3 : Nat) (h1 : a1 < n) (h2 : a2 < n) (h3 : a3 < n) : @ZipSep3 (n + 5) (n + 3) (n + 4) n (n + 1) (n + 2) [n, a1] [n + 1, a2] [n + 2, a3] :=
  ⟨ad_nn n 3 5 (by decide), ad_nn n 4 5 (by decide), ad_nn n 3 4 (by decide),
    ad_m0 n 3 (by decide), by simp, pr_ne _ _ _ (ad_m0 n 5 (by decide)) (ad_a n 5 _ h1), pr_ne _ _ _ (ad_m0 n 4 (by decide)) (ad_a n 4 _ h1),
    ad_nn n 3 1 (by decide), by simp, pr_ne _ _ _ (ad_nn n 5 1 (by decide)) (ad_a n 5 _ h2), pr_ne _ _ _ (ad_nn n 4 1 (by decide)) (ad_a n 4 _ h2),
    ad_nn n 3 2 (by decide), by simp, pr_ne _ _ _ (ad_nn n 5 2 (by decide)) (ad_a n 5 _ h3), pr_ne _ _ _ (ad_nn n 4 2 (by decide)) (ad_a n 4 _ h3),
    pr_ne _ _ _ (ad_n0 n 1 (by decide)) (ad_a0 n _ h2), pr_ne _ _ _ (ad_n0 n 2 (by decide)) (ad_a0 n _ h3), pr_ne _ _ _ (ad_m0 n 1 (by decide)) (ad_a n 1 _ h1), pr_ne _ _ _ (ad_nn n 1 2 (by decide)) (ad_a n 1 _ h3), pr_ne _ _ _ (ad_m0 n 2 (by decide)) (ad_a n 2 _ h1), pr_ne _ _ _ (ad_nn n 2 1 (by decide)) (ad_a n 2 _ h2)⟩
theorem sep3_of {n a1 a2 a3 : Addr} (h1 : a1 < n) (h2 : a2 < n) (h3 : a3 < n) : Sep3 (n + 5) (n + 3) (n + 4) n (n + 1) (n + 2) a1 a2 a3 := ⟨sep3_nat n a1 a2 a3 h1 h2 h3⟩
theorem turn_Z3 {P : Program} {w : World} {K : PySem.W.Frag} {elts : List Expr} {kk : Nat} {tpos : Pos} (b1 b2 b3 : Bool) {a1 a2 a3 z TI TO i1 i2 i3 : Addr} (D : Sep3 z TI TO i1 i2 i3 a1 a2 a3) :
    Turn P w K (.Tuple elts kk tpos) (ItZ3 b1 b2 b3 K a1 a2 a3) [z, TI, TO, i1, i2, i3] z (fun i h => IsZip h z TI TO .none ∧ IsTupOf3 h TI (.ref i1) (.ref i2) (.ref i3) ∧ (∃ x y u, IsTupOf3 h TO x y u) ∧ SqIt b1 h i1 a1 i ∧ SqIt b2 h i2 a2 i ∧ SqIt b3 h i3 a3 i) where
  mem := by simp
  obj := fun i h st c hc => by
    obtain ⟨hz, hTI, ⟨x, y, u, hTO⟩, h1, h2, h3⟩ := st
    have e' : c = z ∨ c = TI ∨ c = TO ∨ c = i1 ∨ c = i2 ∨ c = i3 := by simpa using hc
    rcases e' with q | q | q | q | q | q
    · rw [q]; exact ⟨_, hz, fun v q => nomatch q⟩
    · rw [q]; exact ⟨_, hTI, fun v q => nomatch q⟩
    · rw [q]; exact ⟨_, hTO, fun v q => nomatch q⟩
    · rw [q]; exact sqIt_obj h1
    · rw [q]; exact sqIt_obj h2
    · rw [q]; exact sqIt_obj h3
  keep := fun i h h' st k => by
    obtain ⟨hz, hTI, ⟨x, y, u, hTO⟩, h1, h2, h3⟩ := st
    exact ⟨k z (by simp) _ hz, k TI (by simp) _ hTI, ⟨x, y, u, k TO (by simp) _ hTO⟩, sqIt_at h1 fun o q => k i1 (by simp) o q, sqIt_at h2 fun o q => k i2 (by simp) o q, sqIt_at h3 fun o q => k i3 (by simp) o q⟩
  item := by
    intro X hP hw hK hc i pins s σ H E I hf st hg
    subst hP hw hK
    obtain ⟨hz, hTI, ⟨x0, y0, z0, hTO⟩, h1, h2, h3⟩ := st
    obtain ⟨xs, ys, zs, x, y, zz, hqx, hqy, hqz, hx, hy, hzz⟩ := hg
    obtain ⟨its, rv, p, _⟩ := sq_get I hqx
    obtain ⟨its2, rv2, p2, _⟩ := sq_get I hqy
    obtain ⟨its3, rv3, p3, _⟩ := sq_get I hqz
    obtain ⟨u, hu, ru⟩ := rv.get hx
    obtain ⟨u2, hu2, ru2⟩ := rv2.get hy
    obtain ⟨u3, hu3, ru3⟩ := rv3.get hzz
    have hzl : z < s.heap.objs.size := Heap.lt_size hz
    have l1 : i < its.toArray.size := by
      obtain ⟨h1, _⟩ := List.getElem?_eq_some_iff.mp hu
      simpa using h1
    have l2 : i < its2.toArray.size := by
      obtain ⟨h1, _⟩ := List.getElem?_eq_some_iff.mp hu2
      simpa using h1
    have l3 : i < its3.toArray.size := by
      obtain ⟨h1, _⟩ := List.getElem?_eq_some_iff.mp hu3
      simpa using h1
    refine wpAny_pyNext_zipD3_item D.S (sq_draws (prog := X.prog) (w := X.w) (A := X.A.in1) b1 (I.ok.hd hc) i1 a1 (sq_ne (K := X.K) h1 p) its.toArray) (sq_draws (prog := X.prog) (w := X.w) (A := X.A.in1) b2 (I.ok.hd hc) i2 a2 (sq_ne (K := X.K) h2 p2) its2.toArray) (sq_draws (prog := X.prog) (w := X.w) (A := X.A.in1) b3 (I.ok.hd hc) i3 a3 (sq_ne (K := X.K) h3 p3) its3.toArray)
      hz hTI hTO ⟨h1, p⟩ ⟨h2, p2⟩ ⟨h3, p3⟩ l1 l2 l3 fun y1 y2 y3 h' tk hy1 hy2 hy3 z' TO' h1' h2' h3' hT hsz hk => ?_
    have ey : y1 = u := by
      have h2 : its[i]? = some y1 := by simpa using hy1
      rw [hu] at h2; exact (Option.some.inj h2).symm
    have ey2 : y2 = u2 := by
      have h2 : its2[i]? = some y2 := by simpa using hy2
      rw [hu2] at h2; exact (Option.some.inj h2).symm
    have ey3 : y3 = u3 := by
      have h2 : its3[i]? = some y3 := by simpa using hy3
      rw [hu3] at h2; exact (Option.some.inj h2).symm
    subst ey; subst ey2; subst ey3
    refine ⟨_, rfl, wpAny_letOwnedTupleGo_zip (s := { s with heap := h', toks := tk }) z' fun h'' z'' sb => ?_⟩
    have hT2 : h''.get? s.heap.objs.size = some { cls := .type "tuple", data := .seq #[y1, y2, y3] } := (sb.2 _ (Nat.ne_of_gt hzl)).trans hT
    have new : ObjOk X.prog X.w (upd H s.heap.objs.size (.tup [x, y, zz])) h'' s.heap.objs.size (.tup [x, y, zz]) :=
      ⟨by show 3 ≤ sizeLine; decide, [y1, y2, y3], .cons ru (.cons ru2 (.cons ru3 .nil)), ⟨_, hT2, rfl, _, rfl⟩⟩
    have I1 : Inv X pins σ (upd H s.heap.objs.size (.tup [x, y, zz])) { s with heap := h'', toks := tk } :=
      I.turnedNew (ch := [z, TI, TO, i1, i2, i3]) (fun c o hb q => (sb.2 c (fun q' => hb (by simp [q']))).trans (hk c o (fun q' => hb (by simp [q'])) (fun q' => hb (by simp [q'])) (fun q' => hb (by simp [q'])) (fun q' => hb (by simp [q'])) (fun q' => hb (by simp [q'])) q)) hf (Nat.le_refl _) new
    refine ⟨.ref s.heap.objs.size, _, I1, rfl, ⟨_, x, y, zz, rfl, I.hok.fresh (Nat.le_refl _), rfl, fun l hl => by rw [sq_inj I hl hqx]; exact hx, fun l hl => by rw [sq_inj I hl hqy]; exact hy, fun l hl => by rw [sq_inj I hl hqz]; exact hzz⟩, ⟨z'', ?_, ⟨y1, y2, y3, ?_⟩, ?_, ?_, ?_⟩, fun c hcm => ?_⟩
    · exact (sb.2 _ D.S.TIz).trans (hk _ _ D.S.TIz D.S.TITO D.S.TIi1 D.S.TIi2 D.S.TIi3 hTI)
    · exact (sb.2 _ D.S.TOz).trans TO'
    · exact sqIt_at h1'.1 fun o q => (sb.2 _ (Ne.symm D.S.zi1)).trans q
    · exact sqIt_at h2'.1 fun o q => (sb.2 _ (Ne.symm D.S.zi2)).trans q
    · exact sqIt_at h3'.1 fun o q => (sb.2 _ (Ne.symm D.S.zi3)).trans q
    · have hlt : c < s.heap.objs.size := by
        have e' : c = z ∨ c = TI ∨ c = TO ∨ c = i1 ∨ c = i2 ∨ c = i3 := by simpa using hcm
        rcases e' with q | q | q | q | q | q
        · rw [q]; exact hzl
        · rw [q]; exact Heap.lt_size hTI
        · rw [q]; exact Heap.lt_size hTO
        · rw [q]; exact sqIt_lt h1
        · rw [q]; exact sqIt_lt h2
        · rw [q]; exact sqIt_lt h3
      rw [upd_ne (Nat.ne_of_lt hlt)]
      exact (hf c hcm).1
  done := by
    intro X hP hw hK hc i pins s σ H E I hf st hg
    subst hP hw hK
    obtain ⟨hz, hTI, ⟨x0, y0, z0, hTO⟩, h1, h2, h3⟩ := st
    obtain ⟨xs, ys, zs, hqx, hqy, hqz, le1, le2, le3, hend⟩ := hg
    obtain ⟨its, rv, p, _⟩ := sq_get I hqx
    obtain ⟨its2, rv2, p2, _⟩ := sq_get I hqy
    obtain ⟨its3, rv3, p3, _⟩ := sq_get I hqz
    have l1 := rv.length
    have l2 := rv2.length
    have l3 := rv3.length
    exact wpAny_pyNext_zipD3_end D.S (sq_draws (prog := X.prog) (w := X.w) (A := X.A.in1) b1 (I.ok.hd hc) i1 a1 (sq_ne (K := X.K) h1 p) its.toArray) (sq_draws (prog := X.prog) (w := X.w) (A := X.A.in1) b2 (I.ok.hd hc) i2 a2 (sq_ne (K := X.K) h2 p2) its2.toArray) (sq_draws (prog := X.prog) (w := X.w) (A := X.A.in1) b3 (I.ok.hd hc) i3 a3 (sq_ne (K := X.K) h3 p3) its3.toArray) hz hTI hTO ⟨h1, p⟩ ⟨h2, p2⟩ ⟨h3, p3⟩
      (by simp; omega) (by simp; omega) (by simp; omega) (by simp; omega) fun h' tk hk => ⟨rfl, I.turnedL (ch := [z, TI, TO, i1, i2, i3]) (fun c o hb q =>
      hk c o (fun q' => hb (by simp [q'])) (fun q' => hb (by simp [q'])) (fun q' => hb (by simp [q'])) (fun q' => hb (by simp [q'])) (fun q' => hb (by simp [q'])) q) hf⟩
  self := fun A i s Q E st h => wpAny_pyIter_zip st.1 h
def iZ3 (K : PySem.W.Frag) (ta : TA) : TI := fun σ H R => ta σ H fun vs H1 => ∃ b1 b2 b3 a1 a2 a3 xs ys zs, vs = [.ref a1, .ref a2, .ref a3] ∧ Sq b1 K H1 a1 xs ∧ Sq b2 K H1 a2 ys ∧ Sq b3 K H1 a3 zs ∧ R (ItZ3 b1 b2 b3 K a1 a2 a3) H1
theorem pi_Z3 {X : Cx} {e e2 e3 : Expr} {ta : TA} {p pos tpos : Pos} {elts : List Expr} {kk : Nat} (hg : Gl X "zip") (hm : X.mg "zip" = none) (ha : PA X [e, e2, e3] ta)
    (hs : starEach [e, e2, e3] X.env = (false, eval e X.env) :: starEach [e2, e3] X.env := by rfl) (hpl : (backTo pos (starEach [e2, e3] X.env)).any (·.1) = false := by rfl) :
    PI X (.Tuple elts kk tpos) (.Call (.Name "zip" p) [e, e2, e3] [] pos) (iZ3 X.K ta) := by
  refine ⟨fun pins s σ H R I h => ?_⟩
  refine Call_ (ld_blt I hg hm PyProof.Rows.boot_zip (PyProof.Rows.callWith_type1 (thn (ha.run pos pins s σ H _ I h) fun us s1 ⟨vs, H1, I1, r1, q1⟩ => ?_) hs hpl))
  obtain ⟨b1, b2, b3, a1, a2, a3, xs, ys, zs, ex, hqx, hqy, hqz, q⟩ := q1
  subst ex
  cases r1 with
  | cons r rr =>
    cases rr with
    | cons r' rr =>
      cases rr with
      | cons r'' rr =>
        cases rr
        cases r
        cases r'
        cases r''
        have fresh6 : ∀ c, c ∈ [s1.heap.objs.size + 5, s1.heap.objs.size + 3, s1.heap.objs.size + 4, s1.heap.objs.size, s1.heap.objs.size + 1, s1.heap.objs.size + 2] → FpOk X pins H1 c := fun c hcm => by
          have e' : c = s1.heap.objs.size + 5 ∨ c = s1.heap.objs.size + 3 ∨ c = s1.heap.objs.size + 4 ∨ c = s1.heap.objs.size ∨ c = s1.heap.objs.size + 1 ∨ c = s1.heap.objs.size + 2 := by simpa using hcm
          have hle : s1.heap.objs.size ≤ c := by
            rcases e' with z | z | z | z | z | z
            · rw [z]; exact Nat.le_add_right _ _
            · rw [z]; exact Nat.le_add_right _ _
            · rw [z]; exact Nat.le_add_right _ _
            · rw [z]; exact Nat.le_refl _
            · rw [z]; exact Nat.le_add_right _ _
            · rw [z]; exact Nat.le_add_right _ _
          exact I1.fpOk hle (I1.hok.fresh hle)
        obtain ⟨its, rv, p1, lt1⟩ := sq_get I1 hqx
        obtain ⟨its2, rv2, p2, lt2⟩ := sq_get I1 hqy
        obtain ⟨its3, rv3, p3, lt3⟩ := sq_get I1 hqz
        refine zip_begins3 (sq_begins b1 a1 its.toArray) (sq_begins b2 a2 its2.toArray) (sq_begins b3 a3 its3.toArray) p1 p2 p3 fun h' hz hTI hTO h1 h2 h3 hsz hk => wpAny_pyIter_zip hz ?_
        have I2 : Inv X pins σ H1 { s1 with heap := h' } := I1.kept (t' := s1.toks) hk
        exact ⟨s1.heap.objs.size + 5, [s1.heap.objs.size + 5, s1.heap.objs.size + 3, s1.heap.objs.size + 4, s1.heap.objs.size, s1.heap.objs.size + 1, s1.heap.objs.size + 2], _, _, H1, rfl, I2, turn_Z3 b1 b2 b3 (sep3_of lt1 lt2 lt3), ⟨hz, hTI, ⟨_, _, _, hTO⟩, sqO_it h1, sqO_it h2, sqO_it h3⟩, fresh6, q⟩
end PL
/-! statements, loops, comprehensions, defs -/
namespace PL
open PySem PySem.Spec PyProof.Rows L2

section
variable {X : Cx} {e a b c : Expr} {es : List Expr} {pos : Pos} {δ δa δb δc : TED} {θ θ1 θ2 : TTD} {α : TAD} {st : Stmt} {rest body : List Stmt} {τ τ1 τ2 : TSD}

/-! ### blocks -/
def dNext : TSD := fun De ρ S => De.nx ρ S
def dSeq (t u : TSD) : TSD := fun De ρ S => t { De with nx := fun ρ' S' => u De ρ' S' } ρ S
theorem dss_nil : DSs X [] dNext := pssW pss_nil fun E σ H ⟨ρ, S, De, re, rs, q, k⟩ => k.nx _ _ _ _ q (.refl rs) re
theorem dss_cons (h1 : DS X st τ1) (h2 : DSs X rest τ2) : DSs X (st :: rest) (dSeq τ1 τ2) := pssW (pss_cons h1 h2) fun E σ H ⟨ρ, S, De, re, rs, q, k⟩ =>
  ⟨ρ, S, _, re, rs, q, ⟨fun ρ' S' σ' H' q' g' re' => ⟨ρ', S', De, re', g'.rs, q', k.go g'⟩, k.rt, k.bk, k.ct⟩⟩
theorem dss_one (h1 : DS X st τ) : DSs X [st] τ := pss_one h1
def dBreak : TSD := fun De ρ S => De.bk ρ S
def dCont : TSD := fun De ρ S => De.ct ρ S
def dNever : TSD := fun _ _ _ => False
theorem ds_pass : DS X (.Pass pos) dNext := psW ps_pass fun E σ H ⟨ρ, S, De, re, rs, q, k⟩ => k.nx _ _ _ _ q (.refl rs) re
theorem ds_break : DS X (.Break pos) dBreak := psW ps_break fun E σ H ⟨ρ, S, De, re, rs, q, k⟩ => k.bk _ _ _ _ q (.refl rs) re
theorem ds_continue : DS X (.Continue pos) dCont := psW ps_continue fun E σ H ⟨ρ, S, De, re, rs, q, k⟩ => k.ct _ _ _ _ q (.refl rs) re
theorem ds_never : DS X st dNever := psW ps_never fun E σ H ⟨ρ, S, De, re, rs, q, k⟩ => q.elim
theorem dss_never {sts : List Stmt} : DSs X sts dNever := pssW pss_never fun E σ H ⟨ρ, S, De, re, rs, q, k⟩ => q.elim
def dDrop (δ : TED) : TSD := fun De ρ S => δ ρ S fun _ S1 => De.nx ρ S1
theorem ds_expr (he : DE X e δ) (hs : swapsWith e none pos.line X.env = pure false := by rfl) : DS X (.Expr e pos) (dDrop δ) := psW (ps_expr he hs) fun E σ H ⟨ρ, S, De, re, rs, q, k⟩ =>
  ⟨ρ, S, _, re, rs, q, fun d S1 v H1 q1 g1 r1 => k.nx _ _ _ _ q1 g1 (re.tp g1.tp)⟩
def dRet (δ : TED) : TSD := fun De ρ S => δ ρ S De.rt
theorem ds_ret (he : DE X e δ) : DS X (.Return (some e) pos) (dRet δ) := psW (ps_ret he) fun E σ H ⟨ρ, S, De, re, rs, q, k⟩ =>
  ⟨ρ, S, _, re, rs, q, fun d S1 v H1 q1 g1 r1 => k.rt _ _ _ _ q1 g1 r1⟩
def dRetN : TSD := fun De ρ S => De.rt .non S
theorem ds_retN : DS X (.Return none pos) dRetN := psW ps_retN fun E σ H ⟨ρ, S, De, re, rs, q, k⟩ => k.rt _ _ _ _ q (.refl rs) (by rw [RD])
def dIfS (t : TTD) (u w : TSD) : TSD := fun De ρ S => t ρ S fun b S1 => match b with
  | true => u De ρ S1
  | false => w De ρ S1
theorem ds_if {sa sb : List Stmt} (hc : DT X c θ) (ha : DSs X sa τ1) (hb : DSs X sb τ2) : DS X (.If c sa sb pos) (dIfS θ τ1 τ2) := psW (ps_if hc ha hb) fun E σ H ⟨ρ, S, De, re, rs, q, k⟩ => by
  refine ⟨ρ, S, _, re, rs, q, fun b S1 H1 q1 g1 => ?_⟩
  cases b with
  | true => exact ⟨ρ, S1, De, re.tp g1.tp, g1.rs, q1, k.go g1⟩
  | false => exact ⟨ρ, S1, De, re.tp g1.tp, g1.rs, q1, k.go g1⟩

/-! ### stores -/
def dAsg (i : Nat) (δ : TED) : TSD := fun De ρ S => δ ρ S fun d S1 => De.nx (ρ.set i (some d)) S1
theorem ds_set (i : Nat) {x : Str} {pos' : Pos} (hN : X.N.Nodup) (he : DE X e δ) (hi : X.N[i]? = some x := by rfl) (hx : Loc X.env.scope x := by first | exact Or.inl rfl | exact Or.inr rfl) (hs : swapsWith e (some (.Name x pos')) pos.line X.env = pure false := by rfl)
    (hf : X.fn x = true ∨ X.env.scope.names.lookup x = some .local := by first | exact .inl rfl | exact .inr rfl | assumption) : DS X (.Assign [.Name x pos'] e pos) (dAsg i δ) :=
  psW (ps_set hN hi hx he hs hf) fun E σ H ⟨ρ, S, De, re, rs, q, k⟩ => ⟨ρ, S, _, re, rs, q, fun d S1 v H1 q1 g1 r1 => k.nx _ _ _ _ q1 g1 ((re.tp g1.tp).set i r1)⟩
abbrev TGD := D → DEnv → Sto → (DEnv → Sto → Prop) → Prop
abbrev TGsD := List D → DEnv → Sto → (DEnv → Sto → Prop) → Prop
/-- but for the slots in L as it was -/
def Alk (L : List Nat) (σ σ' : L2.St) : Prop := ∀ vs : List Nat, (∀ i ∈ L, i ∈ vs) → wipe σ' vs = wipe σ vs
theorem wipe_get (σ : L2.St) (j : Nat) : ∀ vs : List Nat, (wipe σ vs)[j]? = if j ∈ vs then σ[j]?.map (fun _ => none) else σ[j]?
  | [] => by simp [L2.wipe]
  | v :: vs => by
    have ih := wipe_get σ j vs
    unfold L2.wipe
    rw [List.getElem?_set]
    by_cases h : v = j
    · subst h
      rw [if_pos rfl, wipe_length, if_pos (List.mem_cons_self ..)]
      by_cases hl : v < σ.length
      · rw [if_pos hl, List.getElem?_eq_getElem hl]; rfl
      · rw [if_neg hl, List.getElem?_eq_none (by omega)]; rfl
    · rw [if_neg h, ih]
      have e : (j ∈ v :: vs) = (j ∈ vs) := by
        simp [Ne.symm h]
      simp only [e]
theorem alk_set (i : Nat) (σ : L2.St) (x : Option V) : Alk [i] σ (σ.set i x) := fun vs h => by
  apply List.ext_getElem?
  intro j
  rw [wipe_get, wipe_get]
  by_cases hj : j ∈ vs
  · rw [if_pos hj, if_pos hj, List.getElem?_set]
    by_cases h2 : i = j
    · subst h2
      rw [if_pos rfl]
      by_cases hl : i < σ.length
      · rw [if_pos hl, List.getElem?_eq_getElem hl]; rfl
      · rw [if_neg hl, List.getElem?_eq_none (by omega)]
    · rw [if_neg h2]
  · rw [if_neg hj, if_neg hj, List.getElem?_set_ne]
    intro z
    exact hj (z ▸ h i (List.mem_singleton.mpr rfl))
theorem Alk.refl (σ : L2.St) : Alk [] σ σ := fun _ _ => rfl
theorem Alk.trans {L M : List Nat} {σ σ1 σ2 : L2.St} (a : Alk L σ σ1) (b : Alk M σ1 σ2) : Alk (L ++ M) σ σ2 := fun vs h =>
  (b vs fun i hi => h i (List.mem_append_right _ hi)).trans (a vs fun i hi => h i (List.mem_append_left _ hi))
def AftG (K : PySem.W.Frag) (L : List Nat) (S : Sto) (H : Hp) (σ : L2.St) (Qd : DEnv → Sto → Prop) (Q : L2.St → Hp → Prop) : Prop := ∀ ρ' S' σ' H', Qd ρ' S' → Go K S H S' H' → RE K S' H' ρ' σ' → Alk L σ σ' → Q σ' H'
def LG (K : PySem.W.Frag) (L : List Nat) (γ : TGD) : TG := fun v σ H Q => ∃ d ρ S Qd, RD K S H d v ∧ RE K S H ρ σ ∧ RS K S H ∧ γ d ρ S Qd ∧ AftG K L S H σ Qd Q
def LGs (K : PySem.W.Frag) (L : List Nat) (γ : TGsD) : TGs := fun vs σ H Q => ∃ ds ρ S Qd, RDs K S H ds vs ∧ RE K S H ρ σ ∧ RS K S H ∧ γ ds ρ S Qd ∧ AftG K L S H σ Qd Q
abbrev DG (X : Cx) (t : Expr) (L : List Nat) (γ : TGD) : Prop := PG X t (LG X.K L γ)
abbrev DGs (X : Cx) (ts : List Expr) (L : List Nat) (γ : TGsD) : Prop := PGs X ts (LGs X.K L γ)
theorem pgW {t t' : TG} (h : PG X e t) (w : ∀ v σ H Q, t' v σ H Q → t v σ H Q) : PG X e t' := ⟨fun pins s σ H v u Q I r q => h.run pins s σ H v u Q I r (w v σ H Q q)⟩
theorem pgsW {t t' : TGs} (h : PGs X es t) (w : ∀ v σ H Q, t' v σ H Q → t v σ H Q) : PGs X es t' := ⟨fun pins s σ H v u Q I r q => h.run pins s σ H v u Q I r (w v σ H Q q)⟩
def gN (i : Nat) : TGD := fun d ρ S Q => Q (ρ.set i (some d)) S
theorem dg_name (i : Nat) {x : Str} (hN : X.N.Nodup) (hi : X.N[i]? = some x := by rfl) (hx : Loc X.env.scope x := by first | exact Or.inl rfl | exact Or.inr rfl) (hf : X.fn x = true ∨ X.env.scope.names.lookup x = some .local := by first | exact .inl rfl | exact .inr rfl | assumption) :
    DG X (.Name x pos) [i] (gN i) := pgW (pg_name hN hi hx hf) fun v σ H Q ⟨d, ρ, S, Qd, r, re, rs, q, k⟩ => k _ _ _ _ q (.refl rs) (re.set i r) (alk_set i σ _)
def gsNil : TGsD := fun ds ρ S Q => match ds with
  | [] => Q ρ S
  | _ => False
def gsCons (γ : TGD) (γs : TGsD) : TGsD := fun ds ρ S Q => match ds with
  | d :: r => γ d ρ S fun ρ' S' => γs r ρ' S' Q
  | [] => False
theorem dgs_nil : DGs X [] [] gsNil := pgsW pgs_nil fun v σ H Q ⟨ds, ρ, S, Qd, r, re, rs, q, k⟩ => by
  cases ds with
  | nil => exact ⟨RDs.nil.mp r, k _ _ _ _ q (.refl rs) re (Alk.refl σ)⟩
  | cons _ _ => exact q.elim
theorem dgs_cons {γ : TGD} {γs : TGsD} {L M : List Nat} (h1 : DG X e L γ) (h2 : DGs X es M γs) (hs : (assignEach (e :: es) X.env).map (·.2) = assign e X.env :: (assignEach es X.env).map (·.2) := by rfl) : DGs X (e :: es) (L ++ M) (gsCons γ γs) :=
  pgsW (pgs_cons h1 h2 hs) fun vs σ H Q ⟨ds, ρ, S, Qd, r, re, rs, q, k⟩ => by
    cases ds with
    | nil => exact q.elim
    | cons d ds =>
      rw [RDs] at r
      obtain ⟨v, vr, rfl, r1, r2⟩ := r
      refine ⟨v, vr, rfl, d, ρ, S, _, r1, re, rs, q, fun ρ' S' σ' H' q' g' re' al => ?_⟩
      exact ⟨ds, ρ', S', Qd, r2.tp g'.tp, re', g'.rs, q', fun a b c d x y z w => k a b c d x (g'.trans y) z (al.trans w)⟩
def gT (n : Nat) (γs : TGsD) : TGD := fun d ρ S Q => match d with
  | .tup ds => ds.length = n ∧ γs ds ρ S Q
  | _ => False
theorem dg_tup {γs : TGsD} {L : List Nat} {k n : Nat} (h : DGs X es L γs) (hc : X.calm = true := by rfl) (hn : (assignEach es X.env).length = n := by rfl) (hst : (assignEach es X.env).findIdx? (·.1) = none := by rfl) : DG X (.Tuple es k pos) L (gT n γs) :=
  pgW (pg_tup hc h hn hst) fun v σ H Q ⟨d, ρ, S, Qd, r, re, rs, q, kk⟩ => by
    cases d with
    | tup ds =>
      rw [RD] at r
      obtain ⟨a, vs, rfl, r1, r2⟩ := r
      exact ⟨a, vs, rfl, r1, by rw [r2.len]; exact q.1, ds, ρ, S, Qd, r2, re, rs, q.2, kk⟩
    | _ => exact q.elim
def dAsgG (γ : TGD) (δ : TED) : TSD := fun De ρ S => δ ρ S fun d S1 => γ d ρ S1 De.nx
theorem ds_asg {tg : Expr} {γ : TGD} {L : List Nat} (he : DE X e δ) (hg : DG X tg L γ) (hs : swapsWithSole [tg] e pos.line X.env = pure false := by rfl) (hw : swappedStores [tg] e X.env = pure none := by rfl)
    (h1 : (assignEach [tg] X.env).map (·.2) = [assign tg X.env] := by rfl) : DS X (.Assign [tg] e pos) (dAsgG γ δ) := psW (ps_asg he hg hs hw h1) fun E σ H ⟨ρ, S, De, re, rs, q, k⟩ =>
  ⟨ρ, S, _, re, rs, q, fun d S1 v H1 q1 g1 r1 => ⟨d, ρ, S1, _, r1, re.tp g1.tp, g1.rs, q1, fun a b c d x y z _ => k.nx a b c d x (g1.trans y) z⟩⟩
/-- a, b = x, y -/
def dPar2 (i j : Nat) (α : TAD) : TSD := fun De ρ S => α ρ S fun ds S1 => match ds with
  | [d, e] => De.nx ((ρ.set i (some d)).set j (some e)) S1
  | _ => False
theorem ds_par2 (i j : Nat) {x y : Str} {px py pt : Pos} {kt k2 pt2} (hN : X.N.Nodup) (ha : DA X [a, b] α) (hc : X.calm = true := by rfl) (hi : X.N[i]? = some x := by rfl) (hj : X.N[j]? = some y := by rfl) (hij : i ≠ j := by decide)
    (hx : X.env.scope.names.lookup x = some .local := by rfl) (hy : X.env.scope.names.lookup y = some .local := by rfl)
    (hw : swappedStores [.Tuple [.Name x px, .Name y py] kt pt] (.Tuple [a, b] k2 pt2) X.env = pure (some [x, y]) := by rfl)
    (hs : swapsWithSole [.Tuple [.Name x px, .Name y py] kt pt] (.Tuple [a, b] k2 pt2) pos.line X.env = pure false := by rfl) :
    DS X (.Assign [.Tuple [.Name x px, .Name y py] kt pt] (.Tuple [a, b] k2 pt2) pos) (dPar2 i j α) := psW (ps_par hc hN hi hj hij hx hy ha hw hs) fun E σ H ⟨ρ, S, De, re, rs, q, k⟩ => by
  refine ⟨ρ, S, _, re, rs, q, fun ds S1 vs H1 q1 g1 r1 => ?_⟩
  try dsimp only at q1
  split at q1
  · obtain ⟨v, w, rfl, r2, r3⟩ := r1.two
    exact ⟨v, w, rfl, k.nx _ _ _ _ q1 g1 (((re.tp g1.tp).set i r2).set j r3)⟩
  · exact q1.elim
def dPar3 (i j l : Nat) (α : TAD) : TSD := fun De ρ S => α ρ S fun ds S1 => match ds with
  | [d, e, f] => De.nx (((ρ.set i (some d)).set j (some e)).set l (some f)) S1
  | _ => False
/-- name op= e -/
def dAug (i : Nat) (o : R2D) (δ : TED) : TSD := fun De ρ S => match ρ[i]? with
  | some (some d) => δ ρ S fun e S1 => o d e S1 fun z S2 => De.nx (ρ.set i (some z)) S2
  | _ => False
theorem ds_aug (i : Nat) {x : Str} {op : Operator} {o : R2D} {pos' : Pos} (hN : X.N.Nodup) (ho : OpD X (inplaceOp op) o) (he : DE X e δ) (hi : X.N[i]? = some x := by rfl) (hx : Loc X.env.scope x := by first | exact Or.inl rfl | exact Or.inr rfl)
    (hf : X.fn x = true ∨ X.env.scope.names.lookup x = some .local := by first | exact .inl rfl | exact .inr rfl | assumption) : DS X (.AugAssign (.Name x pos') op e pos) (dAug i o δ) := psW (ps_aug hN hi hx he (ti := Lf2 X.K o) ho hf) fun E σ H ⟨ρ, S, De, re, rs, q, k⟩ => by
  unfold dAug at q
  split at q
  · rename_i d hd
    obtain ⟨v, e1, r1⟩ := re.2 i d hd
    refine ⟨v, e1, ρ, S, _, re, rs, q, fun e' S1 w H1 q1 g1 r2 => ?_⟩
    exact ⟨d, e', S1, _, r1.tp g1.tp, r2, g1.rs, q1, fun z S2 u H2 q2 g2 r3 => k.nx _ _ _ _ q2 (g1.trans g2) ((re.tp (g1.trans g2).tp).set i r3)⟩
  · exact q.elim
/-- o[i] = e; o[i] op= e -/
abbrev TSetD := D → D → D → Sto → (Sto → Prop) → Prop
def LfSet (K : PySem.W.Frag) (o : TSetD) : TSet := fun x y z H Q => ∃ d e f S Qd, RD K S H d x ∧ RD K S H e y ∧ RD K S H f z ∧ RS K S H ∧ o d e f S Qd ∧ ∀ S' H', Qd S' → Go K S H S' H' → Q H'
abbrev SetD (X : Cx) (o : TSetD) : Prop := PSet X (LfSet X.K o)
theorem setD_of {r : TSet} {o : TSetD} (h : PSet X r) (w : ∀ d e f x y z S H Qd Q, RD X.K S H d x → RD X.K S H e y → RD X.K S H f z → RS X.K S H → o d e f S Qd → (∀ S' H', Qd S' → Go X.K S H S' H' → Q H') → r x y z H Q) : SetD X o :=
  fun pins s σ H x y z ov iv u Q I r1 r2 r3 ⟨d, e, f, S, Qd, q1, q2, q3, rs, q, k⟩ => h pins s σ H x y z ov iv u Q I r1 r2 r3 (w d e f x y z S H Qd Q q1 q2 q3 rs q k)
theorem setD_or {o o' : TSetD} (h : SetD X o) (h' : SetD X o') : SetD X (fun d e f S Q => o d e f S Q ∨ o' d e f S Q) := by
  intro pins s σ H x y z ov iv u Q I r1 r2 r3 ⟨d, e, f, S, Qd, q1, q2, q3, rs, q, k⟩
  rcases q with q | q
  · exact h pins s σ H x y z ov iv u Q I r1 r2 r3 ⟨d, e, f, S, Qd, q1, q2, q3, rs, q, k⟩
  · exact h' pins s σ H x y z ov iv u Q I r1 r2 r3 ⟨d, e, f, S, Qd, q1, q2, q3, rs, q, k⟩
def gSb (δo δi : TED) (o : TSetD) : TGD := fun f ρ S Q => δo ρ S fun d S1 => δi ρ S1 fun e S2 => o d e f S2 fun S3 => Q ρ S3
theorem dg_sub {ob ix : Expr} {o : TSetD} {δo δi : TED} (ho : DE X ob δo) (hi : DE X ix δi) (hs : SetD X o)
    (ha : ∀ v, assign (.Subscript ob ix pos) X.env v = (do
      let ov ← holding [v] (eval ob X.env)
      let iv ← holding [v, ov] (eval ix X.env)
      standAt pos
      holding [v, ov, iv] (setItem ov iv v)
      release [v, ov, iv] []) := by intro _; rfl) : DG X (.Subscript ob ix pos) [] (gSb δo δi o) := pgW (pg_sub ho hi hs ha) fun v σ H Q ⟨f, ρ, S, Qd, r, re, rs, q, k⟩ => by
  refine ⟨ρ, S, _, re, rs, q, fun d S1 v1 H1 q1 g1 r1 => ?_⟩
  refine ⟨ρ, S1, _, re.tp g1.tp, g1.rs, q1, fun e S2 v2 H2 q2 g2 r2 => ?_⟩
  exact ⟨d, e, f, S2, _, r1.tp g2.tp, r2, r.tp (g1.trans g2).tp, g2.rs, q2, fun S3 H3 q3 g3 => k _ _ _ _ q3 ((g1.trans g2).trans g3) (re.tp ((g1.trans g2).trans g3).tp) (Alk.refl σ)⟩
/-- o[i], by values (for o[i] op= e) -/
abbrev GetD (X : Cx) (o : R2D) : Prop := PGet X (Lf2 X.K o)
def dAugS (δo δi δ : TED) (og oi : R2D) (os : TSetD) : TSD := fun De ρ S => δo ρ S fun d S1 => δi ρ S1 fun i S2 => og d i S2 fun x S3 => δ ρ S3 fun y S4 => oi x y S4 fun z S5 => os d i z S5 fun S6 => De.nx ρ S6
theorem ds_augS {ob ix : Expr} {δo δi : TED} {og oi : R2D} {os : TSetD} {op : Operator} {tpos : Pos} (ho : DE X ob δo) (hi : DE X ix δi) (hg : GetD X og) (he : DE X e δ) (hp : OpD X (inplaceOp op) oi) (hs : SetD X os)
    (ha : ∀ ov iv new, augStore ix ov iv new = (do holding [new, ov, iv] (setItem ov iv new); release [new, ov, iv] []; pure .next) := by intros; rfl) : DS X (.AugAssign (.Subscript ob ix tpos) op e pos) (dAugS δo δi δ og oi os) :=
  psW (ps_augS ho hi hg he (tip := Lf2 X.K oi) hp hs ha) fun E σ H ⟨ρ, S, De, re, rs, q, k⟩ => by
    refine ⟨ρ, S, _, re, rs, q, fun d S1 v1 H1 q1 g1 r1 => ?_⟩
    refine ⟨ρ, S1, _, re.tp g1.tp, g1.rs, q1, fun i S2 v2 H2 q2 g2 r2 => ?_⟩
    refine ⟨d, i, S2, _, r1.tp g2.tp, r2, g2.rs, q2, fun x S3 v3 H3 q3 g3 r3 => ?_⟩
    have g13 := (g1.trans g2).trans g3
    refine ⟨ρ, S3, _, re.tp g13.tp, g3.rs, q3, fun y S4 v4 H4 q4 g4 r4 => ?_⟩
    refine ⟨x, y, S4, _, r3.tp g4.tp, r4, g4.rs, q4, fun z S5 v5 H5 q5 g5 r5 => ?_⟩
    have g25 := (g2.trans g3).trans (g4.trans g5)
    refine ⟨d, i, z, S5, _, r1.tp g25.tp, r2.tp ((g3.trans g4).trans g5).tp, r5, g5.rs, q5, fun S6 H6 q6 g6 => ?_⟩
    exact k.nx _ _ _ _ q6 (g1.trans (g25.trans g6)) (re.tp (g1.trans (g25.trans g6)).tp)

/-! ### what is walked -/
structure ItD where
  xs : List D
  ok : Sto → Prop
structure Wk (K : PySem.W.Frag) (J : It) (it : ItD) (S : Sto) (H : Hp) : Prop where
  go : ∀ i x S' H', it.xs[i]? = some x → Tp S H S' H' → RS K S' H' → it.ok S' → J.go i H' ∧ ∀ v H2, J.yld i H' v H2 → Go K S' H' S' H2 ∧ RD K S' H2 x v
  stop : ∀ S' H', Tp S H S' H' → RS K S' H' → it.ok S' → J.stop it.xs.length H'
abbrev TID := DEnv → Sto → (ItD → Sto → Prop) → Prop
def LI (K : PySem.W.Frag) (ι : TID) : TI := fun σ H R => ∃ ρ S Qd, RE K S H ρ σ ∧ RS K S H ∧ ι ρ S Qd ∧ ∀ it S' H' J, Qd it S' → Go K S H S' H' → Wk K J it S' H' → R J H'
abbrev DI (X : Cx) (tg iter : Expr) (ι : TID) : Prop := PI X tg iter (LI X.K ι)
theorem piW {tg iter : Expr} {t t' : TI} (h : PI X tg iter t) (w : ∀ σ H Q, t' σ H Q → t σ H Q) : PI X tg iter t' := ⟨fun pins s σ H Q I q => h.run pins s σ H Q I (w σ H Q q)⟩
/-- a tuple, a list that nobody changes; a tracked list must stand -/
def Sto.itOf (S : Sto) : D → Option ItD
  | .tup ds => some ⟨ds, fun _ => True⟩
  | .tpx ds => some ⟨ds, fun _ => True⟩
  | .fz ds => some ⟨ds, fun _ => True⟩
  | .lst ds => some ⟨ds, fun _ => True⟩
  | .ref p => match S p with
    | some (.lst ds) => some ⟨ds, fun S' => S' p = some (.lst ds)⟩
    | _ => none
  | _ => none
/-- the source, seen from any later time -/
theorem src_at {K : PySem.W.Frag} {S : Sto} {H : Hp} {d : D} {v : V} {it : ItD} (h : S.itOf d = some it) (rd : RD K S H d v) (rs : RS K S H) :
    ∃ b a, v = .ref a ∧ it.ok S ∧ ∀ S' H', Tp S H S' H' → RS K S' H' → it.ok S' → ∃ vs, Sq b K H' a vs ∧ RDs K S' H' it.xs vs := by
  cases d with
  | tup es =>
    have e := Option.some.inj h
    subst e
    rw [RD] at rd
    obtain ⟨a, vs, h1, h2, h3⟩ := rd
    exact ⟨false, a, h1, trivial, fun S' H' tp _ _ => ⟨vs, tp.sqt h2, h3.tp tp⟩⟩
  | tpx es =>
    have e := Option.some.inj h
    subst e
    rw [RD] at rd
    obtain ⟨a, o, vs, h1, h2, _, h3⟩ := rd
    exact ⟨false, a, h1, trivial, fun S' H' tp _ _ => ⟨vs, .inl (.inr ⟨o, tp.frz _ _ _ h2⟩), h3.tp tp⟩⟩
  | fz es =>
    have e := Option.some.inj h
    subst e
    rw [RD] at rd
    obtain ⟨a, vs, h1, h2, h3⟩ := rd
    exact ⟨true, a, h1, trivial, fun S' H' tp _ _ => ⟨vs, KL.sq (h2.imp (fun ⟨o, q⟩ => ⟨o, tp.frz _ _ _ q⟩) id), h3.tp tp⟩⟩
  | lst es =>
    have e := Option.some.inj h
    subst e
    rw [RD] at rd
    obtain ⟨a, vs, h1, h0, h2, h3⟩ := rd
    exact ⟨true, a, h1, trivial, fun S' H' tp _ _ => ⟨vs, .inl (.inl (tp.old _ _ h0 h2).2), h3.tp tp⟩⟩
  | ref p =>
    rw [RD] at rd
    have h' : (match S p with
      | some (.lst ds) => some (⟨ds, fun S' => S' p = some (.lst ds)⟩ : ItD)
      | _ => none) = some it := h
    split at h'
    · rename_i es he
      have e := Option.some.inj h'
      subst e
      refine ⟨true, p, rd, he, fun S' H' tp rs' ok => ?_⟩
      obtain ⟨vs, h1, h2⟩ := rs' p _ ok
      exact ⟨vs, .inl (.inl h1), h2⟩
    · cases h'
  | _ => cases h
def itSq (b : Bool) (K : PySem.W.Frag) (a : Addr) : It := match b with
  | true => Itl K a
  | false => Itt K a
def iSq (K : PySem.W.Frag) (tl : TE) : TI := fun σ H R => tl σ H fun x H1 => ∃ b a, x = .ref a ∧ (∃ xs, Sq b K H1 a xs) ∧ R (itSq b K a) H1
theorem pi_sq {tg l : Expr} {tl : TE} (hl : PE X l tl) : PI X tg l (iSq X.K tl) := by
  refine ⟨fun pins s σ H R I h => ?_⟩
  refine thn (hl.run pins s σ H _ I h) fun v s1 ⟨x, H1, I1, r1, b, a, e, ⟨xs, hq⟩, q⟩ => ?_
  subst e
  cases b with
  | true =>
    cases r1
    obtain ⟨its, rv, p, hz⟩ := I1.list hq
    refine wpAny_pyIter_list p.isList ?_
    refine ⟨s1.heap.objs.size, [s1.heap.objs.size], _, _, H1, rfl, I1.kept (t' := s1.toks) fun b o e => Heap.get?_push_of_some _ e, turn_list a _, ⟨_, Heap.get?_push_size _ rfl, rfl, rfl⟩, fun b hb => ?_, q⟩
    have e : b = s1.heap.objs.size := by simpa using hb
    subst e
    exact I1.fpOk (Nat.le_refl _) (I1.hok.fresh (Nat.le_refl _))
  | false =>
    cases r1
    obtain ⟨its, rv, p, hz⟩ := I1.tuple hq
    refine wpAny_pyIter_tuple (show s1.heap.IsTuple a its.toArray from p) ?_
    refine ⟨s1.heap.objs.size, [s1.heap.objs.size], _, _, H1, rfl, I1.kept (t' := s1.toks) fun b o e => Heap.get?_push_of_some _ e, turn_tuple a _, ⟨_, Heap.get?_push_size _ rfl, rfl, rfl⟩, fun b hb => ?_, q⟩
    have e : b = s1.heap.objs.size := by simpa using hb
    subst e
    exact I1.fpOk (Nat.le_refl _) (I1.hok.fresh (Nat.le_refl _))

def dIt (δ : TED) : TID := fun ρ S Q => δ ρ S fun x S1 => match S1.itOf x with
  | some it => Q it S1
  | none => False
theorem wk_sq {K : PySem.W.Frag} {S : Sto} {H : Hp} {it : ItD} {b : Bool} {a : Addr} (h : ∀ S' H', Tp S H S' H' → RS K S' H' → it.ok S' → ∃ vs, Sq b K H' a vs ∧ RDs K S' H' it.xs vs) : Wk K (itSq b K a) it S H := by
  refine ⟨fun i x S' H' hx tp rs ok => ?_, fun S' H' tp rs ok => ?_⟩
  · obtain ⟨vs, h1, h2⟩ := h S' H' tp rs ok
    obtain ⟨v, e1, r1⟩ := h2.get hx
    cases b with
    | true =>
      refine ⟨⟨vs, v, h1, e1⟩, fun w H2 y => ?_⟩
      obtain ⟨rfl, y⟩ := y
      have e2 := y vs h1
      rw [e1] at e2; cases e2
      exact ⟨.refl rs, r1⟩
    | false =>
      refine ⟨⟨vs, v, h1, e1⟩, fun w H2 y => ?_⟩
      obtain ⟨rfl, y⟩ := y
      have e2 := y vs h1
      rw [e1] at e2; cases e2
      exact ⟨.refl rs, r1⟩
  · obtain ⟨vs, h1, h2⟩ := h S' H' tp rs ok
    cases b with
    | true => exact ⟨vs, h1, Nat.le_of_eq h2.len⟩
    | false => exact ⟨vs, h1, Nat.le_of_eq h2.len⟩
theorem di_sq {tg l : Expr} (hl : DE X l δ) : DI X tg l (dIt δ) := piW (pi_sq hl) fun σ H R ⟨ρ, S, Qd, re, rs, q, k⟩ => by
  refine ⟨ρ, S, _, re, rs, q, fun d S1 v H1 q1 g1 r1 => ?_⟩
  try dsimp only at q1
  split at q1
  · rename_i it hit
    obtain ⟨b, a, e, ok, sr⟩ := src_at hit r1 g1.rs
    obtain ⟨vs, h1, _⟩ := sr S1 H1 Tp.refl g1.rs ok
    exact ⟨b, a, e, ⟨vs, h1⟩, k _ _ _ _ q1 g1 (wk_sq sr)⟩
  · exact q1.elim
/-- enumerate(l) -/
def enumFrom (n : Nat) : List D → List D
  | [] => []
  | d :: ds => .tup [.int (n : Int), d] :: enumFrom (n + 1) ds
theorem enumFrom_get : ∀ (ds : List D) (n i : Nat), (enumFrom n ds)[i]? = ds[i]?.map fun d => .tup [.int ((n + i : Nat) : Int), d]
  | [], n, i => by simp [enumFrom]
  | d :: ds, n, 0 => by simp [enumFrom]
  | d :: ds, n, i + 1 => by
    rw [enumFrom, List.getElem?_cons_succ, List.getElem?_cons_succ, enumFrom_get ds (n + 1) i]
    have e : n + 1 + i = n + (i + 1) := by omega
    rw [e]
theorem enumFrom_len : ∀ (ds : List D) (n : Nat), (enumFrom n ds).length = ds.length
  | [], _ => rfl
  | d :: ds, n => by rw [enumFrom, List.length_cons, List.length_cons, enumFrom_len ds]
def dEnum (δ : TED) : TID := fun ρ S Q => δ ρ S fun x S1 => match S1.itOf x with
  | some it => Q ⟨enumFrom 0 it.xs, it.ok⟩ S1
  | none => False
theorem RD.int {K : PySem.W.Frag} {S : Sto} {H : Hp} {i : Int} : RD K S H (.int i) (.int i) := by rw [RD]
theorem RD.pair {K : PySem.W.Frag} {S : Sto} {H : Hp} {d e : D} {v w : V} {T : Addr} (hT : H T = some (.tup [v, w])) (h1 : RD K S H d v) (h2 : RD K S H e w) : RD K S H (.tup [d, e]) (.ref T) := by
  rw [RD]; exact ⟨T, [v, w], rfl, .of hT, RDs.cons h1 (RDs.cons h2 (RDs.nil.mpr rfl))⟩
theorem di_enum {elts : List Expr} {kk : Nat} {tpos p : Pos} (hm : X.mg "enumerate" = none) (hl : DE X e δ) (hg : Gl X "enumerate" := by rfl) (hs : starEach [e] X.env = [(false, eval e X.env)] := by rfl) :
    DI X (.Tuple elts kk tpos) (.Call (.Name "enumerate" p) [e] [] pos) (dEnum δ) := piW (pi_E hg hm (ha := pa_cons hl pa_nil hs) hs) fun σ H R ⟨ρ, S, Qd, re, rs, q, k⟩ => by
  refine ⟨ρ, S, _, re, rs, q, fun d S1 v H1 q1 g1 r1 => ?_⟩
  try dsimp only at q1
  split at q1
  · rename_i it hit
    obtain ⟨b, a, rfl, ok, sr⟩ := src_at hit r1 g1.rs
    obtain ⟨vs, h1, _⟩ := sr S1 H1 Tp.refl g1.rs ok
    refine ⟨b, a, vs, rfl, h1, k _ _ _ _ q1 g1 ⟨fun i x S' H' hx tp rs' ok' => ?_, fun S' H' tp rs' ok' => ?_⟩⟩
    · obtain ⟨vs', h1', h2'⟩ := sr S' H' tp rs' ok'
      rw [enumFrom_get] at hx
      cases e : it.xs[i]? with
      | none => rw [e] at hx; cases hx
      | some y =>
        rw [e] at hx
        cases hx
        obtain ⟨w, e1, rw1⟩ := h2'.get e
        refine ⟨⟨vs', w, h1', e1⟩, fun u H2 yy => ?_⟩
        obtain ⟨T, x', rfl, nT, rfl, hy⟩ := yy
        have e2 := hy vs' h1'
        rw [e1] at e2; cases e2
        have g : Go X.K S' H' S' (upd H' T (.tup [.int (i : Nat), w])) := Go.fresh rs' nT
        refine ⟨g, RD.pair upd_same ?_ (rw1.tp g.tp)⟩
        rw [Nat.zero_add]
        exact RD.int
    · obtain ⟨vs', h1', h2'⟩ := sr S' H' tp rs' ok'
      exact ⟨vs', h1', by rw [enumFrom_len]; exact h2'.len⟩
  · exact q1.elim
/-- zip(l, m) -/
def dZip2 (δa δb : TED) : TID := fun ρ S Q => δa ρ S fun x S1 => δb ρ S1 fun y S2 => match S2.itOf x, S2.itOf y with
  | some i, some j => Q ⟨List.zipWith (fun d e => .tup [d, e]) i.xs j.xs, fun S' => i.ok S' ∧ j.ok S'⟩ S2
  | _, _ => False
theorem di_zip2 {e2 : Expr} {elts : List Expr} {kk : Nat} {tpos p : Pos} (hm : X.mg "zip" = none) (hl : DE X e δa) (hl2 : DE X e2 δb) (hg : Gl X "zip" := by rfl) (hs2 : starEach [e2] X.env = (false, eval e2 X.env) :: starEach [] X.env := by rfl)
    (hs : starEach [e, e2] X.env = (false, eval e X.env) :: starEach [e2] X.env := by rfl) (hpl : (backTo pos (starEach [e2] X.env)).any (·.1) = false := by rfl) :
    DI X (.Tuple elts kk tpos) (.Call (.Name "zip" p) [e, e2] [] pos) (dZip2 δa δb) := piW (pi_Z2 hg hm (ha := pa_cons hl (pa_cons hl2 pa_nil hs2) hs) hs hpl) fun σ H R ⟨ρ, S, Qd, re, rs, q, k⟩ => by
  refine ⟨ρ, S, _, re, rs, q, fun d S1 v H1 q1 g1 r1 => ?_⟩
  refine ⟨ρ, S1, _, re.tp g1.tp, g1.rs, q1, fun d' S2 v' H2 q2 g2 r2 => ?_⟩
  try dsimp only at q2
  split at q2
  · rename_i it jt hit hjt
    obtain ⟨b, a, rfl, ok, sr⟩ := src_at hit (r1.tp g2.tp) g2.rs
    obtain ⟨b', a', rfl, ok2, sr2⟩ := src_at hjt r2 g2.rs
    obtain ⟨vs, h1, _⟩ := sr S2 H2 Tp.refl g2.rs ok
    obtain ⟨vs2, h12, _⟩ := sr2 S2 H2 Tp.refl g2.rs ok2
    refine ⟨b, b', a, a', vs, vs2, rfl, h1, h12, k _ _ _ _ q2 (g1.trans g2) ⟨fun i x S' H' hx tp rs' ok' => ?_, fun S' H' tp rs' ok' => ?_⟩⟩
    · obtain ⟨ws, s1, s2⟩ := sr S' H' tp rs' ok'.1
      obtain ⟨ws2, s12, s22⟩ := sr2 S' H' tp rs' ok'.2
      rw [List.getElem?_zipWith] at hx
      cases e1 : it.xs[i]? with
      | none => rw [e1] at hx; cases hx
      | some y =>
        cases e2 : jt.xs[i]? with
        | none => rw [e1, e2] at hx; cases hx
        | some y2 =>
          rw [e1, e2] at hx
          cases hx
          obtain ⟨w, f1, rw1⟩ := s2.get e1
          obtain ⟨w2, f2, rw2⟩ := s22.get e2
          refine ⟨⟨ws, ws2, w, w2, s1, s12, f1, f2⟩, fun u H3 yy => ?_⟩
          obtain ⟨T, x', y', rfl, nT, rfl, hy, hy2⟩ := yy
          have e3 := hy ws s1
          rw [f1] at e3; cases e3
          have e4 := hy2 ws2 s12
          rw [f2] at e4; cases e4
          have g : Go X.K S' H' S' (upd H' T (.tup [w, w2])) := Go.fresh rs' nT
          exact ⟨g, RD.pair upd_same (rw1.tp g.tp) (rw2.tp g.tp)⟩
    · obtain ⟨ws, s1, s2⟩ := sr S' H' tp rs' ok'.1
      obtain ⟨ws2, s12, s22⟩ := sr2 S' H' tp rs' ok'.2
      have l1 := s2.len
      have l2 := s22.len
      refine ⟨ws, ws2, s1, s12, ?_, ?_, ?_⟩ <;> rw [List.length_zipWith] <;> omega
  · exact q2.elim
def dZip3 (δa δb δc : TED) : TID := fun ρ S Q => δa ρ S fun x S1 => δb ρ S1 fun y S2 => δc ρ S2 fun z S3 => match S3.itOf x, S3.itOf y, S3.itOf z with
  | some i, some j, some l => Q ⟨List.zipWith (fun d (e : D × D) => .tup [d, e.1, e.2]) i.xs (List.zip j.xs l.xs), fun S' => i.ok S' ∧ j.ok S' ∧ l.ok S'⟩ S3
  | _, _, _ => False
theorem di_zip3 {e2 e3 : Expr} {elts : List Expr} {kk : Nat} {tpos p : Pos} (hm : X.mg "zip" = none) (hl : DE X e δa) (hl2 : DE X e2 δb) (hl3 : DE X e3 δc) (hg : Gl X "zip" := by rfl) (hs3 : starEach [e3] X.env = (false, eval e3 X.env) :: starEach [] X.env := by rfl)
    (hs2 : starEach [e2, e3] X.env = (false, eval e2 X.env) :: starEach [e3] X.env := by rfl)
    (hs : starEach [e, e2, e3] X.env = (false, eval e X.env) :: starEach [e2, e3] X.env := by rfl) (hpl : (backTo pos (starEach [e2, e3] X.env)).any (·.1) = false := by rfl) :
    DI X (.Tuple elts kk tpos) (.Call (.Name "zip" p) [e, e2, e3] [] pos) (dZip3 δa δb δc) := piW (pi_Z3 hg hm (ha := pa_cons hl (pa_cons hl2 (pa_cons hl3 pa_nil hs3) hs2) hs) hs hpl) fun σ H R ⟨ρ, S, Qd, re, rs, q, k⟩ => by
  refine ⟨ρ, S, _, re, rs, q, fun d S1 v H1 q1 g1 r1 => ?_⟩
  refine ⟨ρ, S1, _, re.tp g1.tp, g1.rs, q1, fun d' S2 v' H2 q2 g2 r2 => ?_⟩
  refine ⟨ρ, S2, _, re.tp (g1.trans g2).tp, g2.rs, q2, fun d'' S3 v'' H3 q3 g3 r3 => ?_⟩
  try dsimp only at q3
  split at q3
  · rename_i it jt lt hit hjt hlt
    obtain ⟨b, a, rfl, ok, sr⟩ := src_at hit (r1.tp (g2.trans g3).tp) g3.rs
    obtain ⟨b', a', rfl, ok2, sr2⟩ := src_at hjt (r2.tp g3.tp) g3.rs
    obtain ⟨b'', a'', rfl, ok3, sr3⟩ := src_at hlt r3 g3.rs
    obtain ⟨vs, h1, _⟩ := sr S3 H3 Tp.refl g3.rs ok
    obtain ⟨vs2, h12, _⟩ := sr2 S3 H3 Tp.refl g3.rs ok2
    obtain ⟨vs3, h13, _⟩ := sr3 S3 H3 Tp.refl g3.rs ok3
    refine ⟨b, b', b'', a, a', a'', vs, vs2, vs3, rfl, h1, h12, h13, k _ _ _ _ q3 ((g1.trans g2).trans g3) ⟨fun i x S' H' hx tp rs' ok' => ?_, fun S' H' tp rs' ok' => ?_⟩⟩
    · obtain ⟨ws, s1, s2⟩ := sr S' H' tp rs' ok'.1
      obtain ⟨ws2, s12, s22⟩ := sr2 S' H' tp rs' ok'.2.1
      obtain ⟨ws3, s13, s23⟩ := sr3 S' H' tp rs' ok'.2.2
      rw [List.getElem?_zipWith] at hx
      cases e1 : it.xs[i]? with
      | none => rw [e1] at hx; cases hx
      | some y =>
        cases e2 : (List.zip jt.xs lt.xs)[i]? with
        | none => rw [e1, e2] at hx; cases hx
        | some y2 =>
          rw [e1, e2] at hx
          cases hx
          rw [List.getElem?_zip_eq_some] at e2
          obtain ⟨w, f1, rw1⟩ := s2.get e1
          obtain ⟨w2, f2, rw2⟩ := s22.get e2.1
          obtain ⟨w3, f3, rw3⟩ := s23.get e2.2
          refine ⟨⟨ws, ws2, ws3, w, w2, w3, s1, s12, s13, f1, f2, f3⟩, fun u H3 yy => ?_⟩
          obtain ⟨T, x', y', z', rfl, nT, rfl, hy, hy2, hy3⟩ := yy
          have e3 := hy ws s1
          rw [f1] at e3; cases e3
          have e4 := hy2 ws2 s12
          rw [f2] at e4; cases e4
          have e5 := hy3 ws3 s13
          rw [f3] at e5; cases e5
          have g : Go X.K S' H' S' (upd H' T (.tup [w, w2, w3])) := Go.fresh rs' nT
          refine ⟨g, ?_⟩
          rw [RD]
          exact ⟨T, [w, w2, w3], rfl, .of upd_same, RDs.cons (rw1.tp g.tp) (RDs.cons (rw2.tp g.tp) (RDs.cons (rw3.tp g.tp) (RDs.nil.mpr rfl)))⟩
    · obtain ⟨ws, s1, s2⟩ := sr S' H' tp rs' ok'.1
      obtain ⟨ws2, s12, s22⟩ := sr2 S' H' tp rs' ok'.2.1
      obtain ⟨ws3, s13, s23⟩ := sr3 S' H' tp rs' ok'.2.2
      have l1 := s2.len
      have l2 := s22.len
      have l3 := s23.len
      refine ⟨ws, ws2, ws3, s1, s12, s13, ?_, ?_, ?_, ?_⟩ <;> rw [List.length_zipWith, List.length_zip] <;> omega
  · exact q3.elim
/-- range -/
def rangeD (lo : Int) (n : Nat) : List D := (List.range n).map fun (i : Nat) => .int (lo + i)
theorem rangeD_get (lo : Int) (n i : Nat) : (rangeD lo n)[i]? = if i < n then some (.int (lo + i)) else none := by
  unfold rangeD
  rw [List.getElem?_map]
  split
  · rw [List.getElem?_range (by assumption)]; rfl
  · rw [List.getElem?_eq_none (by simp; omega)]; rfl
theorem rangeD_len (lo : Int) (n : Nat) : (rangeD lo n).length = n := by unfold rangeD; simp
theorem wk_range {K : PySem.W.Frag} {S : Sto} {H : Hp} (lo : Int) (n : Nat) : Wk K (Itr lo n) ⟨rangeD lo n, fun _ => True⟩ S H := by
  refine ⟨fun i x S' H' hx tp rs ok => ?_, fun S' H' tp rs ok => ?_⟩
  · rw [rangeD_get] at hx
    split at hx
    · cases hx
      exact ⟨by assumption, fun v H2 y => by
        obtain ⟨rfl, rfl⟩ := y
        exact ⟨.refl rs, RD.int⟩⟩
    · cases hx
  · show n ≤ _
    rw [rangeD_len]
    exact Nat.le_refl _
def dRng1 (δ : TED) : TID := fun ρ S Q => δ ρ S fun x S1 => match x with
  | .int j => (-(2 ^ 62) ≤ j ∧ j < 2 ^ 62) ∧ Q ⟨rangeD 0 j.toNat, fun _ => True⟩ S1
  | _ => False
theorem di_range1 {tg : Expr} {p : Pos} (hm : X.mg "range" = none) (hl : DE X e δ) (hg : Gl X "range" := by rfl) (hs : starEach [e] X.env = [(false, eval e X.env)] := by rfl) :
    DI X tg (.Call (.Name "range" p) [e] [] pos) (dRng1 δ) := piW (pi_range1 hg hm (ha := pa_cons hl pa_nil hs) hs) fun σ H R ⟨ρ, S, Qd, re, rs, q, k⟩ => by
  refine ⟨ρ, S, _, re, rs, q, fun d S1 v H1 q1 g1 r1 => ?_⟩
  try dsimp only at q1
  split at q1
  · rw [RD] at r1
    subst r1
    exact ⟨_, rfl, q1.1.1, q1.1.2, k _ _ _ _ q1.2 g1 (wk_range _ _)⟩
  · exact q1.elim
def dRng2 (δa δb : TED) : TID := fun ρ S Q => δa ρ S fun x S1 => δb ρ S1 fun y S2 => match x, y with
  | .int i, .int j => (-(2 ^ 62) ≤ i ∧ i < 2 ^ 62 ∧ -(2 ^ 62) ≤ j ∧ j < 2 ^ 62) ∧ Q ⟨rangeD i (j - i).toNat, fun _ => True⟩ S2
  | _, _ => False
theorem di_range2 {tg e2 : Expr} {p : Pos} (hm : X.mg "range" = none) (hl : DE X e δa) (hl2 : DE X e2 δb) (hg : Gl X "range" := by rfl) (hs : starEach [e, e2] X.env = [(false, eval e X.env), (false, eval e2 X.env)] := by rfl) (hs2 : starEach [e2] X.env = [(false, eval e2 X.env)] := by rfl) :
    DI X tg (.Call (.Name "range" p) [e, e2] [] pos) (dRng2 δa δb) := piW (pi_range2 hg hm (ha := pa_cons hl (pa_cons hl2 pa_nil hs2) (by rw [hs, hs2])) hs hs2) fun σ H R ⟨ρ, S, Qd, re, rs, q, k⟩ => by
  refine ⟨ρ, S, _, re, rs, q, fun d S1 v H1 q1 g1 r1 => ?_⟩
  refine ⟨ρ, S1, _, re.tp g1.tp, g1.rs, q1, fun d' S2 v' H2 q2 g2 r2 => ?_⟩
  try dsimp only at q2
  split at q2
  · rw [RD] at r1 r2
    subst r1; subst r2
    exact ⟨_, _, rfl, q2.1, k _ _ _ _ q2.2 (g1.trans g2) (wk_range _ _)⟩
  · exact q2.elim
/-- range with a step: lo, lo + c, .. -/
def rangeC (lo c : Int) (n : Nat) : List D := (List.range n).map fun (i : Nat) => .int (lo + i * c)

/-! ### for -/
def loopD (ok : Sto → Prop) (f : D → TSD) : List D → TSD
  | [], De, ρ, S => De.nx ρ S
  | x :: xs, De, ρ, S => f x { nx := fun ρ' S' => ok S' ∧ loopD ok f xs De ρ' S', ct := fun ρ' S' => ok S' ∧ loopD ok f xs De ρ' S', bk := De.nx, rt := De.rt } ρ S
def dFor (ι : TID) (γ : TGD) (τ : TSD) : TSD := fun De ρ S => ι ρ S fun it S1 => it.ok S1 ∧ loopD it.ok (fun x De ρ S => γ x ρ S fun ρ' S' => τ De ρ' S') it.xs De ρ S1
theorem ds_for {tg iter : Expr} {ι : TID} {γ : TGD} {L : List Nat} (hp : PassesOwn (model X.prog X.w) X.A X.env X.xe) (hi : DI X tg iter ι) (hg : DG X tg L γ) (hb : DSs X body τ) (hc : X.calm = true := by rfl) (hs : ∀ x, foldedSetIterable iter X.env x = pure x := by intro _; rfl) :
    DS X (.For tg iter body [] pos) (dFor ι γ τ) := psW (ps_for hp hc hi hg hb hs) fun E σ H ⟨ρ, S, De, re, rs, q, k⟩ => by
  refine ⟨ρ, S, _, re, rs, q, fun it S1 H1 J q1 g1 wk => ?_⟩
  obtain ⟨ok1, q1⟩ := q1
  refine ⟨fun i m σ2 H2 => m = it.xs.length - i ∧ i ≤ it.xs.length ∧ ∃ ρ2 S2, Go X.K S1 H1 S2 H2 ∧ RE X.K S2 H2 ρ2 σ2 ∧ it.ok S2 ∧ loopD it.ok (fun x De ρ S => γ x ρ S fun ρ' S' => τ De ρ' S') (it.xs.drop i) De ρ2 S2, ⟨_, rfl, Nat.zero_le _, ρ, S1, .refl g1.rs, re.tp g1.tp, ok1, q1⟩, ?_⟩
  rintro i m σ2 H2 ⟨rfl, hi, ρ2, S2, g2, re2, ok2, q2⟩
  by_cases hlt : i < it.xs.length
  · have hx : it.xs[i]? = some it.xs[i] := List.getElem?_eq_getElem hlt
    have hd : it.xs.drop i = it.xs[i] :: it.xs.drop (i + 1) := List.drop_eq_getElem_cons hlt
    rw [hd] at q2
    obtain ⟨go, yl⟩ := wk.go i _ S2 H2 hx g2.tp g2.rs ok2
    refine .inr ⟨go, fun σ3 H3 => ∃ ρ3 S3, Go X.K S1 H1 S3 H3 ∧ RE X.K S3 H3 ρ3 σ3 ∧ it.ok S3 ∧ loopD it.ok (fun x De ρ S => γ x ρ S fun ρ' S' => τ De ρ' S') (it.xs.drop (i + 1)) De ρ3 S3, fun σ3 H3 h3 => ⟨it.xs.length - (i + 1), by omega, rfl, by omega, h3⟩, fun v H3 y => ?_⟩
    obtain ⟨g3, r3⟩ := yl v H3 y
    have g23 := g2.trans g3
    refine ⟨_, ρ2, S2, _, r3, re2.tp g3.tp, g3.rs, q2, fun ρ4 S4 σ4 H4 q4 g4 re4 _ => ?_⟩
    have g14 := g23.trans g4
    refine ⟨ρ4, S4, _, re4, g4.rs, q4, ⟨fun a b c d x y z => ?_, fun a b c d x y z => ?_, fun a b c d x y z => ?_, fun a b c d x y z => ?_⟩⟩
    · exact ⟨a, b, g14.trans y, z, x.1, x.2⟩
    · exact k.rt a b c d x ((g1.trans g14).trans y) z
    · exact k.nx a b c d x ((g1.trans g14).trans y) z
    · exact ⟨a, b, g14.trans y, z, x.1, x.2⟩
  · have e : i = it.xs.length := by omega
    subst e
    rw [List.drop_length] at q2
    exact .inl ⟨wk.stop S2 H2 g2.tp g2.rs ok2, k.nx _ _ _ _ q2 (g1.trans g2) re2⟩
/-- while: W with its measure -/
def dWhile (t : TTD) (τ : TSD) : TSD := fun De ρ S => ∃ W : Nat → DEnv → Sto → Prop, (∃ m, W m ρ S) ∧ ∀ m ρ S, W m ρ S →
  t ρ S fun b S1 => match b with
    | true => τ { nx := fun ρ' S' => ∃ m', m' < m ∧ W m' ρ' S', ct := fun ρ' S' => ∃ m', m' < m ∧ W m' ρ' S', bk := De.nx, rt := De.rt } ρ S1
    | false => De.nx ρ S1
theorem ds_while (hp : PassesOwn (model X.prog X.w) X.A X.env X.xe) (hc : DT X c θ) (hb : DSs X body τ) : DS X (.While c body [] pos) (dWhile θ τ) := psW (ps_while hp hc hb) fun E σ H ⟨ρ, S, De, re, rs, ⟨W, ⟨m0, w0⟩, turn⟩, k⟩ => by
  refine ⟨fun m σ2 H2 => ∃ ρ2 S2, Go X.K S H S2 H2 ∧ RE X.K S2 H2 ρ2 σ2 ∧ W m ρ2 S2, ⟨m0, ρ, S, .refl rs, re, w0⟩, ?_⟩
  rintro m σ2 H2 ⟨ρ2, S2, g2, re2, w2⟩
  refine ⟨ρ2, S2, _, re2, g2.rs, turn m ρ2 S2 w2, fun b S3 H3 q3 g3 => ?_⟩
  cases b with
  | true =>
    rw [if_pos rfl]
    refine ⟨fun σ4 H4 => ∃ m', m' < m ∧ ∃ ρ4 S4, Go X.K S H S4 H4 ∧ RE X.K S4 H4 ρ4 σ4 ∧ W m' ρ4 S4, fun σ4 H4 h => h, ?_⟩
    have g := g2.trans g3
    refine ⟨ρ2, S3, _, re2.tp g3.tp, g3.rs, q3, ⟨fun a b c d x y z => ?_, fun a b c d x y z => ?_, fun a b c d x y z => ?_, fun a b c d x y z => ?_⟩⟩
    · obtain ⟨m', hm, w⟩ := x
      exact ⟨m', hm, a, b, g.trans y, z, w⟩
    · exact k.rt a b c d x (g.trans y) z
    · exact k.nx a b c d x (g.trans y) z
    · obtain ⟨m', hm, w⟩ := x
      exact ⟨m', hm, a, b, g.trans y, z, w⟩
  | false =>
    rw [if_neg Bool.false_ne_true]
    exact k.nx _ _ _ _ q3 (g2.trans g3) (re2.tp g3.tp)

/-! ### comprehensions -/
def Sto.del (S : Sto) (a : Addr) : Sto := fun b => if b = a then none else S b
theorem Sto.del_same {S : Sto} {a : Addr} : S.del a a = none := by unfold Sto.del; rw [if_pos rfl]
theorem Sto.del_ne {S : Sto} {a b : Addr} (h : b ≠ a) : S.del a b = S b := by unfold Sto.del; rw [if_neg h]
theorem Sto.del_up {S : Sto} {a : Addr} {o : MO} (h : S a = none) : (S.up a o).del a = S := by
  funext b
  by_cases e : b = a
  · subst e; rw [Sto.del_same, h]
  · rw [Sto.del_ne e, Sto.up_ne e]
/-- what was tracked at a is not any more -/
theorem go_del {K : PySem.W.Frag} {S : Sto} {H : Hp} (rs : RS K S H) (a : Addr) : Go K S H (S.del a) H := by
  have tp : Tp S H (S.del a) H := ⟨fun _ _ h => h, fun _ _ _ h => h, fun b o h1 h2 => ⟨by
    by_cases e : b = a
    · subst e; exact Sto.del_same
    · rw [Sto.del_ne e]; exact h1, h2⟩⟩
  refine ⟨tp, fun b mo e => ?_⟩
  by_cases hb : b = a
  · subst hb; rw [Sto.del_same] at e; cases e
  · rw [Sto.del_ne hb] at e
    exact (rs b mo e).mv tp fun _ h => h
/-- the items from the left; acc: what is made so far, it stands at Dl -/
def lcD (Dl : Addr) (ok : Sto → Prop) (ρ : DEnv) (γ : TGD) (t : TTD) (el : TED) : List D → List D → Sto → (List D → Sto → Prop) → Prop
  | [], acc, S, Q => Q acc S
  | x :: xs, acc, S, Q => γ x ρ S fun ρ' S1 => t ρ' S1 fun b S2 => match b with
    | true => el ρ' S2 fun y S3 => S3 Dl = some (.lst acc) ∧ acc.length < sizeLine ∧ ok (S3.up Dl (.lst (acc ++ [y]))) ∧ lcD Dl ok ρ γ t el xs (acc ++ [y]) (S3.up Dl (.lst (acc ++ [y]))) Q
    | false => S2 Dl = some (.lst acc) ∧ ok S2 ∧ lcD Dl ok ρ γ t el xs acc S2 Q
/-- the list is done: it stays tracked (r), or nobody will change it -/
def endL (r : Bool) (Dl : Addr) (Q : QD) : List D → Sto → Prop := fun ds S2 => match r with
  | true => Q (.ref Dl) S2
  | false => Q (.lst ds) (S2.del Dl)
def dLc (r : Bool) (ι : TID) (γ : TGD) (t : TTD) (el : TED) (vs : List Nat) : TED := fun ρ S Q => ι ρ S fun it S1 => ∀ Dl, S1 Dl = none → it.ok (S1.up Dl (.lst [])) ∧ lcD Dl it.ok (wipeD ρ vs) γ t el it.xs [] (S1.up Dl (.lst [])) (endL r Dl Q)
abbrev DTs (X : Cx) (ifs : List Expr) (δ : TTD) : Prop := PTs X ifs (LT X.K δ)
def dYes : TTD := fun _ S Q => Q true S
theorem ptsW {ifs : List Expr} {t t' : TT} (h : PTs X ifs t) (w : ∀ σ H Q, t' σ H Q → t σ H Q) : PTs X ifs t' := ⟨fun pins s σ H Q I q => h.run pins s σ H Q I (w σ H Q q)⟩
theorem dts_nil : DTs X [] dYes := ptsW pts_nil fun σ H Q ⟨ρ, S, Qd, re, rs, q, k⟩ => k _ _ _ q (.refl rs)
theorem dts_one (h : DT X c θ) : DTs X [c] θ := pts_one h
theorem lc_lift {K : PySem.W.Frag} {J : It} {it : ItD} {Dl : Addr} {γ : TGD} {t : TTD} {el : TED} {L vs : List Nat} {r : Bool} {ρ : DEnv} {σ : L2.St} {S S1 : Sto} {H H1 : Hp} {Qd : QD} {Q : VK} (hL : ∀ i ∈ L, i ∈ vs) (re : RE K S1 H1 ρ σ) (g1 : Go K S H S1 H1) (wk : Wk K J it S1 H1) (hD : H1 Dl = none)
    (ok1 : it.ok (S1.up Dl (.lst []))) (q1 : lcD Dl it.ok (wipeD ρ vs) γ t el it.xs [] (S1.up Dl (.lst [])) (endL r Dl Qd)) (k : Aft K S H Qd Q) :
    ∃ W : Nat → Nat → Hp → Prop, (∃ m, W 0 m (upd H1 Dl (.lst []))) ∧ ∀ i m H, W i m H →
      (J.stop i H ∧ Q (.ref Dl) H) ∨ (J.go i H ∧ ∃ Nx : Hp → Prop, (∀ H', Nx H' → ∃ m', m' < m ∧ W (i + 1) m' H') ∧ ∀ x H', J.yld i H x H' → LG K L γ x (wipe σ vs) H' fun σ2 H2 => wipe σ2 vs = wipe σ vs ∧ LT K t σ2 H2 fun b H3 =>
        if b = true then LE K el σ2 H3 fun y H4 => ∃ acc, H4 Dl = some (.lst acc) ∧ acc.length < sizeLine ∧ Nx (upd H4 Dl (.lst (acc ++ [y]))) else Nx H3) := by
  have f1 : S1 Dl = none := g1.rs.free hD
  have gD : Go K S1 H1 (S1.up Dl (.lst [])) (upd H1 Dl (.lst [])) := Go.made g1.rs hD fun S' H' tp e => ⟨[], e, RDs.nil.mpr rfl⟩
  refine ⟨fun i m H2 => m = it.xs.length - i ∧ i ≤ it.xs.length ∧ ∃ acc S2, Go K S1 H1 S2 H2 ∧ S2 Dl = some (.lst acc) ∧ it.ok S2 ∧ lcD Dl it.ok (wipeD ρ vs) γ t el (it.xs.drop i) acc S2 (endL r Dl Qd),
    ⟨_, rfl, Nat.zero_le _, [], _, gD, Sto.up_same, ok1, q1⟩, ?_⟩
  rintro i m H2 ⟨rfl, hi, acc, S2, g2, d2, ok2, q2⟩
  by_cases hlt : i < it.xs.length
  · have hx : it.xs[i]? = some it.xs[i] := List.getElem?_eq_getElem hlt
    have hd : it.xs.drop i = it.xs[i] :: it.xs.drop (i + 1) := List.drop_eq_getElem_cons hlt
    rw [hd] at q2
    obtain ⟨go, yl⟩ := wk.go i _ S2 H2 hx g2.tp g2.rs ok2
    refine .inr ⟨go, fun H3 => ∃ acc3 S3, Go K S1 H1 S3 H3 ∧ S3 Dl = some (.lst acc3) ∧ it.ok S3 ∧ lcD Dl it.ok (wipeD ρ vs) γ t el (it.xs.drop (i + 1)) acc3 S3 (endL r Dl Qd), fun H3 h3 => ⟨it.xs.length - (i + 1), by omega, rfl, by omega, h3⟩, fun v H3 y => ?_⟩
    obtain ⟨g3, r3⟩ := yl v H3 y
    have g23 := g2.trans g3
    refine ⟨_, wipeD ρ vs, S2, _, r3, (re.tp g23.tp).wipe vs, g3.rs, q2, fun ρ4 S4 σ4 H4 q4 g4 re4 al => ⟨?_, ?_⟩⟩
    · have e := al vs hL
      rw [e]
      have ww : ∀ σ : L2.St, wipe (wipe σ vs) vs = wipe σ vs := fun σ => by
        apply List.ext_getElem?
        intro j
        rw [wipe_get, wipe_get]
        by_cases hj : j ∈ vs
        · rw [if_pos hj, if_pos hj, Option.map_map]; rfl
        · rw [if_neg hj, if_neg hj]
      exact ww σ
    refine ⟨ρ4, S4, _, re4, g4.rs, q4, fun b S5 H5 q5 g5 => ?_⟩
    cases b with
    | true =>
      rw [if_pos rfl]
      refine ⟨ρ4, S5, _, re4.tp g5.tp, g5.rs, q5, fun yd S6 yv H6 q6 g6 r6 => ?_⟩
      obtain ⟨d6, l6, ok6, q6⟩ := q6
      obtain ⟨ws, hw, rw1⟩ := g6.rs Dl _ d6
      have g26 := (g23.trans g4).trans (g5.trans g6)
      have gw : Go K S6 H6 (S6.up Dl (.lst (acc ++ [yd]))) (upd H6 Dl (.lst (ws ++ [yv]))) := Go.wrote g6.rs d6 fun S' H' tp e => ⟨_, e, (rw1.tp tp).snoc (r6.tp tp)⟩
      exact ⟨ws, hw, by rw [rw1.len]; exact l6, acc ++ [yd], _, g26.trans gw, Sto.up_same, ok6, q6⟩
    | false =>
      rw [if_neg Bool.false_ne_true]
      obtain ⟨d5, ok5, q5⟩ := q5
      exact ⟨acc, S5, (g23.trans g4).trans g5, d5, ok5, q5⟩
  · have e : i = it.xs.length := by omega
    subst e
    rw [List.drop_length] at q2
    refine .inl ⟨wk.stop S2 H2 g2.tp g2.rs ok2, ?_⟩
    have q2' : endL r Dl Qd acc S2 := q2
    cases r with
    | true => exact k _ _ _ _ q2' (g1.trans g2) (by rw [RD])
    | false =>
      obtain ⟨ws, hw, rw1⟩ := g2.rs Dl _ d2
      have gd := go_del g2.rs Dl
      refine k _ _ _ _ q2' ((g1.trans g2).trans gd) ?_
      rw [RD]
      exact ⟨Dl, ws, rfl, Sto.del_same, hw, rw1.tp gd.tp⟩
theorem de_lc {elt tg iter : Expr} {ifs : List Expr} {scope : Scope} {own : List (Str × Nat)} {ι : TID} {γ : TGD} {t : TTD} {el : TED} {L : List Nat} {r : Bool} (hN : X.N.Nodup) (hi : DI X tg iter ι) (ok : BlkOk X.N X.env.scope scope own) (hL : ∀ i ∈ L, i ∈ own.map (·.2))
    (hg : ∀ (s : Shared) (H : Hp) (C : Addr) (cl : List (Str × Addr)) (fp : List Addr), DG (X.blk s H scope (compEnvC scope cl C X.env) fp) tg L γ) (ht : ∀ (s : Shared) (H : Hp) (C : Addr) (cl : List (Str × Addr)) (fp : List Addr), DTs (X.blk s H scope (compEnvC scope cl C X.env) fp) ifs t)
    (he : ∀ (s : Shared) (H : Hp) (C : Addr) (cl : List (Str × Addr)) (fp : List Addr), DE (X.blk s H scope (compEnvC scope cl C X.env) fp) elt el) (hc : X.calm = true := by rfl) (hs : ∀ x, foldedSetIterable iter X.env x = pure x := by intro _; rfl) :
    DE X (.ListComp elt [⟨tg, iter, ifs, 0⟩] scope pos) (dLc r ι γ t el (own.map (·.2))) := peW (pe_lc hc hN hi ok hg ht he hs) fun σ H Q ⟨ρ, S, Qd, re, rs, q, k⟩ => by
  refine ⟨ρ, S, _, re, rs, q, fun it S1 H1 J q1 g1 wk => ?_⟩
  intro Dl hD
  obtain ⟨ok1, q1⟩ := q1 Dl (g1.rs.free hD)
  exact lc_lift hL (re.tp g1.tp) g1 wk hD ok1 q1 k
theorem ds_setLc (i : Nat) {y : Str} {py spos : Pos} {elt tg iter : Expr} {ifs : List Expr} {scope : Scope} {own : List (Str × Nat)} {ι : TID} {γ : TGD} {t : TTD} {el : TED} {L : List Nat} {r : Bool} (hN : X.N.Nodup) (hi : DI X tg iter ι) (ok : BlkOk X.N X.env.scope scope own) (hL : ∀ i ∈ L, i ∈ own.map (·.2))
    (hg : ∀ (s : Shared) (H : Hp) (C : Addr) (cl : List (Str × Addr)) (fp : List Addr), DG (X.blk s H scope (compEnvC scope cl C X.env) fp) tg L γ) (ht : ∀ (s : Shared) (H : Hp) (C : Addr) (cl : List (Str × Addr)) (fp : List Addr), DTs (X.blk s H scope (compEnvC scope cl C X.env) fp) ifs t)
    (he : ∀ (s : Shared) (H : Hp) (C : Addr) (cl : List (Str × Addr)) (fp : List Addr), DE (X.blk s H scope (compEnvC scope cl C X.env) fp) elt el) (hy : X.N[i]? = some y := by rfl) (hyl : X.env.scope.names.lookup y = some .local := by rfl)
    (hsw : swapsWith (.ListComp elt [⟨tg, iter, ifs, 0⟩] scope pos) (some (.Name y py)) spos.line X.env = pure true := by exact sw_true rfl rfl rfl (by decide +kernel)) (hc : X.calm = true := by rfl) (hs : ∀ x, foldedSetIterable iter X.env x = pure x := by intro _; rfl) :
    DS X (.Assign [.Name y py] (.ListComp elt [⟨tg, iter, ifs, 0⟩] scope pos) spos) (dAsg i (dLc r ι γ t el (own.map (·.2)))) := psW (ps_setLc hc hN hy hyl hsw hi ok hg ht he hs) fun E σ H ⟨ρ, S, De, re, rs, q, k⟩ => by
  show tLc _ _ _ _ _ σ H fun x H1 => gName i x σ H1 E.nx
  refine ⟨ρ, S, _, re, rs, q, fun it S1 H1 J q1 g1 wk => ?_⟩
  intro Dl hD
  obtain ⟨ok1, q1⟩ := q1 Dl (g1.rs.free hD)
  exact lc_lift hL (re.tp g1.tp) g1 wk hD ok1 q1 fun d S' v H' q' g' r' => k.nx _ _ _ _ q' g' ((re.tp g'.tp).set i r')
end

/-! ### defs -/
section
variable {P : Program} {w : World} {K : PySem.W.Frag} {mg : Str → Option Value} {base : Heap}
/-- a promise that stands over what the store forgets, and over a list that nobody will change any more -/
structure Fz (S' : Sto) (d' : D) (S : Sto) (d : D) : Prop where
  ok : ∀ (K : PySem.W.Frag) (H : Hp) (v : V), RS K S' H → RD K S' H d' v → Go K S' H S H ∧ RD K S H d v
theorem Fz.refl {S : Sto} {d : D} : Fz S d S d := ⟨fun K H v rs r => ⟨.refl rs, r⟩⟩
theorem Fz.trans {S S1 S2 : Sto} {d d1 d2 : D} (a : Fz S d S1 d1) (b : Fz S1 d1 S2 d2) : Fz S d S2 d2 := ⟨fun K H v rs r => let ⟨g1, r1⟩ := a.ok K H v rs r; let ⟨g2, r2⟩ := b.ok K H v g1.rs r1; ⟨g1.trans g2, r2⟩⟩
theorem Fz.del {S : Sto} {d : D} (a : Addr) : Fz S d (S.del a) d := ⟨fun K H v rs r => ⟨go_del rs a, r.tp (go_del rs a).tp⟩⟩
theorem Fz.freeze {S : Sto} {a : Addr} {ds : List D} (h : S a = some (.lst ds)) : Fz S (.ref a) (S.del a) (.lst ds) := ⟨fun K H v rs r => by
  have g := go_del rs a
  obtain ⟨ws, hw, r1⟩ := rs a _ h
  rw [RD] at r
  refine ⟨g, ?_⟩
  rw [RD]
  exact ⟨a, ws, r, Sto.del_same, hw, r1.tp g.tp⟩⟩
/-- forget a and all about it: the store is S again -/
theorem Fz.back {S : Sto} {d : D} {a : Addr} {o : MO} (h : S a = none) : Fz (S.up a o) d S d := by
  have := Fz.del (S := S.up a o) (d := d) a
  rw [Sto.del_up h] at this
  exact this
theorem Fz.backL {S : Sto} {a : Addr} {ds : List D} (h : S a = none) : Fz (S.up a (.lst ds)) (.ref a) S (.lst ds) := by
  have := Fz.freeze (S := S.up a (.lst ds)) (a := a) (ds := ds) Sto.up_same
  rw [Sto.del_up h] at this
  exact this
def FzQ (Q : QD) : QD := fun d' S' => ∃ d S, Q d S ∧ Fz S' d' S d
theorem FzQ.here {Q : QD} {d : D} {S : Sto} (h : Q d S) : FzQ Q d S := ⟨d, S, h, .refl⟩
theorem fnD {x qual : Str} {params : Arguments} {body : List Stmt} {scope : Scope} {f : Addr} {fd : FuncData} {CX : CXT} {N ps : List Str} {k : Nat} {sp : DSp} (F : FunD K x qual params body scope [] [] f fd) (Sc : FnScope N ps scope) (len : ∀ ds S Q, sp ds S Q → ds.length = ps.length)
    (hbody : ∀ (cdv : Value) (A : Around) (outer : List Env) (s : Shared) (H : Hp) (E : XK), Room k (A.deeper (envOfC qual scope s.heap.objs.size f cdv)) →
      ∃ τ, DSs (cxOf CX P w K mg base N qual scope f cdv A outer s H E) body τ ∧ ∀ ds S Q, sp ds S Q → τ { nx := fun _ S' => FzQ Q .non S', rt := FzQ Q } (startD N ds) S) : FnOk P w K mg base CX (k + 1) f fd ps (LSp K sp) := by
  refine F.ok Sc (fun vs H Q E ⟨ds, S, Qd, r1, rs, q, kk⟩ => ?_) (fun cdv A outer s H vs Q E hr ⟨ds, S, Qd, r1, rs, q, kk⟩ => ?_)
  · rw [r1.len]; exact len _ _ _ q
  · obtain ⟨τ, h1, h2⟩ := hbody cdv A outer s H E hr
    refine ⟨LS K τ, h1, startD N ds, S, _, RE.start r1, rs, h2 ds S Qd q, ⟨fun ρ' S' σ' H' ⟨d, S0, q', fz⟩ g' re' => ?_, fun d' S' v H' ⟨d, S0, q', fz⟩ g' r' => ?_, fun _ _ _ _ z => z.elim, fun _ _ _ _ z => z.elim⟩⟩
    · obtain ⟨g2, r2⟩ := fz.ok K H' .non g'.rs (by rw [RD])
      exact kk _ _ _ _ q' (g'.trans g2) r2
    · obtain ⟨g2, r2⟩ := fz.ok K H' v g'.rs r'
      exact kk _ _ _ _ q' (g'.trans g2) r2
end
end PL
/-! operations by values -/
namespace PL
open PySem PySem.Spec PyProof.Rows L2

/-! ### data -/
mutual
def D.py : D → PyData
  | .non => .none
  | .bl b => .bool b
  | .int i => .int i
  | .str x => .str x
  | .tup ds => .tuple (D.pys ds)
  | .tpx ds => .tuple (D.pys ds)
  | .lst ds => .list (D.pys ds)
  | .fz ds => .list (D.pys ds)
  | .ref _ => .none
def D.pys : List D → List PyData
  | [] => []
  | d :: ds => D.py d :: D.pys ds
end
theorem D.pys_eq : ∀ ds : List D, D.pys ds = ds.map D.py
  | [] => by rw [D.pys]; rfl
  | d :: ds => by rw [D.pys, D.pys_eq ds]; rfl
/-- plain data, at most n deep -/
def D.okn : Nat → D → Bool
  | _, .non => true
  | _, .bl _ => true
  | _, .int _ => true
  | _, .str x => PyData.strOk x
  | 0, _ => false
  | n + 1, .tup ds => ds.all (D.okn n)
  | n + 1, .tpx ds => ds.all (D.okn n)
  | n + 1, .lst ds => ds.all (D.okn n)
  | _ + 1, .fz _ => false
  | _ + 1, .ref _ => false
theorem D.okn_lay : ∀ (n : Nat) (d : D), D.okn n d = true → (D.py d).canLay0 = true ∧ (D.py d).depth ≤ n := by
  intro n
  induction n with
  | zero =>
    intro d h
    cases d <;> first | (simp [D.okn] at h; done) | (simp [D.py, PyData.canLay0, PyData.depth]; done) | skip
    simp only [D.okn] at h
    simp [D.py, PyData.canLay0, PyData.depth, h]
  | succ n ih =>
    have all : ∀ ds : List D, ds.all (D.okn n) = true → PyData.canLayAll0 (D.pys ds) = true ∧ PyData.depthAll (D.pys ds) ≤ n := by
      intro ds
      induction ds with
      | nil => intro _; simp [D.pys, PyData.canLayAll0, PyData.depthAll]
      | cons d ds ihd =>
        intro h
        rw [List.all_cons, Bool.and_eq_true] at h
        obtain ⟨a1, a2⟩ := ih d h.1
        obtain ⟨b1, b2⟩ := ihd h.2
        rw [D.pys, PyData.canLayAll0, PyData.depthAll, a1, b1]
        exact ⟨rfl, Nat.max_le.mpr ⟨a2, b2⟩⟩
    intro d h
    cases d with
    | tup ds =>
      obtain ⟨a, b⟩ := all ds (by simpa [D.okn] using h)
      rw [D.py, PyData.canLay0, PyData.depth]
      exact ⟨a, by omega⟩
    | tpx ds =>
      obtain ⟨a, b⟩ := all ds (by simpa [D.okn] using h)
      rw [D.py, PyData.canLay0, PyData.depth]
      exact ⟨a, by omega⟩
    | lst ds =>
      obtain ⟨a, b⟩ := all ds (by simpa [D.okn] using h)
      rw [D.py, PyData.canLay0, PyData.depth]
      exact ⟨a, by omega⟩
    | str x =>
      simp only [D.okn] at h
      simp [D.py, PyData.canLay0, PyData.depth, h]
    | fz ds => simp [D.okn] at h
    | ref a => simp [D.okn] at h
    | _ => simp [D.py, PyData.canLay0, PyData.depth]
theorem D.okn_shaped {n : Nat} {d : D} (h : D.okn n d = true) (hn : n ≤ 64) : SeqAt.shaped (D.py d) = true := by
  obtain ⟨a, b⟩ := D.okn_lay n d h
  unfold SeqAt.shaped
  rw [a, Bool.true_and]
  exact decide_eq_true (Nat.le_trans b hn)
section
variable {K : PySem.W.Frag} {S : Sto} {H : Hp}
theorem D.okn_dp : ∀ (n : Nat) (d : D) (v : V), D.okn n d = true → RD K S H d v → Dp K H v (D.py d) := by
  intro n
  induction n with
  | zero =>
    intro d v h r
    cases d <;> first | (simp [D.okn] at h; done) | (rw [RD] at r; subst r; rw [D.py]; constructor)
  | succ n ih =>
    have all : ∀ (ds : List D) (vs : List V), ds.all (D.okn n) = true → RDs K S H ds vs → DpAll K H vs (D.pys ds) := by
      intro ds
      induction ds with
      | nil => intro vs _ r; rw [RDs.nil.mp r, D.pys]; exact .nil
      | cons d ds ihd =>
        intro vs h r
        rw [List.all_cons, Bool.and_eq_true] at h
        rw [RDs] at r
        obtain ⟨v, w, rfl, r1, r2⟩ := r
        rw [D.pys]
        exact .cons (ih d v h.1 r1) (ihd w h.2 r2)
    intro d v h r
    cases d with
    | tup ds =>
      rw [RD] at r
      obtain ⟨a, vs, rfl, r1, r2⟩ := r
      rw [D.py]
      exact .tup r1 (all ds vs (by simpa [D.okn] using h) r2)
    | tpx ds =>
      rw [RD] at r
      obtain ⟨a, o, vs, rfl, r1, _, r2⟩ := r
      rw [D.py]
      exact .tup (.inl (.inr ⟨o, r1⟩)) (all ds vs (by simpa [D.okn] using h) r2)
    | lst ds =>
      rw [RD] at r
      obtain ⟨a, vs, rfl, _, r1, r2⟩ := r
      rw [D.py]
      exact .lst (.of r1) (all ds vs (by simpa [D.okn] using h) r2)
    | fz ds => simp [D.okn] at h
    | ref a => simp [D.okn] at h
    | _ => (rw [RD] at r; subst r; rw [D.py]; constructor)
theorem okn_all_dp {n : Nat} {ds : List D} {vs : List V} (h : ds.all (D.okn n) = true) (r : RDs K S H ds vs) : DpAll K H vs (D.pys ds) := by
  induction ds generalizing vs with
  | nil => rw [RDs.nil.mp r, D.pys]; exact .nil
  | cons d ds ihd =>
    rw [List.all_cons, Bool.and_eq_true] at h
    rw [RDs] at r
    obtain ⟨v, w, rfl, r1, r2⟩ := r
    rw [D.pys]
    exact .cons (D.okn_dp n d v h.1 r1) (ihd h.2 r2)
/-- a tracked list as the data that it is now -/
def Sto.now (S : Sto) : D → D
  | .ref p => match S p with
    | some (.lst ds) => .lst ds
    | _ => .ref p
  | d => d
theorem now_dp {n : Nat} {d : D} {v : V} (h : D.okn (n + 1) (S.now d) = true) (r : RD K S H d v) (rs : RS K S H) : Dp K H v (D.py (S.now d)) := by
  cases d with
  | ref p =>
    have e : S.now (.ref p) = (match S p with
      | some (.lst ds) => D.lst ds
      | _ => .ref p) := rfl
    rw [e] at h ⊢
    split at h
    · rename_i ds hp
      obtain ⟨vs, h1, h2⟩ := rs p _ hp
      rw [RD] at r
      subst r
      rw [D.py]
      exact .lst (.of h1) (okn_all_dp (n := n) (by simpa [D.okn] using h) h2)
    · simp [D.okn] at h
  | _ => exact D.okn_dp (n + 1) _ v h r
end

section
variable {X : Cx}
/-! ### == and != -/
def eqD (d e : D) : Bool := PyData.eqv (D.py d) (D.py e)
def oEq : R2D := fun d e S Q => (D.okn 8 (S.now d) = true ∧ D.okn 8 (S.now e) = true) ∧ Q (.bl (eqD (S.now d) (S.now e))) S
def oNe : R2D := fun d e S Q => (D.okn 8 (S.now d) = true ∧ D.okn 8 (S.now e) = true) ∧ Q (.bl (!eqD (S.now d) (S.now e))) S
theorem RD.bl {K : PySem.W.Frag} {S : Sto} {H : Hp} {b : Bool} : RD K S H (.bl b) (.bl b) := by rw [RD]
theorem RD.non {K : PySem.W.Frag} {S : Sto} {H : Hp} : RD K S H .non .non := by rw [RD]
theorem RD.str {K : PySem.W.Frag} {S : Sto} {H : Hp} {b : Str} : RD K S H (.str b) (.str b) := by rw [RD]
theorem p_eq (hu : X.A.units + 64 < cLine) : OpD X (compareOp .Eq) oEq := opD_of (op_eqD hu) fun d e x y S H Qd Q r1 r2 rs ⟨⟨q1, q2⟩, q⟩ k =>
  ⟨_, _, now_dp q1 r1 rs, now_dp q2 r2 rs, D.okn_shaped q1 (by decide), D.okn_shaped q2 (by decide), k.here rs q RD.bl⟩
theorem p_ne (hu : X.A.units + 64 < cLine) : OpD X (compareOp .NotEq) oNe := opD_of (op_neD hu) fun d e x y S H Qd Q r1 r2 rs ⟨⟨q1, q2⟩, q⟩ k =>
  ⟨_, _, now_dp q1 r1 rs, now_dp q2 r2 rs, D.okn_shaped q1 (by decide), D.okn_shaped q2 (by decide), k.here rs q RD.bl⟩

/-! ### ints -/
def oI (C : Int → Int → Prop) (g : Int → Int → D) : R2D := fun d e S Q => match d, e with
  | .int i, .int j => C i j ∧ Q (g i j) S
  | _, _ => False
def oI0 (g : Int → Int → D) : R2D := fun d e S Q => match d, e with
  | .int i, .int j => Q (g i j) S
  | _, _ => False
theorem oI_int {C : Int → Int → Prop} {g : Int → Int → D} {d e : D} {S : Sto} {Q : QD} (h : oI C g d e S Q) : ∃ i j, d = .int i ∧ e = .int j ∧ C i j ∧ Q (g i j) S := by
  unfold oI at h; split at h
  · exact ⟨_, _, rfl, rfl, h⟩
  · exact h.elim
theorem oI0_int {g : Int → Int → D} {d e : D} {S : Sto} {Q : QD} (h : oI0 g d e S Q) : ∃ i j, d = .int i ∧ e = .int j ∧ Q (g i j) S := by
  unfold oI0 at h; split at h
  · exact ⟨_, _, rfl, rfl, h⟩
  · exact h.elim
theorem p_I {f : Value → Value → Sem Value} {C : Int → Int → Prop} {g : Int → Int → Int} (h : OpR X f (rI C fun i j => .int (g i j))) : OpD X f (oI C fun i j => .int (g i j)) := opD_of h fun d e x y S H Qd Q r1 r2 rs q k => by
  obtain ⟨i, j, rfl, rfl, c, q⟩ := oI_int q
  rw [RD] at r1 r2
  exact ⟨i, j, r1, r2, c, k.here rs q RD.int⟩
theorem p_I0 {f : Value → Value → Sem Value} {g : Int → Int → Int} (h : OpR X f (rI0 fun i j => .int (g i j))) : OpD X f (oI0 fun i j => .int (g i j)) := opD_of h fun d e x y S H Qd Q r1 r2 rs q k => by
  obtain ⟨i, j, rfl, rfl, q⟩ := oI0_int q
  rw [RD] at r1 r2
  exact ⟨i, j, r1, r2, k.here rs q RD.int⟩
theorem p_B0 {f : Value → Value → Sem Value} {g : Int → Int → Bool} (h : OpR X f (rI0 fun i j => .bl (g i j))) : OpD X f (oI0 fun i j => .bl (g i j)) := opD_of h fun d e x y S H Qd Q r1 r2 rs q k => by
  obtain ⟨i, j, rfl, rfl, q⟩ := oI0_int q
  rw [RD] at r1 r2
  exact ⟨i, j, r1, r2, k.here rs q RD.bl⟩
abbrev oSub : R2D := oI0 fun i j => .int (i - j)
theorem p_sub : OpD X (binaryOp .Sub) oSub := p_I0 op_sub
theorem p_isub : OpD X (inplaceOp .Sub) oSub := p_I0 iop_sub
abbrev oFdiv : R2D := oI CDiv fun i j => .int (i / j)
theorem p_fdiv : OpD X (binaryOp .FloorDiv) oFdiv := p_I op_fdiv
abbrev oFdivW : R2D := oI CDivW fun i j => .int (i / j)
theorem p_fdivW : OpD X (binaryOp .FloorDiv) oFdivW := p_I op_fdivW
abbrev oMod : R2D := oI (fun _ j => 0 < j) fun i j => .int (i % j)
theorem p_mod : OpD X (binaryOp .Mod) oMod := p_I op_mod
theorem p_imul : OpD X (inplaceOp .Mult) (oI CMul fun i j => .int (i * j)) := p_I iop_mul
/-- powers -/
def CPowW (i j : Int) : Prop := 0 ≤ j ∧ j ≤ 1000 ∧ i.natAbs < 2 ^ 1000
theorem op_powW : OpR X (binaryOp .Pow) (rI CPowW fun i j => .int (i ^ j.toNat)) := opI fun a b t u Q' s E hc q => by
  obtain ⟨h0, h1, h2⟩ := hc
  refine pow_int h0 ?_ q
  have hb : Builtin.Int.intBits a ≤ 1000 := by
    unfold Builtin.Int.intBits
    split
    · omega
    · have := PySem.Flt.log2_lt_of (by decide) h2
      omega
  have h3 : (Builtin.Int.intBits a : Int) * b ≤ 1000 * b := Int.mul_le_mul_of_nonneg_right (by omega) h0
  omega
abbrev oPow : R2D := oI CPowW fun i j => .int (i ^ j.toNat)
theorem p_pow : OpD X (binaryOp .Pow) oPow := p_I op_powW
abbrev oLt : R2D := oI0 fun i j => .bl (decide (i < j))
abbrev oLe : R2D := oI0 fun i j => .bl (decide (i ≤ j))
abbrev oGt : R2D := oI0 fun i j => .bl (decide (j < i))
abbrev oGe : R2D := oI0 fun i j => .bl (decide (j ≤ i))
theorem p_lt : OpD X (compareOp .Lt) oLt := p_B0 op_lt
theorem p_le : OpD X (compareOp .LtE) oLe := p_B0 op_le
theorem p_gt : OpD X (compareOp .Gt) oGt := p_B0 op_gt
theorem p_ge : OpD X (compareOp .GtE) oGe := p_B0 op_ge
/-- +: ints, tuples, lists, texts -/
def oAdd (r : Bool) : R2D := fun d e S Q => match d, e with
  | .int i, .int j => Q (.int (i + j)) S
  | .tup a, .tup b => a.length + b.length ≤ sizeLine ∧ Q (.tup (a ++ b)) S
  | .str x, .str y => x.length + y.length ≤ sizeLine ∧ Q (.str (x ++ y)) S
  | d, e => match S.list d, S.list e with
    | some a, some b => a.length + b.length ≤ sizeLine ∧ newL r (a ++ b) S Q
    | _, _ => False
theorem vals_nil_iff {K : PySem.W.Frag} {S : Sto} {H : Hp} {ds : List D} {vs : List V} (r : RDs K S H ds vs) : vs = [] ↔ ds = [] := by
  have h := r.len
  constructor
  · intro e; subst e; exact List.eq_nil_of_length_eq_zero h.symm
  · intro e; subst e; exact List.eq_nil_of_length_eq_zero h
theorem p_add {r : Bool} : OpD X (binaryOp .Add) (oAdd r) := opD_of (op_add.or (op_catA.or (op_add_str.or op_cat))) fun d e x y S H Qd Q r1 r2 rs q k => by
  unfold oAdd at q
  split at q
  · rw [RD] at r1 r2
    exact .inl ⟨_, _, r1, r2, k.here rs q RD.int⟩
  · rw [RD] at r1 r2
    obtain ⟨a, vs, rfl, t1, s1⟩ := r1
    obtain ⟨b, ws, rfl, t2, s2⟩ := r2
    obtain ⟨hl, q⟩ := q
    refine .inr (.inl ⟨a, b, vs, ws, rfl, rfl, t1, t2, by rw [s1.len, s2.len]; exact hl, fun e => ?_, fun e e2 => ?_, fun e e2 p hp => ?_⟩)
    · rw [(vals_nil_iff s1).mp e, List.nil_append] at q
      exact k.here rs q (by rw [RD]; exact ⟨b, ws, rfl, t2, s2⟩)
    · rw [(vals_nil_iff s2).mp e2, List.append_nil] at q
      exact k.here rs q (by rw [RD]; exact ⟨a, vs, rfl, t1, s1⟩)
    · exact newT_ok rs (s1.append s2) q k p hp
  · rw [RD] at r1 r2
    exact .inr (.inr (.inl ⟨_, _, r1, r2, q.1, k.here rs q.2 RD.str⟩))
  · split at q
    · rename_i a b ha hb
      obtain ⟨p1, vs, rfl, t1, s1⟩ := list_at ha r1 rs
      obtain ⟨p2, ws, rfl, t2, s2⟩ := list_at hb r2 rs
      exact .inr (.inr (.inr ⟨p1, p2, vs, ws, rfl, rfl, t1, t2, by rw [s1.len, s2.len]; exact q.1, fun p hp => newL_ok rs (s1.append s2) q.2 k p hp⟩))
    · exact q.elim
abbrev oAddI : R2D := oI0 fun i j => .int (i + j)
theorem p_iadd : OpD X (inplaceOp .Add) oAddI := p_I0 iop_add
/-- int + bool -/
def oAddB : R2D := fun d e S Q => match d, e with
  | .int i, .bl b => Q (.int (i + b2i b)) S
  | _, _ => False
/-- *: ints; a list, a tuple times an int -/
def CMul' (i j : Int) : Prop := (i.natAbs < 2 ^ 1000 ∧ j.natAbs < 2 ^ 1000)
theorem cmul' {i j : Int} (h : CMul' i j) : CMulW i j := wide_mul h.1 h.2 (by decide) (by decide) (by decide)
def oMul (r : Bool) : R2D := fun d e S Q => match e with
  | .int k => match d with
    | .int i => CMul' i k ∧ Q (.int (i * k)) S
    | .tup a => (a ≠ [] ∧ 2 ≤ k ∧ k ≤ 1000 ∧ a.length ≤ 1000) ∧ Q (.tup (List.replicate k.toNat a).flatten) S
    | d => match S.list d with
      | some a => (0 ≤ k ∧ k < 2 ^ 62 ∧ a.length * k.toNat ≤ sizeLine) ∧ newL r (List.replicate k.toNat a).flatten S Q
      | none => False
  | _ => False
theorem p_mul {r : Bool} : OpD X (binaryOp .Mult) (oMul r) := opD_of (op_mulW.or (op_repT.or op_rep)) fun d e x y S H Qd Q r1 r2 rs q k => by
  cases e with
  | int kk =>
    rw [RD] at r2
    subst r2
    cases d with
    | int i =>
      rw [RD] at r1
      exact .inl ⟨i, kk, r1, rfl, cmul' q.1, k.here rs q.2 RD.int⟩
    | tup a =>
      rw [RD] at r1
      obtain ⟨p1, vs, rfl, t1, s1⟩ := r1
      obtain ⟨⟨c0, c1, c2, c3⟩, q⟩ := q
      exact .inr (.inl ⟨p1, kk, vs, rfl, rfl, t1, fun z => c0 ((vals_nil_iff s1).mp z), c1, c2, by rw [s1.len]; exact c3, fun p hp => newT_ok rs (s1.rep _) q k p hp⟩)
    | lst a =>
      obtain ⟨p1, vs, rfl, t1, s1⟩ := list_at (d := .lst a) (ds := a) rfl r1 rs
      obtain ⟨⟨c0, c1, c2⟩, q⟩ := q
      exact .inr (.inr ⟨p1, kk, vs, rfl, rfl, t1, by omega, by omega, by rw [s1.len]; exact c2, fun p hp => newL_ok rs (s1.rep _) q k p hp⟩)
    | ref b =>
      have q' : (match S.list (.ref b) with
        | some a => (0 ≤ kk ∧ kk < 2 ^ 62 ∧ a.length * kk.toNat ≤ sizeLine) ∧ newL r (List.replicate kk.toNat a).flatten S Qd
        | none => False) := q
      split at q'
      · rename_i a ha
        obtain ⟨p1, vs, rfl, t1, s1⟩ := list_at ha r1 rs
        obtain ⟨⟨c0, c1, c2⟩, q⟩ := q'
        exact .inr (.inr ⟨p1, kk, vs, rfl, rfl, t1, by omega, by omega, by rw [s1.len]; exact c2, fun p hp => newL_ok rs (s1.rep _) q k p hp⟩)
      · exact q'.elim
    | _ => exact q.elim
  | _ => exact q.elim
/-- is None, is not None; is True .. -/
def D.isNon : D → Bool
  | .non => true
  | _ => false
def oIsN : R2D := fun d e S Q => match e with
  | .non => Q (.bl d.isNon) S
  | _ => False
def oNotN : R2D := fun d e S Q => match e with
  | .non => Q (.bl (!d.isNon)) S
  | _ => False
theorem rd_non_iff {K : PySem.W.Frag} {S : Sto} {H : Hp} {d : D} {v : V} (r : RD K S H d v) : decide (v = V.non) = d.isNon := by
  cases d <;> rw [RD] at r
  · subst r; rfl
  · subst r; rfl
  · subst r; rfl
  · subst r; rfl
  · obtain ⟨a, vs, rfl, _⟩ := r; rfl
  · obtain ⟨a, vs, rfl, _⟩ := r; rfl
  · obtain ⟨a, vs, rfl, _⟩ := r; rfl
  · subst r; rfl
  · obtain ⟨a, o, vs, rfl, _⟩ := r; rfl
theorem p_isN : OpD X (compareOp .Is) oIsN := opD_of op_isN fun d e x y S H Qd Q r1 r2 rs q k => by
  unfold oIsN at q
  split at q
  · rw [RD] at r2
    refine ⟨r2, ?_⟩
    rw [rd_non_iff r1]
    exact k.here rs q RD.bl
  · exact q.elim
theorem p_notN : OpD X (compareOp .IsNot) oNotN := opD_of op_notN fun d e x y S H Qd Q r1 r2 rs q k => by
  unfold oNotN at q
  split at q
  · rw [RD] at r2
    refine ⟨r2, ?_⟩
    rw [rd_non_iff r1]
    exact k.here rs q RD.bl
  · exact q.elim
def oIsB : R2D := fun d e S Q => match d, e with
  | .bl a, .bl b => Q (.bl (decide (a = b))) S
  | _, _ => False
def oNotB : R2D := fun d e S Q => match d, e with
  | .bl a, .bl b => Q (.bl (!decide (a = b))) S
  | _, _ => False
theorem p_isB : OpD X (compareOp .Is) oIsB := opD_of op_isBl fun d e x y S H Qd Q r1 r2 rs q k => by
  unfold oIsB at q
  split at q
  · rw [RD] at r1 r2
    exact ⟨_, _, r1, r2, k.here rs q RD.bl⟩
  · exact q.elim
theorem p_notB : OpD X (compareOp .IsNot) oNotB := opD_of op_notBl fun d e x y S H Qd Q r1 r2 rs q k => by
  unfold oNotB at q
  split at q
  · rw [RD] at r1 r2
    exact ⟨_, _, r1, r2, k.here rs q RD.bl⟩
  · exact q.elim
/-- x in t, flat items -/
def D.flat : D → Bool
  | .non => true
  | .bl _ => true
  | .int _ => true
  | .str _ => true
  | _ => false

/-! ### subscripts -/
def oIx : R2D := fun d e S Q => match e with
  | .int i => match S.seq d with
    | some ds => match atI ds i with
      | some x => Q x S
      | none => False
    | none => False
  | _ => False
theorem atI_rd {K : PySem.W.Frag} {S : Sto} {H : Hp} {ds : List D} {vs : List V} {i : Int} {d : D} (r : RDs K S H ds vs) (h : atI ds i = some d) : ∃ v, atI vs i = some v ∧ RD K S H d v := by
  unfold atI at h ⊢
  rw [r.len]
  cases e : ixN ds.length i with
  | none => rw [e] at h; cases h
  | some j =>
    rw [e] at h
    obtain ⟨v, e1, e2⟩ := r.get (show ds[j]? = some d from h)
    exact ⟨v, e1, e2⟩
theorem p_ix : IxD X oIx := ixD_of (ix_list.or ix_tup) fun d e x y S H Qd Q r1 r2 rs q k => by
  unfold oIx at q
  split at q
  · split at q
    · rename_i ds hs
      split at q
      · rename_i z hz
        rw [RD] at r2
        obtain ⟨a, vs, rfl, t1, s1⟩ := seq_at hs r1 rs
        obtain ⟨v, e1, e2⟩ := atI_rd s1 hz
        rcases t1 with t1 | t1
        · exact .inl ⟨a, vs, _, v, rfl, r2, t1, e1, k.here rs q e2⟩
        · exact .inr ⟨a, vs, _, v, rfl, r2, t1, e1, k.here rs q e2⟩
      · exact q.elim
    · exact q.elim
  · exact q.elim
/-- t[lo:hi] -/
def cutD (ds : List D) (lo hi : Option Int) : List D := (ds.drop (HT.sIx ds.length 0 lo)).take (HT.sIx ds.length ds.length hi - HT.sIx ds.length 0 lo)
/-- of a list of any kind -/
def Sto.lsts (S : Sto) : D → Option (List D)
  | .lst ds => some ds
  | .fz ds => some ds
  | .ref p => match S p with
    | some (.lst ds) => some ds
    | _ => none
  | _ => none
theorem lsts_at {K : PySem.W.Frag} {S : Sto} {H : Hp} {d : D} {ds : List D} {v : V} (h : S.lsts d = some ds) (rd : RD K S H d v) (rs : RS K S H) : ∃ a vs, v = .ref a ∧ SqL K H a vs ∧ RDs K S H ds vs := by
  cases d with
  | fz es =>
    have e : es = ds := Option.some.inj h
    subst e
    rw [RD] at rd
    obtain ⟨a, vs, h1, h2, h3⟩ := rd
    exact ⟨a, vs, h1, h2.sq, h3⟩
  | lst es =>
    obtain ⟨a, vs, h1, h2, h3⟩ := list_at (d := .lst es) (ds := ds) h rd rs
    exact ⟨a, vs, h1, .of h2, h3⟩
  | ref p =>
    obtain ⟨a, vs, h1, h2, h3⟩ := list_at (d := .ref p) (ds := ds) h rd rs
    exact ⟨a, vs, h1, .of h2, h3⟩
  | _ => cases h
def oSl (r : Bool) : RSlD := fun d lo hi S Q => match d with
  | .tup ds => Q (.tup (cutD ds lo hi)) S
  | .tpx ds => Q (.tup (cutD ds lo hi)) S
  | d => match S.lsts d with
    | some ds => newL r (cutD ds lo hi) S Q
    | none => False
theorem cut_rd {K : PySem.W.Frag} {S : Sto} {H : Hp} {ds : List D} {vs : List V} {lo hi : Option Int} (r : RDs K S H ds vs) : RDs K S H (cutD ds lo hi) (cutV vs lo hi) := by
  unfold cutD cutV
  rw [r.len]
  exact (r.drop _).take _
theorem p_sl {r : Bool} : SlD X (oSl r) := slD_of (sl_list.or sl_tupA) fun d x lo hi S H Qd Q r1 rs q k => by
  unfold oSl at q
  split at q
  · rename_i ds
    rw [RD] at r1
    obtain ⟨a, vs, rfl, t1, s1⟩ := r1
    refine .inr ⟨a, vs, rfl, t1, fun ⟨c1, c2⟩ => ?_, fun _ p hp => newT_ok rs (cut_rd s1) q k p hp⟩
    have e : cutD ds lo hi = ds := by
      unfold cutD
      rw [← s1.len, c1, c2, List.drop_zero, Nat.sub_zero, s1.len, List.take_length]
    rw [e] at q
    exact k.here rs q (by rw [RD]; exact ⟨a, vs, rfl, t1, s1⟩)
  · rename_i ds
    rw [RD] at r1
    obtain ⟨a, o, vs, rfl, t1, _, s1⟩ := r1
    have t1' : SqT X.K H a vs := .inl (.inr ⟨o, t1⟩)
    refine .inr ⟨a, vs, rfl, t1', fun ⟨c1, c2⟩ => ?_, fun _ p hp => newT_ok rs (cut_rd s1) q k p hp⟩
    have e : cutD ds lo hi = ds := by
      unfold cutD
      rw [← s1.len, c1, c2, List.drop_zero, Nat.sub_zero, s1.len, List.take_length]
    rw [e] at q
    exact k.here rs q (by rw [RD]; exact ⟨a, vs, rfl, t1', s1⟩)
  · rename_i h
    split at q
    · rename_i ds hs
      obtain ⟨a, vs, rfl, t1, s1⟩ := lsts_at hs r1 rs
      exact .inl ⟨a, vs, rfl, t1, fun p hp => newL_ok rs (cut_rd s1) q k p hp⟩
    · exact q.elim
end
end PL
/-! built-in functions, list methods, membership, items -/
namespace PL
open PySem PySem.Spec PyProof.Rows L2
section
variable {X : Cx}
/-! ### items of lists: set, get -/
def oSet : TSetD := fun d e f S Q => match e with
  | .int k => match d with
    | .ref p => match S p with
      | some (.lst ds) => ∃ j, ixN ds.length k = some j ∧ Q (S.up p (.lst (ds.set j f)))
      | _ => False
    | _ => False
  | _ => False
theorem oSet_is {d e f : D} {S : Sto} {Q : Sto → Prop} (h : oSet d e f S Q) : ∃ k p ds j, e = .int k ∧ d = .ref p ∧ S p = some (.lst ds) ∧ ixN ds.length k = some j ∧ Q (S.up p (.lst (ds.set j f))) := by
  unfold oSet at h
  split at h
  · split at h
    · split at h
      · rename_i ds hs
        obtain ⟨j, h1, h2⟩ := h
        exact ⟨_, _, ds, j, rfl, rfl, hs, h1, h2⟩
      · exact h.elim
    · exact h.elim
  · exact h.elim
theorem p_set : SetD X oSet := setD_of set_list fun d e f x y z S H Qd Q r1 r2 r3 rs q k => by
  obtain ⟨i, p, ds, j, rfl, rfl, hs, hj, q⟩ := oSet_is q
  obtain ⟨vs, h1, h2⟩ := rs p _ hs
  have r1' := r1
  have r2' := r2
  rw [RD] at r1'
  rw [RD] at r2'
  refine ⟨p, vs, i, j, r1', r2', h1, by rw [h2.len]; exact hj, k _ _ q ?_⟩
  exact Go.wrote rs hs fun S' H' tp e => ⟨_, e, (h2.tp tp).set j (r3.tp tp)⟩
theorem get_list : PGet X (rIxL X.K) := by
  intro pins s σ H x y v u Q I rx ry h
  obtain ⟨p, xs, i, z, rfl, rfl, hq, he, q⟩ := h
  cases rx
  obtain ⟨t, rfl⟩ := ry
  obtain ⟨its, r, pl, hz⟩ := I.list hq
  obtain ⟨j, h1, h2, h3, h4, h5⟩ := atI_get he
  obtain ⟨w, ew, rw'⟩ := r.get h2
  have hl := r.length
  have hn := line63
  have fin : EP X pins σ Q w s := ⟨z, H, I, rw', q⟩
  by_cases h0 : 0 ≤ i
  · have hj : i.toNat = j := by
      rw [seqIndex_of h0 h5] at h1
      exact Option.some.inj h1
    exact wpAny_getItem_list pl.isList h0 (by omega) (by rw [hj]; simpa using ew) fin
  · have hj : (i + (its.toArray.size : Int)).toNat = j := by
      rw [seqIndex_neg (by omega) h4] at h1
      rw [List.size_toArray, ← hl]
      exact Option.some.inj h1
    exact wpAny_getItem_list_neg pl.isList (by omega) (by rw [List.size_toArray] <;> omega) (by omega) (by rw [hj]; simpa using ew) fin
def oGet : R2D := fun d e S Q => match e with
  | .int i => match S.lsts d with
    | some ds => match atI ds i with
      | some x => Q x S
      | none => False
    | none => False
  | _ => False
theorem p_get : GetD X oGet := fun pins s σ H x y v u Q I rx ry h => get_list pins s σ H x y v u Q I rx ry (by
  obtain ⟨d, e, S, Qd, r1, r2, rs, q, k⟩ := h
  unfold oGet at q
  split at q
  · split at q
    · rename_i ds hs
      split at q
      · rename_i z hz
        rw [RD] at r2
        obtain ⟨a, vs, rfl, t1, s1⟩ := lsts_at hs r1 rs
        obtain ⟨v, e1, e2⟩ := atI_rd s1 hz
        exact ⟨a, vs, _, v, rfl, r2, t1, e1, k.here rs q e2⟩
      · exact q.elim
    · exact q.elim
  · exact q.elim)

/-! ### len -/
theorem one_rd {K : PySem.W.Frag} {S : Sto} {H : Hp} {d : D} {vs : List V} (r : RDs K S H [d] vs) : ∃ v, vs = [v] ∧ RD K S H d v := r.one
def oLen : RLD := fun ds S Q => match ds with
  | [d] => match S.seq d with
    | some es => Q (.int (es.length : Nat)) S
    | none => False
  | _ => False
theorem p_len : CallD X (.builtin "len") oLen := callD_of call_len_seq fun ds vs S H Qd Q r rs q k => by
  unfold oLen at q
  split at q
  · split at q
    · rename_i es hs
      obtain ⟨v, rfl, r1⟩ := r.one
      obtain ⟨a, ws, rfl, t1, s1⟩ := seq_at hs r1 rs
      exact ⟨a, ws, rfl, t1, by rw [s1.len]; exact k.here rs q RD.int⟩
    · exact q.elim
  · exact q.elim

/-! ### sum, min, max of ints -/
theorem rds_ints {K : PySem.W.Frag} {S : Sto} {H : Hp} : ∀ {ns : List Int} {vs : List V}, RDs K S H (ns.map D.int) vs → vs = ns.map V.int
  | [], vs, h => RDs.nil.mp h
  | n :: ns, vs, h => by
    rw [List.map_cons, RDs] at h
    obtain ⟨v, r, rfl, h1, h2⟩ := h
    rw [RD] at h1
    rw [h1, rds_ints h2]; rfl
theorem rds_bls {K : PySem.W.Frag} {S : Sto} {H : Hp} : ∀ {ns : List Bool} {vs : List V}, RDs K S H (ns.map D.bl) vs → vs = ns.map V.bl
  | [], vs, h => RDs.nil.mp h
  | n :: ns, vs, h => by
    rw [List.map_cons, RDs] at h
    obtain ⟨v, r, rfl, h1, h2⟩ := h
    rw [RD] at h1
    rw [h1, rds_bls h2]; rfl
theorem ints_rds {K : PySem.W.Frag} {S : Sto} {H : Hp} : ∀ (ns : List Int), RDs K S H (ns.map D.int) (ns.map V.int)
  | [] => RDs.nil.mpr rfl
  | n :: ns => RDs.cons RD.int (ints_rds ns)
/-- sum of ints in a list; in a tuple -/
def oSum : RLD := fun ds S Q => match ds with
  | [d] => ∃ ns : List Int, S.seq d = some (ns.map D.int) ∧ Q (.int ns.sum) S
  | _ => False
/-- all, any over a list of bools -/
def oAll : RLD := fun ds S Q => match ds with
  | [d] => ∃ bs : List Bool, S.lsts d = some (bs.map D.bl) ∧ Q (.bl (bs.all id)) S
  | _ => False
def oAny : RLD := fun ds S Q => match ds with
  | [d] => ∃ bs : List Bool, S.lsts d = some (bs.map D.bl) ∧ Q (.bl (bs.any id)) S
  | _ => False
theorem p_all (hc : X.calm = true) : CallD X (.builtin "all") oAll := callD_of (cr_all hc) fun ds vs S H Qd Q r rs q k => by
  unfold oAll at q
  split at q
  · obtain ⟨bs, hs, q⟩ := q
    obtain ⟨v, rfl, r1⟩ := r.one
    obtain ⟨a, ws, rfl, t1, s1⟩ := lsts_at hs r1 rs
    rw [rds_bls s1] at t1
    exact ⟨a, bs, rfl, t1, k.here rs q RD.bl⟩
  · exact q.elim
theorem p_any (hc : X.calm = true) : CallD X (.builtin "any") oAny := callD_of (cr_any hc) fun ds vs S H Qd Q r rs q k => by
  unfold oAny at q
  split at q
  · obtain ⟨bs, hs, q⟩ := q
    obtain ⟨v, rfl, r1⟩ := r.one
    obtain ⟨a, ws, rfl, t1, s1⟩ := lsts_at hs r1 rs
    rw [rds_bls s1] at t1
    exact ⟨a, bs, rfl, t1, k.here rs q RD.bl⟩
  · exact q.elim
/-! ### abs, min, max of two, int, bool -/
def o1I (g : Int → Int) : RLD := fun ds S Q => match ds with
  | [.int i] => Q (.int (g i)) S
  | _ => False
def o2I (g : Int → Int → Int) : RLD := fun ds S Q => match ds with
  | [.int i, .int j] => Q (.int (g i j)) S
  | _ => False
abbrev oAbs : RLD := o1I fun i => if i < 0 then -i else i
theorem p_abs : CallD X (.builtin "abs") oAbs := callD_of call_abs fun ds vs S H Qd Q r rs q k => by
  unfold oAbs o1I at q
  split at q
  · obtain ⟨v, rfl, r1⟩ := r.one
    rw [RD] at r1
    exact ⟨_, by rw [r1], k.here rs q RD.int⟩
  · exact q.elim
abbrev oMax2 : RLD := o2I fun i j => if j > i then j else i
abbrev oMin2 : RLD := o2I fun i j => if j < i then j else i
theorem p_max2 (hc : X.calm = true) : CallD X (.builtin "max") oMax2 := callD_of (call_max2 hc) fun ds vs S H Qd Q r rs q k => by
  unfold oMax2 o2I at q
  split at q
  · obtain ⟨v, w, rfl, r1, r2⟩ := r.two
    rw [RD] at r1 r2
    exact ⟨_, _, by rw [r1, r2], k.here rs q RD.int⟩
  · exact q.elim
theorem p_min2 (hc : X.calm = true) : CallD X (.builtin "min") oMin2 := callD_of (call_min2 hc) fun ds vs S H Qd Q r rs q k => by
  unfold oMin2 o2I at q
  split at q
  · obtain ⟨v, w, rfl, r1, r2⟩ := r.two
    rw [RD] at r1 r2
    exact ⟨_, _, by rw [r1, r2], k.here rs q RD.int⟩
  · exact q.elim
def oInt : RLD := fun ds S Q => match ds with
  | [.int i] => Q (.int i) S
  | [.bl b] => Q (.int (if b then 1 else 0)) S
  | _ => False
theorem p_int : CallD X (.type "int") oInt := callD_of call_int1 fun ds vs S H Qd Q r rs q k => by
  unfold oInt at q
  split at q
  · obtain ⟨v, rfl, r1⟩ := r.one
    rw [RD] at r1
    exact .inl ⟨_, by rw [r1], k.here rs q RD.int⟩
  · obtain ⟨v, rfl, r1⟩ := r.one
    rw [RD] at r1
    exact .inr ⟨_, by rw [r1], k.here rs q RD.int⟩
  · exact q.elim
def oBool : RLD := fun ds S Q => match ds with
  | [.int i] => Q (.bl (i != 0)) S
  | [.bl b] => Q (.bl b) S
  | _ => False
theorem p_bool : CallD X (.type "bool") oBool := callD_of call_bool1 fun ds vs S H Qd Q r rs q k => by
  unfold oBool at q
  split at q
  · obtain ⟨v, rfl, r1⟩ := r.one
    rw [RD] at r1
    exact .inl ⟨_, by rw [r1], k.here rs q RD.bl⟩
  · obtain ⟨v, rfl, r1⟩ := r.one
    rw [RD] at r1
    exact .inr ⟨_, by rw [r1], k.here rs q RD.bl⟩
  · exact q.elim
/-! ### list(x), tuple(x) -/
def oList (r : Bool) : RLD := fun ds S Q => match ds with
  | [d] => match S.seq d with
    | some es => newL r es S Q
    | none => False
  | _ => False
theorem p_list {r : Bool} : CallD X (.type "list") (oList r) := callD_of call_list_of fun ds vs S H Qd Q rr rs q k => by
  unfold oList at q
  split at q
  · split at q
    · rename_i es hs
      obtain ⟨v, rfl, r1⟩ := rr.one
      obtain ⟨a, ws, rfl, t1, s1⟩ := seq_at hs r1 rs
      exact ⟨a, ws, rfl, t1, fun p hp => newL_ok rs s1 q k p hp⟩
    · exact q.elim
  · exact q.elim
def oTuple : RLD := fun ds S Q => match ds with
  | [d] => match S.seq d with
    | some es => Q (.tup es) S
    | none => False
  | _ => False
theorem p_tuple : CallD X (.type "tuple") oTuple := callD_of call_tuple_of fun ds vs S H Qd Q rr rs q k => by
  unfold oTuple at q
  split at q
  · split at q
    · rename_i es hs
      obtain ⟨v, rfl, r1⟩ := rr.one
      obtain ⟨a, ws, rfl, t1, s1⟩ := seq_at hs r1 rs
      refine ⟨a, ws, rfl, ?_⟩
      rcases t1 with t1 | t1
      · exact .inl ⟨t1, fun p hp => newT_ok rs s1 q k p hp⟩
      · exact .inr ⟨t1, k.here rs q (by rw [RD]; exact ⟨a, ws, rfl, t1, s1⟩)⟩
    · exact q.elim
  · exact q.elim
end

/-! ### range(..) as an argument of list, tuple -/
section
variable {X : Cx} {a b e : Expr} {δa δb : TED} {p pos : Pos}
abbrev TRD := DEnv → Sto → (Int → Int → Sto → Prop) → Prop
def LR (K : PySem.W.Frag) (δ : TRD) : L2.St → Hp → (Int → Int → Hp → Prop) → Prop := fun σ H Q => ∃ ρ S Qd, RE K S H ρ σ ∧ RS K S H ∧ δ ρ S Qd ∧ ∀ i j S' H', Qd i j S' → Go K S H S' H' → Q i j H'
abbrev DRg (X : Cx) (e : Expr) (δ : TRD) : Prop := PRg X e (LR X.K δ)
theorem prgW {t t' : L2.St → Hp → (Int → Int → Hp → Prop) → Prop} (h : PRg X e t) (w : ∀ σ H Q, t' σ H Q → t σ H Q) : PRg X e t' := fun pins s σ H Q I q => h pins s σ H Q I (w σ H Q q)
def dRg1 (δ : TED) : TRD := fun ρ S Q => δ ρ S fun x S1 => match x with
  | .int n => Q 0 n S1
  | _ => False
def dRg2 (δa δb : TED) : TRD := fun ρ S Q => δa ρ S fun x S1 => δb ρ S1 fun y S2 => match x, y with
  | .int i, .int j => Q i j S2
  | _, _ => False
theorem drg_1 (hm : X.mg "range" = none) (ha : DE X a δa) (hg : Gl X "range" := by rfl) (na : starEach [a] X.env = (false, eval a X.env) :: starEach [] X.env := by rfl) : DRg X (.Call (.Name "range" p) [a] [] pos) (dRg1 δa) :=
  prgW (prg_1 hg hm ha na) fun σ H Q ⟨ρ, S, Qd, re, rs, q, k⟩ => by
    refine ⟨ρ, S, _, re, rs, q, fun x S1 v H1 q1 g1 r1 => ?_⟩
    try dsimp only at q1
    split at q1
    · rw [RD] at r1
      exact ⟨_, r1, k _ _ _ _ q1 g1⟩
    · exact q1.elim
theorem drg_2 (hm : X.mg "range" = none) (ha : DE X a δa) (hb : DE X b δb) (hg : Gl X "range" := by rfl) (na : starEach [a, b] X.env = (false, eval a X.env) :: starEach [b] X.env := by rfl)
    (nb : starEach [b] X.env = (false, eval b X.env) :: starEach [] X.env := by rfl) (hp : (backTo pos (starEach [b] X.env)).any (·.1) = false := by rfl) : DRg X (.Call (.Name "range" p) [a, b] [] pos) (dRg2 δa δb) :=
  prgW (prg_2 hg hm ha hb na nb hp) fun σ H Q ⟨ρ, S, Qd, re, rs, q, k⟩ => by
    refine ⟨ρ, S, _, re, rs, q, fun x S1 v H1 q1 g1 r1 => ?_⟩
    refine ⟨ρ, S1, _, re.tp g1.tp, g1.rs, q1, fun y S2 w H2 q2 g2 r2 => ?_⟩
    try dsimp only at q2
    split at q2
    · rw [RD] at r1 r2
      exact ⟨_, _, r1, r2, k _ _ _ _ q2 (g1.trans g2)⟩
    · exact q2.elim
def rgD (a b : Int) : List D := (List.range (b - a).toNat).map fun i => .int (a + (i : Nat))
theorem rgD_rd {K : PySem.W.Frag} {S : Sto} {H : Hp} (a b : Int) : RDs K S H (rgD a b) (rgV a b) := by
  have h := ints_rds (K := K) (S := S) (H := H) ((List.range (b - a).toNat).map fun i => a + (i : Nat))
  rw [List.map_map, List.map_map] at h
  exact h
def dListRg (r : Bool) (δ : TRD) : TED := fun ρ S Q => δ ρ S fun i j S1 => RgOk i j ∧ newL r (rgD i j) S1 Q
def dTupRg (δ : TRD) : TED := fun ρ S Q => δ ρ S fun i j S1 => RgOk i j ∧ Q (.tup (rgD i j)) S1
theorem de_listRg {r : Bool} {δ : TRD} (hc : X.calm = true) (hm : X.mg "list" = none) (he : DRg X e δ) (hg : Gl X "list" := by rfl) (na : starEach [e] X.env = (false, eval e X.env) :: starEach [] X.env := by rfl) : DE X (.Call (.Name "list" p) [e] [] pos) (dListRg r δ) :=
  peW (pe_listRg hc hg hm he na) fun σ H Q ⟨ρ, S, Qd, re, rs, q, k⟩ =>
    ⟨ρ, S, _, re, rs, q, fun i j S1 H1 ⟨q1, q2⟩ g1 => ⟨q1, fun p hp => newL_ok g1.rs (rgD_rd i j) q2 (k.go g1) p hp⟩⟩
theorem de_tupRg {δ : TRD} (hc : X.calm = true) (hm : X.mg "tuple" = none) (he : DRg X e δ) (hg : Gl X "tuple" := by rfl) (na : starEach [e] X.env = (false, eval e X.env) :: starEach [] X.env := by rfl) : DE X (.Call (.Name "tuple" p) [e] [] pos) (dTupRg δ) :=
  peW (pe_tupRg hc hg hm he na) fun σ H Q ⟨ρ, S, Qd, re, rs, q, k⟩ =>
    ⟨ρ, S, _, re, rs, q, fun i j S1 H1 ⟨q1, q2⟩ g1 => ⟨q1, fun p hp => newT_ok g1.rs (rgD_rd i j) q2 (k.go g1) p hp⟩⟩
end
end PL
/-! least, greatest, sorted; isinstance; list methods; membership -/
namespace PL
open PySem PySem.Spec PySem.W PyProof.Rows L2

/-! ### the order -/
def ltD (d e : D) : Bool := dataLt (D.py d) (D.py e)
theorem minD_least : ∀ (xs : List PyData) (x : PyData), minD x xs ∈ x :: xs ∧ ∀ y ∈ x :: xs, dataLt y (minD x xs) = false
  | [], x => ⟨List.mem_cons_self, fun y hy => by
    rw [List.mem_singleton.mp hy]
    exact lex_irrefl _⟩
  | z :: zs, x => by
    unfold minD
    rw [List.foldl_cons]
    by_cases h : dataLt z x = true
    · rw [if_pos h]
      obtain ⟨m1, m2⟩ := minD_least zs z
      unfold minD at m1 m2
      refine ⟨List.mem_cons_of_mem _ m1, fun y hy => ?_⟩
      rcases List.mem_cons.mp hy with rfl | hy
      · cases c : dataLt y (List.foldl (fun a y => if dataLt y a = true then y else a) z zs) with
        | false => rfl
        | true =>
          have := lex_trans _ _ _ h c
          have q : dataLt z (List.foldl (fun a y => if dataLt y a = true then y else a) z zs) = true := this
          rw [m2 z List.mem_cons_self] at q
          cases q
      · exact m2 y hy
    · rw [if_neg h]
      obtain ⟨m1, m2⟩ := minD_least zs x
      unfold minD at m1 m2
      refine ⟨?_, fun y hy => ?_⟩
      · rcases List.mem_cons.mp m1 with e | e
        · rw [e]; exact List.mem_cons_self
        · exact List.mem_cons_of_mem _ (List.mem_cons_of_mem _ e)
      · rcases List.mem_cons.mp hy with rfl | hy
        · exact m2 y List.mem_cons_self
        · rcases List.mem_cons.mp hy with rfl | hy
          · cases c : dataLt y (List.foldl (fun a y => if dataLt y a = true then y else a) x zs) with
            | false => rfl
            | true =>
              rcases lex_negTrans _ (keyToks x) _ c with q | q
              · exact absurd q h
              · have q' : dataLt x (List.foldl (fun a y => if dataLt y a = true then y else a) x zs) = true := q
                rw [m2 x List.mem_cons_self] at q'
                cases q'
          · exact m2 y (List.mem_cons_of_mem _ hy)
theorem maxD_most : ∀ (xs : List PyData) (x : PyData), maxD x xs ∈ x :: xs ∧ ∀ y ∈ x :: xs, dataLt (maxD x xs) y = false
  | [], x => ⟨List.mem_cons_self, fun y hy => by
    rw [List.mem_singleton.mp hy]
    exact lex_irrefl _⟩
  | z :: zs, x => by
    unfold maxD
    rw [List.foldl_cons]
    by_cases h : dataLt x z = true
    · rw [if_pos h]
      obtain ⟨m1, m2⟩ := maxD_most zs z
      unfold maxD at m1 m2
      refine ⟨List.mem_cons_of_mem _ m1, fun y hy => ?_⟩
      rcases List.mem_cons.mp hy with rfl | hy
      · cases c : dataLt (List.foldl (fun a y => if dataLt a y = true then y else a) z zs) y with
        | false => rfl
        | true =>
          have q : dataLt (List.foldl (fun a y => if dataLt a y = true then y else a) z zs) z = true := lex_trans _ _ _ c h
          rw [m2 z List.mem_cons_self] at q
          cases q
      · exact m2 y hy
    · rw [if_neg h]
      obtain ⟨m1, m2⟩ := maxD_most zs x
      unfold maxD at m1 m2
      refine ⟨?_, fun y hy => ?_⟩
      · rcases List.mem_cons.mp m1 with e | e
        · rw [e]; exact List.mem_cons_self
        · exact List.mem_cons_of_mem _ (List.mem_cons_of_mem _ e)
      · rcases List.mem_cons.mp hy with rfl | hy
        · exact m2 y List.mem_cons_self
        · rcases List.mem_cons.mp hy with rfl | hy
          · cases c : dataLt (List.foldl (fun a y => if dataLt a y = true then y else a) x zs) y with
            | false => rfl
            | true =>
              rcases lex_negTrans _ (keyToks x) _ c with q | q
              · have q' : dataLt (List.foldl (fun a y => if dataLt a y = true then y else a) x zs) x = true := q
                rw [m2 x List.mem_cons_self] at q'
                cases q'
              · exact absurd q h
          · exact m2 y (List.mem_cons_of_mem _ hy)
section
variable {X : Cx}
/-- what data items of a list are read from -/
theorem reads_of {K : PySem.W.Frag} {P : Program} {w : World} {H : Hp} {s : Shared} {pins : List (Addr × Obj)} {σ : L2.St} {X : Cx} {S : Sto} {n : Nat} {ds : List D} {vs : List V} {us : List Value} (I : Inv X pins σ H s) (h : ds.all (D.okn n) = true) (r : RDs X.K S H ds vs) (rv : Vals vs us) :
    ∃ as, ReadsAll s.heap us (D.pys ds) as := Dp.readsAll I _ _ _ (okn_all_dp h r) rv
theorem depth_all {n : Nat} : ∀ {ds : List D}, ds.all (D.okn n) = true → PyData.depthAll (D.pys ds) ≤ n ∧ PyData.canLayAll0 (D.pys ds) = true
  | [], _ => by simp [D.pys, PyData.depthAll, PyData.canLayAll0]
  | d :: ds, h => by
    rw [List.all_cons, Bool.and_eq_true] at h
    obtain ⟨a1, a2⟩ := D.okn_lay n d h.1
    obtain ⟨b1, b2⟩ := depth_all h.2
    rw [D.pys, PyData.depthAll, PyData.canLayAll0, a1, b2]
    exact ⟨Nat.max_le.mpr ⟨a2, b1⟩, rfl⟩
/-- the items are of one kind -/
def akin (ds : List D) : Prop := ∀ d ∈ ds, ∀ e ∈ ds, alike (D.py d) (D.py e) = true ∧ D.py d ≠ .none
theorem akin_all {ds : List D} (h : akin ds) : AlikeAll (D.pys ds) := by
  rw [D.pys_eq]
  refine ⟨fun x hx y hy => ?_, fun x hx => ?_⟩
  · obtain ⟨d, hd, rfl⟩ := List.mem_map.mp hx
    obtain ⟨e, he, rfl⟩ := List.mem_map.mp hy
    exact (h d hd e he).1
  · obtain ⟨d, hd, rfl⟩ := List.mem_map.mp hx
    exact (h d hd d hd).2
def oMinL : RLD := fun ds S Q => match ds with
  | [d] => match S.seq d with
    | some es => (es ≠ [] ∧ es.all (D.okn 8) = true ∧ akin es) ∧ ∀ m ∈ es, (∀ y ∈ es, ltD y m = false) → Q m S
    | none => False
  | _ => False
def oMaxL : RLD := fun ds S Q => match ds with
  | [d] => match S.seq d with
    | some es => (es ≠ [] ∧ es.all (D.okn 8) = true ∧ akin es) ∧ ∀ m ∈ es, (∀ y ∈ es, ltD m y = false) → Q m S
    | none => False
  | _ => False
theorem pick_of {K : PySem.W.Frag} {S : Sto} {H : Hp} {s' : Shared} {pins : List (Addr × Obj)} {σ : L2.St} {X : Cx} {es : List D} {ws : List V} {its : List Value} {m : PyData} {i : Nat} {v : Value} {h' : Heap} {bs : List Addr} (I' : Inv X pins σ H s') (eh : s'.heap = h')
    (he : es.all (D.okn 8) = true) (s1 : RDs X.K S H es ws) (rv : Vals ws its) (hv : its.toArray[i]? = some v) (hr : Reads h' v m bs) : ∃ d ∈ es, ∃ x, RelV x v ∧ RD X.K S H d x ∧ D.py d = m := by
  have hv' : its[i]? = some v := by simpa using hv
  have hl := rv.length
  have hl2 := s1.len
  have hlt : i < its.length := by
    obtain ⟨h1, _⟩ := List.getElem?_eq_some_iff.mp hv'
    exact h1
  have hx : ws[i]? = some ws[i] := List.getElem?_eq_getElem (by omega)
  obtain ⟨d, hd, rd⟩ := s1.getV hx
  obtain ⟨u, hu, ru⟩ := rv.get hx
  rw [hv'] at hu
  cases hu
  have hm : d ∈ es := List.mem_of_getElem? hd
  have ok : D.okn 8 d = true := List.all_eq_true.mp he d hm
  obtain ⟨as, r⟩ := Dp.reads I' _ _ _ (D.okn_dp 8 d _ ok rd) ru
  rw [eh] at r
  exact ⟨d, hm, _, ru, rd, PySem.SeqAt.Reads.unique _ _ _ _ _ (D.okn_lay 8 d ok).1 r hr⟩
theorem p_minL (hu : X.A.units + 64 < cLine) (hc : X.calm = true) : CallD X (.builtin "min") oMinL := by
  intro pins s σ H vs us Q I r ⟨ds, S, Qd, rr, rs, q, k⟩
  unfold oMinL at q
  split at q
  · split at q
    · rename_i es hs
      obtain ⟨⟨ne, ok, ak⟩, q⟩ := q
      obtain ⟨v, rfl, r1⟩ := rr.one
      obtain ⟨a, ws, rfl, t1, s1⟩ := seq_at hs r1 rs
      rw [Vals.ref1 r]
      obtain ⟨e0, er, rfl⟩ := List.exists_cons_of_ne_nil ne
      have hd := (depth_all ok).1
      have fin : ∀ (its : List Value) (rv : Vals ws its) (i : Nat) v h' tk bs, its.toArray[i]? = some v → Reads h' v (minD (D.py e0) (D.pys er)) bs → (∀ b o, s.heap.get? b = some o → h'.get? b = some o) → EP X pins σ Q v { s with heap := h', toks := tk } := by
        intro its rv i v h' tk bs hv hr hk
        have I' : Inv X pins σ H { s with heap := h', toks := tk } := I.kept hk
        obtain ⟨d, hm, x, rx, rd, e⟩ := pick_of (K := X.K) I' rfl ok s1 rv hv hr
        refine ⟨x, H, I', rx, k.here rs (q d hm fun y hy => ?_) rd⟩
        unfold ltD
        rw [e]
        refine (minD_least _ _).2 _ ?_
        have : D.py y ∈ D.pys (e0 :: er) := by rw [D.pys_eq]; exact List.mem_map.mpr ⟨y, hy, rfl⟩
        rw [D.pys] at this
        exact this
      rcases t1 with t1 | t1
      · obtain ⟨its, rv, pl, hz⟩ := I.list t1
        obtain ⟨as, ra⟩ := reads_of (K := X.K) (P := X.prog) (w := X.w) I ok s1 rv
        rw [D.pys] at ra
        exact min_list_data (I.ok.hd hc) pl.isList (by simpa using ra) (by have := akin_all ak; rw [D.pys] at this; exact this) (by rw [D.pys] at hd; omega) fun i v h' tk bs hv hr hk => fin its rv i v h' tk bs hv hr hk
      · obtain ⟨its, rv, pl, hz⟩ := I.tuple t1
        obtain ⟨as, ra⟩ := reads_of (K := X.K) (P := X.prog) (w := X.w) I ok s1 rv
        rw [D.pys] at ra
        exact min_tuple_data (I.ok.hd hc) (show s.heap.IsTuple a its.toArray from pl) (by simpa using ra) (by have := akin_all ak; rw [D.pys] at this; exact this) (by rw [D.pys] at hd; omega) fun i v h' tk bs hv hr hk => fin its rv i v h' tk bs hv hr hk
    · exact q.elim
  · exact q.elim
theorem p_maxL (hu : X.A.units + 64 < cLine) (hc : X.calm = true) : CallD X (.builtin "max") oMaxL := by
  intro pins s σ H vs us Q I r ⟨ds, S, Qd, rr, rs, q, k⟩
  unfold oMaxL at q
  split at q
  · split at q
    · rename_i es hs
      obtain ⟨⟨ne, ok, ak⟩, q⟩ := q
      obtain ⟨v, rfl, r1⟩ := rr.one
      obtain ⟨a, ws, rfl, t1, s1⟩ := seq_at hs r1 rs
      rw [Vals.ref1 r]
      obtain ⟨e0, er, rfl⟩ := List.exists_cons_of_ne_nil ne
      have hd := (depth_all ok).1
      have fin : ∀ (its : List Value) (rv : Vals ws its) (i : Nat) v h' tk bs, its.toArray[i]? = some v → Reads h' v (maxD (D.py e0) (D.pys er)) bs → (∀ b o, s.heap.get? b = some o → h'.get? b = some o) → EP X pins σ Q v { s with heap := h', toks := tk } := by
        intro its rv i v h' tk bs hv hr hk
        have I' : Inv X pins σ H { s with heap := h', toks := tk } := I.kept hk
        obtain ⟨d, hm, x, rx, rd, e⟩ := pick_of (K := X.K) I' rfl ok s1 rv hv hr
        refine ⟨x, H, I', rx, k.here rs (q d hm fun y hy => ?_) rd⟩
        unfold ltD
        rw [e]
        refine (maxD_most _ _).2 _ ?_
        have : D.py y ∈ D.pys (e0 :: er) := by rw [D.pys_eq]; exact List.mem_map.mpr ⟨y, hy, rfl⟩
        rw [D.pys] at this
        exact this
      rcases t1 with t1 | t1
      · obtain ⟨its, rv, pl, hz⟩ := I.list t1
        obtain ⟨as, ra⟩ := reads_of (K := X.K) (P := X.prog) (w := X.w) I ok s1 rv
        rw [D.pys] at ra
        exact max_list_data (I.ok.hd hc) pl.isList (by simpa using ra) (by have := akin_all ak; rw [D.pys] at this; exact this) (by rw [D.pys] at hd; omega) fun i v h' tk bs hv hr hk => fin its rv i v h' tk bs hv hr hk
      · obtain ⟨its, rv, pl, hz⟩ := I.tuple t1
        obtain ⟨as, ra⟩ := reads_of (K := X.K) (P := X.prog) (w := X.w) I ok s1 rv
        rw [D.pys] at ra
        exact max_tuple_data (I.ok.hd hc) (show s.heap.IsTuple a its.toArray from pl) (by simpa using ra) (by have := akin_all ak; rw [D.pys] at this; exact this) (by rw [D.pys] at hd; omega) fun i v h' tk bs hv hr hk => fin its rv i v h' tk bs hv hr hk
    · exact q.elim
  · exact q.elim
/-- min, max: of two ints, or of the items -/
def oMin : RLD := fun ds S Q => match ds with
  | [_] => oMinL ds S Q
  | _ => oMin2 ds S Q
def oMax : RLD := fun ds S Q => match ds with
  | [_] => oMaxL ds S Q
  | _ => oMax2 ds S Q
theorem p_min (hu : X.A.units + 64 < cLine) (hc : X.calm = true) : CallD X (.builtin "min") oMin := callD_W (callD_or (p_minL hu hc) (p_min2 hc)) fun ds S Q q => by
  unfold oMin at q
  split at q
  · exact .inl q
  · exact .inr q
theorem p_max (hu : X.A.units + 64 < cLine) (hc : X.calm = true) : CallD X (.builtin "max") oMax := callD_W (callD_or (p_maxL hu hc) (p_max2 hc)) fun ds S Q q => by
  unfold oMax at q
  split at q
  · exact .inl q
  · exact .inr q

/-! ### sorted -/
def leD (d e : D) : Bool := dataLe false D.py d e
def oSorted (r : Bool) : RLD := fun ds S Q => match ds with
  | [d] => match S.lsts d with
    | some es => (es.all (D.okn 8) = true ∧ akin es ∧ Sortable (es.map D.py) ∧ es.length ≤ sizeLine) ∧ newL r (es.mergeSort leD) S Q
    | none => False
  | _ => False

theorem each_rd {K : PySem.W.Frag} {S : Sto} {H : Hp} {s : Shared} {pins : List (Addr × Obj)} {σ : L2.St} {X : Cx} (I : Inv X pins σ H s) : ∀ {es : List D} {ws : List V} {us : List Value}, es.all (D.okn 8) = true → RDs X.K S H es ws → Vals ws us →
    EachIs (fun v d => ∃ x, RelV x v ∧ RD X.K S H d x) us es ∧ EachIs (fun v d => ∃ as, Reads s.heap v (D.py d) as) us es
  | [], ws, us, _, r, rv => by
    rw [RDs.nil.mp r] at rv
    cases rv
    exact ⟨.nil, .nil⟩
  | e :: es, ws, us, h, r, rv => by
    rw [List.all_cons, Bool.and_eq_true] at h
    rw [RDs] at r
    obtain ⟨w, wr, rfl, r1, r2⟩ := r
    cases rv with
    | cons a b =>
      obtain ⟨i1, i2⟩ := each_rd (K := K) I h.2 r2 b
      exact ⟨.cons ⟨_, a, r1⟩ i1, .cons (Dp.reads I _ _ _ (D.okn_dp 8 e _ h.1 r1) a) i2⟩
theorem rd_each {K : PySem.W.Frag} {S : Sto} {H : Hp} : ∀ {es : List D} {us : List Value}, EachIs (fun v d => ∃ x, RelV x v ∧ RD K S H d x) us es → ∃ ws, Vals ws us ∧ RDs K S H es ws
  | _, _, .nil => ⟨[], .nil, RDs.nil.mpr rfl⟩
  | _, _, .cons ⟨x, a, b⟩ t => by
    obtain ⟨ws, h1, h2⟩ := rd_each t
    exact ⟨x :: ws, .cons a h1, RDs.cons b h2⟩
theorem p_sorted (hu : X.A.units + 64 < cLine) {r : Bool} : CallD X (.builtin "sorted") (oSorted r) := by
  intro pins s σ H vs us Q I rr0 ⟨ds, S, Qd, rr, rs, q, k⟩
  unfold oSorted at q
  split at q
  · split at q
    · rename_i es hs
      obtain ⟨⟨ok, ak, so, hz⟩, q⟩ := q
      obtain ⟨v, rfl, r1⟩ := rr.one
      obtain ⟨a, ws, rfl, t1, s1⟩ := lsts_at hs r1 rs
      rw [Vals.ref1 rr0]
      obtain ⟨its, rv, pl, hz2⟩ := I.list t1
      obtain ⟨e1, e2⟩ := each_rd (K := X.K) I ok s1 rv
      have ak' : AllAlike (es.map D.py) := by have := (akin_all ak).1; rw [D.pys_eq] at this; exact this
      refine sorted_data (vs := its) (bs := es) (enc := D.py) (by exact pl.isList) e1 e2 ak' so hz (fun b hb => ?_) fun out hlen eo => ?_
      · have := (D.okn_lay 8 b (List.all_eq_true.mp ok b hb)).2
        omega
      · obtain ⟨ys, v1, v2⟩ := rd_each eo
        obtain ⟨ep, he'⟩ := PyProof.Rows.sortedAll_at s.heap its out.toArray
        have hl : ys.length ≤ sizeLine := by rw [v2.len, List.length_mergeSort]; exact hz
        exact ⟨.ref _, upd H (s.heap.objs.size + 1) (.lst ys), I.laid (t' := s.toks) (fun _ _ => PyProof.Rows.sortedAll_old) (Nat.le_succ _) ⟨hl, out, ep, v1, he'⟩, rfl, newL_ok rs v2 q k _ (I.hok.fresh (Nat.le_succ _))⟩
    · exact q.elim
  · exact q.elim
end
end PL
/-! isinstance, methods, membership, tuple * int, * in displays, [::-1], sum -/
namespace PL
open PySem PySem.Spec PySem.W PyProof.Rows L2

/-! ### isinstance -/
def D.tyN (S : Sto) : D → Option String
  | .non => some "NoneType"
  | .bl _ => some "bool"
  | .int _ => some "int"
  | .str _ => some "str"
  | .tup _ => some "tuple"
  | .tpx _ => some "tuple"
  | .lst _ => some "list"
  | .fz _ => some "list"
  | .ref p => match S p with
    | some (.lst _) => some "list"
    | some _ => some "dict"
    | none => none
theorem tyX_of {K : PySem.W.Frag} {S : Sto} {H : Hp} {d : D} {v : V} {n : String} (r : RD K S H d v) (rs : RS K S H) (h : d.tyN S = some n) : TyX K H v (.type n) := by
  cases d with
  | non => rw [RD] at r; subst r; cases h; exact .base .non
  | bl b => rw [RD] at r; subst r; cases h; exact .base (.bl b)
  | int b => rw [RD] at r; subst r; cases h; exact .base (.int b)
  | str b => rw [RD] at r; subst r; cases h; exact .base (.str b)
  | tup ds =>
    rw [RD] at r
    obtain ⟨a, vs, rfl, t, _⟩ := r
    cases h
    rcases t with (t | ⟨o, t⟩) | ⟨o, its, n, h1, h2, _⟩
    · exact .base (.tup t)
    · exact .fTuple t
    · exact .kTuple h1 h2
  | tpx ds =>
    rw [RD] at r
    obtain ⟨a, o, vs, rfl, t, _⟩ := r
    cases h
    exact .fTuple t
  | lst ds =>
    rw [RD] at r
    obtain ⟨a, vs, rfl, _, t, _⟩ := r
    cases h
    exact .base (.lst t)
  | fz ds =>
    rw [RD] at r
    obtain ⟨a, vs, rfl, t, _⟩ := r
    cases h
    rcases t with ⟨o, t⟩ | ⟨o, its, n, t1, t2, _⟩
    · exact .base (.frz t)
    · exact .kList t1 t2
  | ref p =>
    rw [RD] at r
    subst r
    have h' : (match S p with
      | some (.lst _) => some "list"
      | some _ => some "dict"
      | none => none) = some n := h
    split at h'
    · rename_i ds e
      cases h'
      obtain ⟨vs, h1, _⟩ := rs p _ e
      exact .base (.lst h1)
    · rename_i mo e2 e
      cases h'
      cases mo with
      | lst ds => exact absurd rfl (e2 ds)
      | dK kvs => obtain ⟨ws, h1, _⟩ := rs p _ e; exact .base (.dK h1)
      | dT kvs => obtain ⟨ws, h1, _⟩ := rs p _ e; exact .base (.dT h1)
    · cases h'
section
variable {X : Cx} {e : Expr} {δ : TED} {p p2 pos : Pos} {es : List Expr} {α : TAD}
/-- isinstance(e, T), T a built-in type's name -/
def dIsi (T : String) (δ : TED) : TED := fun ρ S Q => δ ρ S fun x S1 => match x.tyN S1 with
  | some n => ∃ b, kitB n T = some b ∧ Q (.bl b) S1
  | none => False
theorem de_isi {x : Str} (T : String) (hm : X.mg "isinstance" = none) (hm2 : X.mg x = none) (hv : bootBuiltins x = some (.type T)) (ha : DE X e δ) (hg : Gl X "isinstance" := by rfl) (hg2 : Gl X x := by rfl) (hn : x ≠ "__name__" := by decide) (hd : (x == ("__debug__" : Str)) = false := by decide)
    (hs : starEach [e, .Name x p2] X.env = (false, eval e X.env) :: starEach [.Name x p2] X.env := by rfl) (hs2 : starEach [.Name x p2] X.env = (false, eval (.Name x p2) X.env) :: starEach [] X.env := by rfl) (hpl : (backTo pos (starEach [.Name x p2] X.env)).any (·.1) = false := by rfl) :
    DE X (.Call (.Name "isinstance" p) [e, .Name x p2] [] pos) (dIsi T δ) := by
  have hb : bootBuiltins "isinstance" = some (.builtin "isinstance") := by decide +kernel
  refine peW (pe_callB call_isi hg hm hb (pa_cons ha (pa_cons (pe_bltn (v := .ty T) hg2 hm2 hv rfl hn hd) pa_nil hs2) hs) (by decide) (by decide) hs hpl) fun σ H Q ⟨ρ, S, Qd, re, rs, q, k⟩ => ?_
  refine ⟨ρ, S, _, re, rs, q, fun d S1 v H1 q1 g1 r1 => ?_⟩
  try dsimp only at q1
  split at q1
  · rename_i n hn
    obtain ⟨b, hb, q1⟩ := q1
    exact ⟨v, .ty T, _, _, b, rfl, .ty T, tyX_of r1 g1.rs hn, kit_ty hb, (k.go g1).here g1.rs q1 RD.bl⟩
  · exact q1.elim

/-! ### methods of lists -/
theorem mtM_of {id : String} {r : V → List V → Hp → VK → Prop} {o : RMD} (h : MtM X id r) (w : ∀ d ds x xs S H Qd Q, RD X.K S H d x → RDs X.K S H ds xs → RS X.K S H → o d ds S Qd → Aft X.K S H Qd Q → r x xs H Q) : MtD X id o :=
  fun pins s σ H x xs v us Q I rx rxs ⟨d, ds, S, Qd, r1, r2, rs, q, k⟩ => h pins s σ H x xs v us Q I rx rxs (w d ds x xs S H Qd Q r1 r2 rs q k)
def Sto.trk (S : Sto) : D → Option (Addr × List D)
  | .ref p => match S p with
    | some (.lst ds) => some (p, ds)
    | _ => none
  | _ => none
theorem trk_is {S : Sto} {d : D} {p : Addr} {ds : List D} (h : S.trk d = some (p, ds)) : d = .ref p ∧ S p = some (.lst ds) := by
  cases d with
  | ref q =>
    have h' : (match S q with
      | some (.lst ds) => some (q, ds)
      | _ => none) = some (p, ds) := h
    split at h'
    · rename_i es e
      cases h'
      exact ⟨rfl, e⟩
    · cases h'
  | _ => cases h
def oAppend : RMD := fun d ds S Q => match S.trk d, ds with
  | some (p, es), [x] => es.length < sizeLine ∧ Q .non (S.up p (.lst (es ++ [x])))
  | _, _ => False
theorem m_append : MtD X "list.append" oAppend := mtM_of mt_append fun d ds x xs S H Qd Q r1 r2 rs q k => by
  unfold oAppend at q
  split at q
  · rename_i y p es z ht
    obtain ⟨rfl, hs⟩ := trk_is ht
    obtain ⟨v, rfl, r3⟩ := r2.one
    obtain ⟨vs, h1, h2⟩ := rs p _ hs
    rw [RD] at r1
    have g := Go.wrote (mo' := .lst (es ++ [z])) rs hs fun S' H' tp e => ⟨_, e, (h2.tp tp).snoc (r3.tp tp)⟩
    exact ⟨p, vs, v, r1, rfl, h1, by rw [h2.len]; exact q.1, k _ _ _ _ q.2 g RD.non⟩
  · exact q.elim
def oExtend : RMD := fun d ds S Q => match S.trk d, ds with
  | some (p, es), [x] => match S.list x with
    | some zs => es.length + zs.length ≤ sizeLine ∧ Q .non (S.up p (.lst (es ++ zs)))
    | none => False
  | _, _ => False
theorem m_extend : MtD X "list.extend" oExtend := mtM_of mt_extend fun d ds x xs S H Qd Q r1 r2 rs q k => by
  unfold oExtend at q
  split at q
  · rename_i y p es z ht
    split at q
    · rename_i zs hz
      obtain ⟨rfl, hs⟩ := trk_is ht
      obtain ⟨v, rfl, r3⟩ := r2.one
      obtain ⟨vs, h1, h2⟩ := rs p _ hs
      obtain ⟨b, ws, rfl, h3, h4⟩ := list_at hz r3 rs
      rw [RD] at r1
      have g := Go.wrote (mo' := .lst (es ++ zs)) rs hs fun S' H' tp e => ⟨_, e, (h2.tp tp).append (h4.tp tp)⟩
      exact ⟨p, b, vs, ws, r1, rfl, h1, h3, by rw [h2.len, h4.len]; exact q.1, k _ _ _ _ q.2 g RD.non⟩
    · exact q.elim
  · exact q.elim
theorem RDs.dropLast {K : PySem.W.Frag} {S : Sto} {H : Hp} {ds : List D} {vs : List V} (h : RDs K S H ds vs) : RDs K S H ds.dropLast vs.dropLast := by
  rw [List.dropLast_eq_take, List.dropLast_eq_take, h.len]
  exact h.take _
def oPop : RMD := fun d ds S Q => match S.trk d, ds with
  | some (p, es), [] => ∃ y, es[es.length - 1]? = some y ∧ Q y (S.up p (.lst es.dropLast))
  | _, _ => False
theorem m_pop : MtD X "list.pop" oPop := mtM_of mt_pop fun d ds x xs S H Qd Q r1 r2 rs q k => by
  unfold oPop at q
  split at q
  · rename_i y p es ht
    obtain ⟨y, hy, q⟩ := q
    obtain ⟨rfl, hs⟩ := trk_is ht
    obtain ⟨vs, h1, h2⟩ := rs p _ hs
    obtain ⟨v, e1, e2⟩ := h2.get hy
    rw [RD] at r1
    have g := Go.wrote (mo' := .lst es.dropLast) rs hs fun S' H' tp e => ⟨_, e, (h2.tp tp).dropLast⟩
    exact ⟨p, vs, v, r1, RDs.nil.mp r2, h1, by rw [h2.len]; exact e1, k _ _ _ _ q g (e2.tp g.tp)⟩
  · exact q.elim
def oPopAt : RMD := fun d ds S Q => match S.trk d, ds with
  | some (p, es), [.int i] => es.length ≤ sizeLine ∧ ∃ j y, ixN es.length i = some j ∧ es[j]? = some y ∧ Q y (S.up p (.lst (es.eraseIdx j)))
  | _, _ => False
theorem m_popAt : MtD X "list.pop" oPopAt := mtM_of mt_popAt fun d ds x xs S H Qd Q r1 r2 rs q k => by
  unfold oPopAt at q
  split at q
  · rename_i y p es i ht
    obtain ⟨hz, j, y, hj, hy, q⟩ := q
    have hsl := sizeLine_eq
    obtain ⟨rfl, hs⟩ := trk_is ht
    obtain ⟨vs, h1, h2⟩ := rs p _ hs
    obtain ⟨v, e1, e2⟩ := h2.get hy
    obtain ⟨w, rfl, r3⟩ := r2.one
    rw [RD] at r1 
    rw [RD] at r3
    subst r3
    have g := Go.wrote (mo' := .lst (es.eraseIdx j)) rs hs fun S' H' tp e => ⟨_, e, (h2.tp tp).erase j⟩
    obtain ⟨a1, a2, a3, a4⟩ := ixN_seq hj
    obtain ⟨b1, _⟩ := List.getElem?_eq_some_iff.mp e1
    refine ⟨p, vs, i, j, v, r1, rfl, h1, ?_, ?_, by rw [h2.len]; exact a1, e1, k _ _ _ _ q g (e2.tp g.tp)⟩
    · omega
    · omega
  · exact q.elim

/-! ### x in t, x not in t: data -/
def oIn (neg : Bool) : R2D := fun d e S Q => match S.seq e with
  | some es => (D.okn 8 d = true ∧ es.all (D.okn 8) = true) ∧ Q (.bl (if neg then !(es.any fun z => eqD z d) else es.any fun z => eqD z d)) S
  | none => False
theorem any_pys (d : D) : ∀ es : List D, (D.pys es).any (fun y => PyData.eqv y (D.py d)) = es.any fun z => eqD z d
  | [] => by rw [D.pys]; rfl
  | e :: es => by rw [D.pys, List.any_cons, List.any_cons, any_pys d es]; rfl
theorem in_go {S : Sto} {H : Hp} {s : Shared} {pins : List (Addr × Obj)} {σ : L2.St} {d : D} {es : List D} {a : Addr} {ws : List V} {x : V} {v : Value} {Q : Value → Shared → Prop} (neg : Bool) (hu : X.A.units + 64 < cLine) (I : Inv X pins σ H s) (h1 : D.okn 8 d = true) (h2 : es.all (D.okn 8) = true)
    (rx : RelV x v) (r1 : RD X.K S H d x) (t : SqL X.K H a ws ∨ SqT X.K H a ws) (s1 : RDs X.K S H es ws) (hq : Q (.bool (if neg then !(es.any fun z => eqD z d) else es.any fun z => eqD z d)) s) :
    wpAny (model X.prog X.w) X.A (compareOp (if neg then .NotIn else .In) v (.ref a)) Q X.xe s := by
  obtain ⟨as, ra⟩ := Dp.reads I _ _ _ (D.okn_dp 8 d _ h1 r1) rx
  obtain ⟨c1, c2⟩ := D.okn_lay 8 d h1
  obtain ⟨b1, b2⟩ := depth_all h2
  have hm : X.A.units + 1 + min (PyData.depthAll (D.pys es)) (D.py d).depth < cLine := by
    have := Nat.min_le_left (PyData.depthAll (D.pys es)) (D.py d).depth
    omega
  rcases t with t | t
  · obtain ⟨its, rv, pl, hz⟩ := I.list t
    obtain ⟨bs, rb⟩ := reads_of (K := X.K) (P := X.prog) (w := X.w) I h2 s1 rv
    cases neg with
    | true =>
      rw [if_pos rfl] at hq ⊢
      refine PySem.SeqAt.notIn_listAt _ pl.isList (PySem.SeqAt.items_eqAt (show ReadsAll s.heap its.toArray.toList _ _ by simpa using rb) ra b2 c1 hm) ?_
      rw [PySem.SeqAt.any_by_data (show ReadsAll s.heap its.toArray.toList _ _ by simpa using rb) b2, any_pys]
      exact hq
    | false =>
      rw [if_neg Bool.false_ne_true] at hq ⊢
      refine PySem.SeqAt.in_listAt _ pl.isList (PySem.SeqAt.items_eqAt (show ReadsAll s.heap its.toArray.toList _ _ by simpa using rb) ra b2 c1 hm) ?_
      rw [PySem.SeqAt.any_by_data (show ReadsAll s.heap its.toArray.toList _ _ by simpa using rb) b2, any_pys]
      exact hq
  · obtain ⟨its, rv, pl, hz⟩ := I.tuple t
    obtain ⟨bs, rb⟩ := reads_of (K := X.K) (P := X.prog) (w := X.w) I h2 s1 rv
    cases neg with
    | true =>
      rw [if_pos rfl] at hq ⊢
      refine PySem.SeqAt.notIn_tupleAt _ (show s.heap.IsTuple a its.toArray from pl) (PySem.SeqAt.items_eqAt (show ReadsAll s.heap its.toArray.toList _ _ by simpa using rb) ra b2 c1 hm) ?_
      rw [PySem.SeqAt.any_by_data (show ReadsAll s.heap its.toArray.toList _ _ by simpa using rb) b2, any_pys]
      exact hq
    | false =>
      rw [if_neg Bool.false_ne_true] at hq ⊢
      refine PySem.SeqAt.in_tupleAt _ (show s.heap.IsTuple a its.toArray from pl) (PySem.SeqAt.items_eqAt (show ReadsAll s.heap its.toArray.toList _ _ by simpa using rb) ra b2 c1 hm) ?_
      rw [PySem.SeqAt.any_by_data (show ReadsAll s.heap its.toArray.toList _ _ by simpa using rb) b2, any_pys]
      exact hq
theorem p_in (hu : X.A.units + 64 < cLine) : OpD X (compareOp .In) (oIn false) := by
  intro pins s σ H x y v u Q I rx ry ⟨d, e, S, Qd, r1, r2, rs, q, k⟩
  unfold oIn at q
  split at q
  · rename_i es hs
    obtain ⟨a, ws, rfl, t1, s1⟩ := seq_at hs r2 rs
    cases ry
    exact in_go false hu I q.1.1 q.1.2 rx r1 t1 s1 ⟨.bl _, H, I, rfl, k.here rs q.2 RD.bl⟩
  · exact q.elim
theorem p_notIn (hu : X.A.units + 64 < cLine) : OpD X (compareOp .NotIn) (oIn true) := by
  intro pins s σ H x y v u Q I rx ry ⟨d, e, S, Qd, r1, r2, rs, q, k⟩
  unfold oIn at q
  split at q
  · rename_i es hs
    obtain ⟨a, ws, rfl, t1, s1⟩ := seq_at hs r2 rs
    cases ry
    exact in_go true hu I q.1.1 q.1.2 rx r1 t1 s1 ⟨.bl _, H, I, rfl, k.here rs q.2 RD.bl⟩
  · exact q.elim

/-! ### * in displays and calls -/
theorem da_star (he : DE X e δ) (hr : DA X es α) (hs : starEach (.Starred e p :: es) X.env = (true, eval e X.env) :: starEach es X.env := by rfl) : DA X (.Starred e p :: es) (dStar δ α) := paW (StX.pa_star he hr hs) fun σ H Q ⟨ρ, S, Qd, re, rs, q, k⟩ => by
  refine ⟨ρ, S, _, re, rs, q, fun x S1 v H1 q1 g1 r1 => ?_⟩
  obtain ⟨ds, hds, q1⟩ := q1
  obtain ⟨a, vs, e1, e2, e3⟩ := seq_at hds r1 g1.rs
  exact ⟨a, vs, e1, e2.symm, ρ, S1, _, re.tp g1.tp, g1.rs, q1, fun xs S2 ws H2 q2 g2 r2 => k _ _ _ _ q2 (g1.trans g2) ((e3.tp g2.tp).append r2)⟩

/-! ### t[::-1] -/
def dRev (r : Bool) (δ : TED) : TED := fun ρ S Q => δ ρ S fun x S1 => match x with
  | .tup ds => Q (.tup ds.reverse) S1
  | .tpx ds => Q (.tup ds.reverse) S1
  | x => match S1.lsts x with
    | some ds => newL r ds.reverse S1 Q
    | none => False
theorem adjust_rev (n : Nat) : Builtin.Slice.sliceAdjust none none (-1) (n : Int) = ((n : Int) - 1, -1) := by
  unfold Builtin.Slice.sliceAdjust
  rfl
theorem places_rev (n : Nat) : Builtin.Slice.slicePlaces ((n : Int) - 1) (-1) (-1) = n := by
  unfold Builtin.Slice.slicePlaces
  rw [if_neg (by decide)]
  split
  · have : (((n : Int) - 1 - -1 - 1) / (- -1) + 1) = n := by
      rw [show (- -1 : Int) = 1 by decide, Int.ediv_one]; omega
    rw [this]; rfl
  · omega
end
section
variable {prog : Program} {w : World} {A : Around} {E : Value → Shared → Prop} {s : Shared}
theorem sliceApplied_rev {sl : Addr} {vs : Value} {n : Nat} {Q : Int × Int × Nat → Shared → Prop} (hs : s.heap.IsSliceOf sl .none .none vs) (ps : IsPart vs (some (-1)))
    (h : Q ((n : Int) - 1, -1, n) s) : wpAny (model prog w) A (Builtin.Slice.sliceApplied (.ref sl) (pure (n : Int))) Q E s := by
  obtain ⟨os, hos, hcs, hds⟩ := id hs
  unfold Builtin.Slice.sliceApplied Builtin.Slice.sliceFields
  refine wpAny_bind (wpAny_bind (wpAny_field hos hds (x := .none) rfl (wpAny_bind (wpAny_field hos hds (x := .none) rfl (wpAny_bind (wpAny_field hos hds (x := vs) rfl (wpAny_pure ?_)))))))
  refine wpAny_bind (HT.slicePart_ ps ?_)
  show wpAny _ _ (if ((-1 : Int) == 0) = true then _ else _) _ _ s
  rw [if_neg (by decide)]
  refine wpAny_bind (HT.slicePart_ .none (wpAny_bind (HT.slicePart_ .none (wpAny_bind (wpAny_pure ?_)))))
  show wpAny _ _ (match Builtin.Slice.sliceAdjust none none (-1) (n : Int) with | (lo, hi) => pure (lo, (-1 : Int), Builtin.Slice.slicePlaces lo hi (-1))) _ _ s
  rw [adjust_rev n]
  show wpAny _ _ (pure ((n : Int) - 1, (-1 : Int), Builtin.Slice.slicePlaces ((n : Int) - 1) (-1) (-1))) _ _ s
  rw [places_rev]
  exact wpAny_pure h
theorem range_all : ∀ l : List Value, (List.range l.length).filterMap (fun i => l[i]?) = l
  | [] => rfl
  | x :: l => by
    rw [List.length_cons, List.range_succ_eq_map, List.filterMap_cons]
    show x :: _ = _
    rw [List.filterMap_map]
    exact congrArg (x :: ·) (range_all l)
theorem pick_rev (xs : Array Value) : ((List.range xs.size).filterMap fun (m : Nat) => xs[((xs.size : Int) - 1 + (m : Int) * -1).toNat]?).toArray = xs.toList.reverse.toArray := by
  congr 1
  have e : (fun (m : Nat) => xs[((xs.size : Int) - 1 + (m : Int) * -1).toNat]?) = fun m => xs[(xs.size - 1 - m)]? := by
    funext m
    congr 1
    omega
  rw [e]
  have e2 : (fun m => xs[(xs.size - 1 - m)]?) = (fun i => xs[i]?) ∘ fun k => xs.size - 1 - k := rfl
  rw [e2, ← List.filterMap_map, krv_range, List.filterMap_reverse]
  congr 1
  have h := range_all xs.toList
  rw [Array.length_toList] at h
  have e3 : (fun i : Nat => xs[i]?) = fun i => xs.toList[i]? := by funext i; rw [Array.getElem?_toList]
  rw [e3]
  exact h
theorem getItem_tuple_rev {t sl : Addr} {items : Array Value} {vs : Value} {Q : Value → Shared → Prop} (ht : IsTup s.heap t items) (hs : s.heap.IsSliceOf sl .none .none vs) (ps : IsPart vs (some (-1)))
    (h : Q (.ref s.heap.objs.size) { s with heap := s.heap.push { cls := .type "tuple", data := .seq items.toList.reverse.toArray } })
    (hsz : items.size ≤ sizeLine) : wpAny (model prog w) A (getItem (.ref t) (.ref sl)) Q E s := by
  have htake : sizeOk (.seq items.toList.reverse.toArray) := by
    show items.toList.reverse.toArray.size ≤ sizeLine
    rw [List.size_toArray, List.length_reverse, Array.length_toList]
    exact hsz
  obtain ⟨os, hos, hcs, hds⟩ := id hs
  have hTs : s.TypeIs (.ref sl) "slice" := ⟨os, hos, hcs⟩
  unfold getItem
  try with_reducible refine wpAny_holding ?_
  first | refine wpAny_bind (wpAny_pure ?_) | skip
  refine wpAny_bind (wpAny_sequenceKey ht.typeIs (by decide) ?_)
  refine wpAny_bind (wpAny_callSpecial?_slot (name := Str.ofString "__getitem__") ht.typeIs PyProof.Rows.slot_tuple_getitem
    (wpAny_call_entry PyProof.Rows.slot_tuple_getitem ht.typeIs PyProof.Rows.entry_tuple_getitem ?_ (PyProof.Rows.args_tuple_getitem _ _)))
  show wpAny _ _ (Builtin.Tuple.tupleItemsOf (.ref t) >>= _) _ _ s
  refine wpAny_bind (tupleItemsOf_ ht ?_)
  refine wpAny_bind (wpAny_typeOf hTs ?_)
  rw [if_pos (by decide)]
  refine wpAny_bind (sliceApplied_rev hs ps ?_)
  have hno : ¬ (((items.size : Int) - 1 == 0 && (-1 : Int) == 1 && items.size == items.size) = true) := by
    intro q
    rw [Bool.and_eq_true, Bool.and_eq_true] at q
    exact absurd q.1.2 (by decide)
  show wpAny _ _ (if ((items.size : Int) - 1 == 0 && (-1 : Int) == 1 && items.size == items.size) = true then _ else _) _ _ s
  rw [if_neg hno, pick_rev]
  first
    | exact wpAny_bind (m := Builtin.Tuple.tupleExact _) (wpAny_newObj_type (wpAny_pure ⟨_, rfl, wpAny_pure h⟩) htake)
    | exact wpAny_bind (m := Builtin.Tuple.tupleExact _) (wpAny_newObj_type (wpAny_bind (wpAny_pure (wpAny_pure ⟨_, rfl, wpAny_pure h⟩))) htake)
    | exact wpAny_bind (wpAny_bind (m := Builtin.Tuple.tupleExact _) (wpAny_newObj_type (wpAny_pure (wpAny_pure ⟨_, rfl, wpAny_pure h⟩)) htake))
    | exact wpAny_bind (wpAny_bind (m := Builtin.Tuple.tupleExact _) (wpAny_newObj_type (wpAny_pure ⟨_, rfl, wpAny_pure h⟩) htake))
end

section
variable {X : Cx} {e : Expr} {δ : TED} {p p2 pos : Pos} {es : List Expr} {α : TAD}
theorem de_rev {r : Bool} {k : Nat} {p1 p2 p3 : Pos} (he : DE X e δ) : DE X (.Subscript e (.Slice none none (some (.UnaryOp .USub (.Constant (.int 1) k p1) p2)) p3) pos) (dRev r δ) := by
  refine peW (t := fun σ H Q => LE X.K δ σ H fun x H1 => ∃ a xs, x = .ref a ∧ ((SqL X.K H1 a xs ∧ ∀ p, H1 p = none → Q (.ref p) (upd H1 p (.lst xs.reverse))) ∨ (SqT X.K H1 a xs ∧ ∀ p, H1 p = none → Q (.ref p) (upd H1 p (.tup xs.reverse))))) ⟨fun pins s σ H Q I h => ?_⟩ fun σ H Q ⟨ρ, S, Qd, re, rs, q, k⟩ => ?_
  · refine Subscript_ (thn (he.run pins s σ H _ I h) fun v s1 ⟨x, H1, I1, r1, q1⟩ => ?_)
    obtain ⟨a, xs, ex, q⟩ := q1
    subst ex
    cases r1
    have hst : PO X (some (.UnaryOp .USub (.Constant (.int 1) k p1) p2)) (tPart (tUn (rU fun i => .int (-i)) (tC (.int 1)))) := po_some (pe_un un_neg pe_int)
    refine wpAny_Slice (thn (po_none.run pins s1 σ H1 (fun o H2 => o = none ∧ H2 = H1) I1 ⟨rfl, rfl⟩) fun vl s2 ⟨l, H2, I2, pl, el, e2⟩ => ?_)
    subst el e2
    refine thn (po_none.run pins s2 σ H2 (fun o H3 => o = none ∧ H3 = H2) I2 ⟨rfl, rfl⟩) fun vu s3 ⟨u, H3, I3, pu, eu, e3⟩ => ?_
    subst eu e3
    refine thn (hst.run pins s3 σ H3 (fun o H4 => o = some (-1) ∧ H4 = H3) I3 ⟨1, rfl, -1, rfl, rfl, rfl⟩) fun vs s4 ⟨o, H4, I4, ps, eo, e4⟩ => ?_
    subst eo e4
    have I5 : Inv X pins σ H4 { s4 with heap := s4.heap.push { cls := .type "slice", data := .fields #[vl, vu, vs] } } := I4.kept (t' := s4.toks) fun b ob q => Heap.get?_push_of_some _ q
    show wpAny (model X.prog X.w) X.A (subscriptTail e (.Slice none none (some (.UnaryOp .USub (.Constant (.int 1) k p1) p2)) p3) (.ref a) (.ref s4.heap.objs.size)) (EP X pins σ Q) X.xe { s4 with heap := s4.heap.push { cls := .type "slice", data := .fields #[vl, vu, vs] } }
    rcases q with ⟨hx, q⟩ | ⟨hx, q⟩
    · obtain ⟨its, r, ht, hz⟩ := I5.list hx
      have hlen := r.length
      refine tail_any (ops := [.ref a, .ref s4.heap.objs.size]) ht.isList.typeIs (PySem.slot_list_getitem.lookup) ?_ (by with_unfolding_all rfl)
      refine wpAny_getItem_list_slice ht.isList (Heap.IsSliceOf.new _ vl vu vs) pl pu ps (by decide) ?_ (by rw [List.size_toArray]; omega)
      rw [PySem.W.krv_pick]
      refine ⟨.ref _, _, I5.laid (t' := s4.toks) (o := .lst xs.reverse) (fun b ob q => Heap.get?_push_of_some _ q) (Nat.le_refl _) ?_, rfl, q _ (I5.hok.fresh (Nat.le_refl _))⟩
      exact ⟨by rw [List.length_reverse]; exact hz, _, 0, r.reverse, Heap.get?_push_size _ rfl⟩
    · obtain ⟨its, r, ht, hz⟩ := I5.tuple hx
      have hlen := r.length
      cases pl
      cases pu
      refine tail_any (ops := [.ref a, .ref s4.heap.objs.size]) ht.typeIs (PyProof.Rows.slot_tuple_getitem.lookup) ?_ (by with_unfolding_all rfl)
      refine getItem_tuple_rev ht (Heap.IsSliceOf.new _ .none .none vs) ps ?_ (by rw [List.size_toArray]; omega)
      refine ⟨.ref _, _, I5.laid (t' := s4.toks) (o := .tup xs.reverse) (fun b ob q => Heap.get?_push_of_some _ q) (Nat.le_refl _) ?_, rfl, q _ (I5.hok.fresh (Nat.le_refl _))⟩
      exact ⟨by rw [List.length_reverse]; exact hz, _, r.reverse, IsTup.new _ _⟩
  · refine ⟨ρ, S, _, re, rs, q, fun x S1 v H1 q1 g1 r1 => ?_⟩
    try dsimp only at q1
    split at q1
    · rw [RD] at r1
      obtain ⟨a, vs, rfl, t1, s1⟩ := r1
      exact ⟨a, vs, rfl, .inr ⟨t1, fun p hp => newT_ok g1.rs s1.reverse q1 (k.go g1) p hp⟩⟩
    · rw [RD] at r1
      obtain ⟨a, o, vs, rfl, t1, _, s1⟩ := r1
      exact ⟨a, vs, rfl, .inr ⟨.inl (.inr ⟨o, t1⟩), fun p hp => newT_ok g1.rs s1.reverse q1 (k.go g1) p hp⟩⟩
    · split at q1
      · rename_i ds hs
        obtain ⟨a, vs, rfl, t1, s1⟩ := lsts_at hs r1 g1.rs
        exact ⟨a, vs, rfl, .inl ⟨t1, fun p hp => newL_ok g1.rs s1.reverse q1 (k.go g1) p hp⟩⟩
      · exact q1.elim

/-! ### sum -/
theorem preSum_take (ns : List Int) : ∀ i, i ≤ ns.length → preSum (fun i => ns.getD i 0) i = (ns.take i).sum
  | 0, _ => rfl
  | i + 1, h => by
    have hlt : i < ns.length := h
    rw [preSum, preSum_take ns i (by omega), List.take_succ, List.getElem?_eq_getElem hlt, List.sum_append]
    have e : ns.getD i 0 = ns[i] := by rw [List.getD_eq_getElem?_getD, List.getElem?_eq_getElem hlt]; rfl
    show _ + ns.getD i 0 = _ + ([ns[i]] : List Int).sum
    rw [e, List.sum_singleton]
theorem sum_go {its : List Value} {ns : List Int} (h : IntsAre its ns) : ∀ (i : Nat) (v : Value), its.toArray[i]? = some v → ∃ t, v = .int (ns.getD i 0) t := by
  induction h with
  | nil => intro i v hv; simp at hv
  | cons n k r ih =>
    intro i v hv
    cases i with
    | zero => 
      have e : Value.int n k = v := by simpa using hv
      exact ⟨k, e.symm⟩
    | succ i =>
      obtain ⟨t, e⟩ := ih i v (by simpa using hv)
      exact ⟨t, e⟩
theorem p_sum (hc : X.calm = true) : CallD X (.builtin "sum") oSum := by
  intro pins s σ H vs us Q I r ⟨ds, S, Qd, rr, rs, q, k⟩
  unfold oSum at q
  split at q
  · obtain ⟨ns, hs, q⟩ := q
    obtain ⟨v, rfl, r1⟩ := rr.one
    obtain ⟨a, ws, rfl, t1, s1⟩ := seq_at hs r1 rs
    rw [Vals.ref1 r]
    have e := rds_ints s1
    subst e
    have fin : ∀ (its : List Value), Vals (ns.map V.int) its → ∀ (h' : Heap) tk t', (∀ b o, s.heap.get? b = some o → h'.get? b = some o) → EP X pins σ Q (.int (preSum (fun i => ns.getD i 0) its.toArray.size) t') { s with heap := h', toks := tk } := by
      intro its rv h' tk t' hk
      have hl : its.toArray.size = ns.length := by rw [List.size_toArray, ← rv.length, List.length_map]
      rw [hl, preSum_take ns ns.length (Nat.le_refl _), List.take_length]
      exact ⟨.int ns.sum, H, I.kept hk, ⟨_, rfl⟩, k.here rs q RD.int⟩
    rcases t1 with t1 | t1
    · obtain ⟨its, rv, pl, hz⟩ := I.list t1
      refine call_sum_walkAnyS (iter_listW (A := X.A.in1) (I.ok.hd hc) pl.isList fun s₂ e W st hfp hw hk => ?_)
      refine ⟨_, _, _, _, _, _, _, fun i => ns.getD i 0, rfl, W, st, hfp, sum_go rv.ints, fun s' t' m => ?_⟩
      obtain ⟨h', tk, rfl, hk'⟩ := moved_old e rfl m
      exact fin its rv h' tk t' hk'
    · obtain ⟨its, rv, pl, hz⟩ := I.tuple t1
      refine call_sum_walkAnyS (iter_tupleW (A := X.A.in1) (I.ok.hd hc) (show s.heap.IsTuple a its.toArray from pl) fun s₂ e W st hfp hw hk => ?_)
      refine ⟨_, _, _, _, _, _, _, fun i => ns.getD i 0, rfl, W, st, hfp, sum_go rv.ints, fun s' t' m => ?_⟩
      obtain ⟨h', tk, rfl, hk'⟩ := moved_old e rfl m
      exact fin its rv h' tk t' hk'
  · exact q.elim

/-! ### tuple * 0, tuple * 1 -/
end
section
theorem tuple_mul1 (l : Addr) (items : Array Value) (n : Nat) (dd : Option Addr) (sl : Array (Option Value)) (u : Tok) :
    Meets (Builtin.«tuple.__mul__» ⟨[.ref l, .int 1 u], []⟩) (fun _ R s => s.heap.get? l = some { cls := .type "tuple", dict := dd, data := .seq items n, slots := sl } ∧ R (.ok (.ret (Value.ref l))) s) :=
  .of_wp fun prog w A R s h => by
    obtain ⟨hp, g, d, tk, os⟩ := s
    obtain ⟨hl, h⟩ := h
    have f1 := AutoSeq1.idx_int
    wp_walk using wpAny_loadPart' hl
    exact ⟨_, rfl, h⟩
theorem tuple_mul0 (l : Addr) (items : Array Value) (n : Nat) (dd : Option Addr) (sl : Array (Option Value)) (u : Tok) (c1 : items.isEmpty = false) :
    Meets (Builtin.«tuple.__mul__» ⟨[.ref l, .int 0 u], []⟩) (fun _ R s => s.heap.get? l = some { cls := .type "tuple", dict := dd, data := .seq items n, slots := sl } ∧
      R (.ok (.ret (Value.ref s.heap.objs.size))) { s with heap := s.heap.push { cls := Value.type "tuple", data := Data.seq #[] }, toks := s.toks }) :=
  .of_wp fun prog w A R s h => by
    obtain ⟨hp, g, d, tk, os⟩ := s
    obtain ⟨hl, h⟩ := h
    have f1 := AutoSeq1.idx_int
    have c2 : (items.isEmpty || (0 : Int) == 1) = false := by rw [c1]; rfl
    wp_walk using wpAny_loadPart' hl
    repeat (first
      | (refine wpAny_ite_false (decide_eq_false (by rw [c2]; exact Bool.false_ne_true)) ?_; wp_walk using wpAny_loadPart' hl)
      | (rw [c1]; wp_walk using wpAny_loadPart' hl))
    exact ⟨_, rfl, h⟩
section
variable {X : Cx}
def rRepS (K : PySem.W.Frag) : R2 := fun x y H Q => ∃ l xs, x = .ref l ∧ SqT K H l xs ∧ ((y = .int 1 ∧ Q (.ref l) H) ∨ (y = .int 0 ∧ xs ≠ [] ∧ ∀ p, H p = none → Q (.ref p) (upd H p (.tup []))))
theorem op_repS : OpR X (binaryOp .Mult) (rRepS X.K) := by
  intro pins s σ H x y v u Q I rx ry h
  obtain ⟨l, xs, rfl, hT, h⟩ := h
  cases rx
  obtain ⟨its, r, ⟨⟨cls, dd, data, sl⟩, ho, hc, n, hd⟩, hs⟩ := I.tuple hT
  simp only at hc hd
  subst hc hd
  rcases h with ⟨rfl, q⟩ | ⟨rfl, hne, q⟩
  · obtain ⟨t, rfl⟩ := ry
    refine wpAny_binaryOp_repeat_ref (T := "tuple") (U := "int") (by decide) ⟨_, ho, rfl⟩ (fun s' => typeIs_int s' 1 t) noFill_tuple_mul F.fills_int_mul F.slot_int_rmul repeat_tuple F.slot_int_index.lookup
      (call_meets F.slot_int_rmul (typeIs_int s 1 t) F.entry_int_rmul (F.args_int_rmul_2 _ _) (int_rmul_tuple 1 t l its.toArray n dd sl)
        ⟨ho, rfl, ⟨_, ho, rfl⟩, call_meets F.slot_tuple_mul ⟨_, ho, rfl⟩ F.entry_tuple_mul (F.args_tuple_mul_2 _ _) (tuple_mul1 l its.toArray n dd sl t) ⟨ho, ?_⟩⟩)
    exact ⟨.ref l, H, I, rfl, q⟩
  · obtain ⟨t, rfl⟩ := ry
    have hi : its.toArray.isEmpty = false := by
      cases its with
      | nil => cases r; exact absurd rfl hne
      | cons a b => rfl
    refine wpAny_binaryOp_repeat_ref (T := "tuple") (U := "int") (by decide) ⟨_, ho, rfl⟩ (fun s' => typeIs_int s' 0 t) noFill_tuple_mul F.fills_int_mul F.slot_int_rmul repeat_tuple F.slot_int_index.lookup
      (call_meets F.slot_int_rmul (typeIs_int s 0 t) F.entry_int_rmul (F.args_int_rmul_2 _ _) (int_rmul_tuple 0 t l its.toArray n dd sl)
        ⟨ho, rfl, ⟨_, ho, rfl⟩, call_meets F.slot_tuple_mul ⟨_, ho, rfl⟩ F.entry_tuple_mul (F.args_tuple_mul_2 _ _) (tuple_mul0 l its.toArray n dd sl t hi) ⟨ho, ?_⟩⟩)
    refine ⟨.ref s.heap.objs.size, _, I.laid (t' := s.toks) (o := .tup []) (fun b ob q => Heap.get?_push_of_some _ q) (Nat.le_refl _) ?_, rfl, q _ (I.hok.fresh (Nat.le_refl _))⟩
    exact ⟨Nat.zero_le _, [], .nil, IsTup.new _ _⟩
/-- tuple * int, any count; ints; lists -/
def oMulA (r : Bool) : R2D := fun d e S Q => match e with
  | .int k => match d with
    | .int i => CMul' i k ∧ Q (.int (i * k)) S
    | .tup a => (a ≠ [] ∧ 0 ≤ k ∧ k ≤ 1000 ∧ a.length ≤ 1000) ∧ Q (.tup (List.replicate k.toNat a).flatten) S
    | d => match S.list d with
      | some a => (0 ≤ k ∧ k < 2 ^ 62 ∧ a.length * k.toNat ≤ sizeLine) ∧ newL r (List.replicate k.toNat a).flatten S Q
      | none => False
  | _ => False
theorem p_mulA {r : Bool} : OpD X (binaryOp .Mult) (oMulA r) := by
  have small : OpD X (binaryOp .Mult) (fun d e S Q => ∃ a, d = .tup a ∧ a ≠ [] ∧ ((e = .int 0 ∧ Q (.tup []) S) ∨ (e = .int 1 ∧ Q (.tup a) S))) := opD_of op_repS fun d e x y S H Qd Q r1 r2 rs q k => by
    obtain ⟨a, rfl, hne, q⟩ := q
    rw [RD] at r1
    have r1' := r1
    obtain ⟨b, vs, rfl, t1, s1⟩ := r1
    refine ⟨b, vs, rfl, t1, ?_⟩
    rcases q with ⟨rfl, q⟩ | ⟨rfl, q⟩
    · rw [RD] at r2
      exact .inr ⟨r2, fun z => hne ((vals_nil_iff s1).mp z), fun p hp => newT_ok rs (RDs.nil.mpr rfl) q k p hp⟩
    · rw [RD] at r2
      exact .inl ⟨r2, k.here rs q (by rw [RD]; exact ⟨b, vs, rfl, t1, s1⟩)⟩
  refine opD_W (opD_or (p_mul (r := r)) small) fun d e S Q q => ?_
  cases e with
  | int kk =>
    cases d with
    | tup a =>
      obtain ⟨⟨c0, c1, c2, c3⟩, q⟩ := q
      by_cases h0 : kk = 0
      · subst h0
        exact .inr ⟨a, rfl, c0, .inl ⟨rfl, q⟩⟩
      · by_cases h1 : kk = 1
        · subst h1
          have e : (List.replicate (Int.toNat 1) a).flatten = a := by simp
          rw [e] at q
          exact .inr ⟨a, rfl, c0, .inr ⟨rfl, q⟩⟩
        · exact .inl ⟨⟨c0, by omega, c2, c3⟩, q⟩
    | _ => exact .inl q
  | _ => exact q.elim
end
end
end PL
/-! plain reasoning over the readings -/
namespace PL
open PySem PySem.Spec PySem.W PyProof.Rows L2

def Ext (S S' : Sto) : Prop := ∀ p o, S p = some o → S' p = some o
theorem Ext.refl {S : Sto} : Ext S S := fun _ _ h => h
theorem Ext.trans {S S1 S2 : Sto} (a : Ext S S1) (b : Ext S1 S2) : Ext S S2 := fun p o h => b p o (a p o h)
theorem Ext.up {S : Sto} {p : Addr} {o : MO} (h : S p = none) : Ext S (S.up p o) := fun q u e => by rw [Sto.up_ne (fun z => by subst z; rw [h] at e; cases e)]; exact e

/-! ### loops -/
theorem loopD_inv {ok : Sto → Prop} {f : D → TSD} {De : EndsD} (I : List D → DEnv → Sto → Prop)
    (step : ∀ x xs ρ S, I (x :: xs) ρ S → ok S → ∀ N : DEnv → Sto → Prop, (∀ ρ' S', ok S' → I xs ρ' S' → N ρ' S') → f x { nx := N, ct := N, bk := De.nx, rt := De.rt } ρ S)
    (fin : ∀ ρ S, I [] ρ S → De.nx ρ S) : ∀ (xs : List D) (ρ : DEnv) (S : Sto), I xs ρ S → ok S → loopD ok f xs De ρ S
  | [], ρ, S, h, _ => fin ρ S h
  | x :: xs, ρ, S, h, o => step x xs ρ S h o _ fun ρ' S' o' h' => ⟨o', loopD_inv I step fin xs ρ' S' h' o'⟩

theorem lcD_inv {Dl : Addr} {ok : Sto → Prop} {ρ : DEnv} {γ : TGD} {t : TTD} {el : TED} (I : List D → List D → Sto → Prop)
    (step : ∀ x xs acc S, I (x :: xs) acc S → S Dl = some (.lst acc) → ok S → ∀ N : List D → Sto → Prop, (∀ acc' S', S' Dl = some (.lst acc') → ok S' → I xs acc' S' → N acc' S') →
      γ x ρ S fun ρ' S1 => t ρ' S1 fun b S2 => match b with
        | true => el ρ' S2 fun y S3 => S3 Dl = some (.lst acc) ∧ acc.length < sizeLine ∧ ok (S3.up Dl (.lst (acc ++ [y]))) ∧ N (acc ++ [y]) (S3.up Dl (.lst (acc ++ [y])))
        | false => S2 Dl = some (.lst acc) ∧ ok S2 ∧ N acc S2) {Q : List D → Sto → Prop} (fin : ∀ acc S, I [] acc S → S Dl = some (.lst acc) → Q acc S) :
    ∀ (xs acc : List D) (S : Sto), I xs acc S → S Dl = some (.lst acc) → ok S → lcD Dl ok ρ γ t el xs acc S Q
  | [], acc, S, h, d, _ => fin acc S h d
  | x :: xs, acc, S, h, d, o => step x xs acc S h d o (fun acc S => lcD Dl ok ρ γ t el xs acc S Q) fun acc' S' d' o' h' => lcD_inv I step fin xs acc' S' h' d' o'

theorem newL_of {r : Bool} {ds : List D} {S : Sto} {Q : QD} {Dl : Addr} (h : newL r ds S Q) (hD : S Dl = none) : endL r Dl Q ds (S.up Dl (.lst ds)) := by
  cases r with
  | true => exact h Dl hD
  | false =>
    show Q (.lst ds) ((S.up Dl (.lst ds)).del Dl)
    rw [Sto.del_up hD]
    exact h
/-- a comprehension that changes nothing -/
theorem lc_map {r : Bool} {ρ0 : DEnv} {γ : TGD} {t : TTD} {el : TED} {it : ItD} {S : Sto} {Q : QD} (keep : D → Bool) (f : D → D) (hok : ∀ S', Ext S S' → it.ok S') (hlen : it.xs.length ≤ sizeLine)
    (hx : ∀ x ∈ it.xs, ∀ S', Ext S S' → ∀ (N : D → Sto → Prop) (M : Sto → Prop), (keep x = true → N (f x) S') → (keep x = false → M S') → γ x ρ0 S' fun ρ' S1 => t ρ' S1 fun b S2 => match b with
      | true => el ρ' S2 N
      | false => M S2)
    (q : newL r ((it.xs.filter keep).map f) S Q) : ∀ Dl, S Dl = none → it.ok (S.up Dl (.lst [])) ∧ lcD Dl it.ok ρ0 γ t el it.xs [] (S.up Dl (.lst [])) (endL r Dl Q) := by
  intro Dl hD
  refine ⟨hok _ (Ext.up hD), lcD_inv (fun xs acc S' => S' = S.up Dl (.lst acc) ∧ ∃ dn, dn ++ xs = it.xs ∧ acc = (dn.filter keep).map f) ?_ ?_ it.xs [] _ ⟨rfl, [], rfl, rfl⟩ Sto.up_same (hok _ (Ext.up hD))⟩
  · rintro x xs acc S' ⟨rfl, dn, e, rfl⟩ d o N n
    have hm : x ∈ it.xs := by rw [← e]; simp
    have hl : ((dn.filter keep).map f).length < sizeLine := by
      rw [List.length_map]
      have h1 : (dn.filter keep).length ≤ dn.length := List.length_filter_le _ _
      have h2 : dn.length + (x :: xs).length = it.xs.length := by rw [← e, List.length_append]
      rw [List.length_cons] at h2
      omega
    refine hx x hm _ (Ext.up hD) _ _ (fun hk => ?_) (fun hk => ?_)
    · refine ⟨Sto.up_same, hl, ?_, ?_⟩
      · rw [Sto.up_up]; exact hok _ (Ext.up hD)
      · refine n _ _ Sto.up_same ?_ ⟨Sto.up_up, dn ++ [x], by simpa using e, ?_⟩
        · rw [Sto.up_up]; exact hok _ (Ext.up hD)
        · rw [List.filter_append, List.map_append, List.filter_cons_of_pos hk]; rfl
    · refine ⟨Sto.up_same, hok _ (Ext.up hD), n _ _ Sto.up_same (hok _ (Ext.up hD)) ⟨rfl, dn ++ [x], by simpa using e, ?_⟩⟩
      rw [List.filter_append, List.filter_cons_of_neg (by rw [hk]; exact Bool.false_ne_true)]
      simp
  · rintro acc S' ⟨rfl, dn, e, rfl⟩ d
    rw [List.append_nil] at e
    subst e
    exact newL_of q hD
/-- of all items -/
theorem lc_mapA {r : Bool} {ρ0 : DEnv} {γ : TGD} {t : TTD} {el : TED} {it : ItD} {S : Sto} {Q : QD} (f : D → D) (hok : ∀ S', Ext S S' → it.ok S') (hlen : it.xs.length ≤ sizeLine)
    (hx : ∀ x ∈ it.xs, ∀ S', Ext S S' → ∀ (N : D → Sto → Prop) (M : Sto → Prop), N (f x) S' → γ x ρ0 S' fun ρ' S1 => t ρ' S1 fun b S2 => match b with
      | true => el ρ' S2 N
      | false => M S2)
    (q : newL r (it.xs.map f) S Q) : ∀ Dl, S Dl = none → it.ok (S.up Dl (.lst [])) ∧ lcD Dl it.ok ρ0 γ t el it.xs [] (S.up Dl (.lst [])) (endL r Dl Q) :=
  lc_map (fun _ => true) f hok hlen (fun x hm S' e N M h1 _ => hx x hm S' e N M (h1 rfl)) (by rw [List.filter_eq_self.mpr (fun _ _ => rfl)]; exact q)
/-- a comprehension whose element changes the store elsewhere: I says how it stands behind the items so far -/
theorem lc_run {r : Bool} {ρ0 : DEnv} {γ : TGD} {t : TTD} {el : TED} {it : ItD} {S : Sto} {Q : QD} (I : List D → List D → Sto → Prop) (hok : ∀ S', it.ok S') (hlen : it.xs.length ≤ sizeLine)
    (h0 : ∀ Dl, S Dl = none → I it.xs [] (S.up Dl (.lst [])))
    (hx : ∀ x xs acc S', (∃ dn, dn ++ x :: xs = it.xs) → I (x :: xs) acc S' → ∀ Dl, S Dl = none → S' Dl = some (.lst acc) → ∀ (N : D → Sto → Prop) (M : Sto → Prop), (∀ y S2, S2 Dl = some (.lst acc) → acc.length < sizeLine → I xs (acc ++ [y]) (S2.up Dl (.lst (acc ++ [y]))) → N y S2) → γ x ρ0 S' fun ρ' S1 => t ρ' S1 fun b S2 => match b with
      | true => el ρ' S2 N
      | false => M S2)
    (hlenA : ∀ x xs acc S', I (x :: xs) acc S' → acc.length + (x :: xs).length ≤ it.xs.length)
    (q : ∀ Dl acc S', S Dl = none → I [] acc S' → S' Dl = some (.lst acc) → endL r Dl Q acc S') : ∀ Dl, S Dl = none → it.ok (S.up Dl (.lst [])) ∧ lcD Dl it.ok ρ0 γ t el it.xs [] (S.up Dl (.lst [])) (endL r Dl Q) := by
  intro Dl hD
  refine ⟨hok _, lcD_inv (fun xs acc S' => I xs acc S' ∧ ∃ dn, dn ++ xs = it.xs) ?_ ?_ it.xs [] _ ⟨h0 Dl hD, [], rfl⟩ Sto.up_same (hok _)⟩
  · rintro x xs acc S' ⟨i, dn, e⟩ d o N n
    have hl := hlenA x xs acc S' i
    rw [List.length_cons] at hl
    refine hx x xs acc S' ⟨dn, e⟩ i Dl hD d _ _ (fun y S2 d2 l2 i2 => ⟨d2, l2, hok _, n _ _ Sto.up_same (hok _) ⟨i2, dn ++ [x], by simpa using e⟩⟩)
  · rintro acc S' ⟨i, _⟩ d
    exact q Dl acc S' hD i d
end PL
/-! defs by name -/
namespace PL
open PySem PySem.Spec PySem.W PyProof.Rows L2
abbrev FnP (K : PySem.W.Frag) (x : Str) (st : Stmt) (f : Addr) (fd : FuncData) : Prop := FunD K x x (defArgs st) (defBody st) (defScope st) [] [] f fd
/-- the def x of the text stands -/
def Own (K : PySem.W.Frag) (mg : Str → Option Value) (x : Str) (st : Stmt) : Prop := ∃ f fd, FnP K x st f fd ∧ mg x = some (.ref f)
/-- x keeps the promise sp -/
structure Has (P : Program) (w : World) (K : PySem.W.Frag) (mg : Str → Option Value) (base : Heap) (k : Nat) (x : Str) (ps : List Str) (sp : DSp) : Prop where
  ex : ∃ f fd, FnOk P w K mg base CX0 k f fd ps (LSp K sp) ∧ mg x = some (.ref f) ∧ PySem.W.keepIn K (.ref f) = true ∧ Binds K fd ps []
section
variable {X : Cx} {e : Expr} {es : List Expr} {α : TAD} {δ : TED} {x : Str} {p pos : Pos} {k j : Nat} {ps : List Str} {sp : DSp}
theorem de_own (h : Has X.prog X.w X.K X.mg X.base j x ps sp) (hr : Room k X.A) (ha : DA X (e :: es) α) (hj : j ≤ k := by decide)
    (hg : Gl X x := by rfl) (hdb : (x == ("__debug__" : Str)) = false := by decide) (he : starEach (e :: es) X.env = (false, eval e X.env) :: starEach es X.env := by rfl) (hpl : (backTo pos (starEach es X.env)).any (·.1) = false := by rfl) :
    DE X (.Call (.Name x p) (e :: es) [] pos) (dCall sp α) := by
  obtain ⟨f, fd, F, hm, hk, hb⟩ := h.ex
  exact de_call (E := fun _ _ _ => False) F (hr.mono hj) hm hk hb (fun _ _ _ _ _ _ _ h => h.elim) ha hg hdb he hpl
def dNeg (δ : TED) : TED := fun ρ S Q => δ ρ S fun x S1 => match x with
  | .int i => Q (.int (-i)) S1
  | _ => False
theorem de_neg (ha : DE X e δ) : DE X (.UnaryOp .USub e pos) (dNeg δ) := peW (pe_un un_neg ha) fun σ H Q ⟨ρ, S, Qd, re, rs, q, k⟩ => by
  refine ⟨ρ, S, _, re, rs, q, fun x S1 v H1 q1 g1 r1 => ?_⟩
  try dsimp only at q1
  split at q1
  · rw [RD] at r1
    exact ⟨_, r1, (k.go g1).here g1.rs q1 RD.int⟩
  · exact q1.elim
end
section
variable {P : Program} {w : World} {K : PySem.W.Frag} {mg : Str → Option Value} {base : Heap}
theorem has_of {x : Str} {st : Stmt} {N ps : List Str} {k : Nat} {sp : DSp} {τ : TSD} (O : Own K mg x st) (Sc : FnScope N ps (defScope st)) (len : ∀ ds S Q, sp ds S Q → ds.length = ps.length)
    (hb : ∀ (kV doc pm : Value) (an : Option Addr) (cdv ct : Value) (us : List Value), us.length = ps.length → bindArgs (PySem.W.fnOf x x (defArgs st) (defBody st) (defScope st) .none kV doc pm an cdv ct) ⟨us, []⟩ = pure (ps.zip us))
    (hbody : ∀ (f : Addr) (cdv : Value) (A : Around) (outer : List Env) (s : Shared) (H : Hp) (E : XK), Room k (A.deeper (envOfC x (defScope st) s.heap.objs.size f cdv)) →
      DSs (cxOf CX0 P w K mg base N x (defScope st) f cdv A outer s H E).nox (defBody st) τ) (hq : ∀ ds S Q, sp ds S Q → τ { nx := fun _ S' => FzQ Q .non S', rt := FzQ Q } (startD N ds) S) : Has P w K mg base (k + 1) x ps sp := by
  obtain ⟨f, fd, F, hm⟩ := O
  exact ⟨f, fd, fnD F Sc len fun cdv A outer s H E hr => ⟨τ, PSs.nox (hbody f cdv A outer s H E hr), hq⟩, hm, F.kp, F.bindsN hb⟩
end
def blkB (N : List Str) (sn : List (Str × NameKind)) (scope : Scope) (own : List (Str × Nat)) : Bool :=
  scope.kind == .function && (scope.names.all fun y => scope.names.lookup y.1 == some y.2) && (own.all fun p => N[p.2]? == some p.1) &&
  (scope.names.all fun y => y.2 != .free || (sn.lookup y.1 == some .cell || sn.lookup y.1 == some .free)) &&
  (scope.names.all fun y => !(y.2 == .local || y.2 == .cell) || ((own.map (·.1)).contains y.1 || !N.contains y.1))
theorem kind_beq {a b : NameKind} (h : (a == b) = true) : a = b := by cases a <;> cases b <;> first | rfl | (exact absurd h (by decide))
theorem kind_bne {a b : NameKind} (h : (a != b) = true) : a ≠ b := fun e => by subst e; cases a <;> exact absurd h (by decide)
theorem kind_refl (a : NameKind) : (a == a) = true := by cases a <;> decide
theorem okind_beq {a b : Option NameKind} (h : (a == b) = true) : a = b := by
  cases a with
  | none => cases b with
    | none => rfl
    | some y => exact absurd h (by cases y <;> decide)
  | some x => cases b with
    | none => exact absurd h (by cases x <;> decide)
    | some y => exact congrArg some (kind_beq h)
theorem blk_of {N : List Str} {sc scope : Scope} {own : List (Str × Nat)} (h : blkB N sc.names scope own = true) : BlkOk N sc scope own := by
  unfold blkB at h
  rw [Bool.and_eq_true, Bool.and_eq_true, Bool.and_eq_true, Bool.and_eq_true] at h
  obtain ⟨⟨⟨⟨h1, h2⟩, h3⟩, h4⟩, h5⟩ := h
  refine ⟨?_, fun y hy => ?_, fun p hp => ?_, fun y hy hf => ?_, fun y hy hl => ?_⟩
  · cases e : scope.kind <;> first | rfl | (rw [e] at h1; exact absurd h1 (by decide))
  · exact okind_beq (List.all_eq_true.mp h2 y hy)
  · exact eq_of_beq (List.all_eq_true.mp h3 p hp)
  · have := List.all_eq_true.mp h4 y hy
    rw [hf] at this
    rcases (Bool.or_eq_true _ _).mp this with z | z
    · exact absurd z (by decide)
    · rcases (Bool.or_eq_true _ _).mp z with z | z
      · exact .inl (okind_beq z)
      · exact .inr (okind_beq z)
  · have := List.all_eq_true.mp h5 y hy
    have t : (y.2 == .local || y.2 == .cell) = true := by
      rcases hl with e | e <;> rw [e] <;> decide
    rw [t] at this
    have z : ((own.map (·.1)).contains y.1 || !N.contains y.1) = true := by simpa using this
    rcases (Bool.or_eq_true _ _).mp z with z | z
    · exact .inl (List.contains_iff_mem.mp z)
    · exact .inr fun m => by
        rw [List.contains_iff_mem.mpr m] at z
        exact absurd z (by decide)
end PL
/-! plain reasoning over mapped lists -/
namespace PL
open PySem PySem.Spec PySem.W PyProof.Rows L2
theorem kb_ii : kitB "int" "int" = some true := by decide +kernel
theorem kb_ib : kitB "int" "bool" = some false := by decide +kernel
theorem kb_it : kitB "int" "tuple" = some false := by decide +kernel
theorem kb_is : kitB "int" "str" = some false := by decide +kernel
theorem kb_bi : kitB "bool" "int" = some true := by decide +kernel
theorem kb_bb : kitB "bool" "bool" = some true := by decide +kernel
theorem kb_bt : kitB "bool" "tuple" = some false := by decide +kernel
theorem kb_bs : kitB "bool" "str" = some false := by decide +kernel
theorem kb_tt : kitB "tuple" "tuple" = some true := by decide +kernel
theorem kb_ti : kitB "tuple" "int" = some false := by decide +kernel
theorem kb_ts : kitB "tuple" "str" = some false := by decide +kernel
theorem kb_ss : kitB "str" "str" = some true := by decide +kernel
theorem kb_si : kitB "str" "int" = some false := by decide +kernel
theorem kb_st : kitB "str" "tuple" = some false := by decide +kernel
theorem kb_nt : kitB "NoneType" "tuple" = some false := by decide +kernel
theorem kb_ni : kitB "NoneType" "int" = some false := by decide +kernel
theorem kb_ns : kitB "NoneType" "str" = some false := by decide +kernel
theorem kb_lt : kitB "list" "tuple" = some false := by decide +kernel
theorem kb_li : kitB "list" "int" = some false := by decide +kernel
theorem kb_ls : kitB "list" "str" = some false := by decide +kernel
theorem ex_some {α : Type} {a : α} {P : α → Prop} : (∃ b, some a = some b ∧ P b) ↔ P a := ⟨fun ⟨b, e, h⟩ => by cases e; exact h, fun h => ⟨a, rfl, h⟩⟩

/-! ### comprehensions over mapped lists -/
theorem lc_mapK {α : Type} {r : Bool} {ρ0 : DEnv} {γ : TGD} {t : TTD} {el : TED} {ok : Sto → Prop} {S : Sto} {Q : QD} (l : List α) (enc : α → D) (keep : α → Bool) (f : α → D) (hok : ∀ S', Ext S S' → ok S') (hlen : l.length ≤ sizeLine)
    (hx : ∀ x ∈ l, ∀ S', Ext S S' → ∀ (N : D → Sto → Prop) (M : Sto → Prop), (keep x = true → N (f x) S') → (keep x = false → M S') → γ (enc x) ρ0 S' fun ρ' S1 => t ρ' S1 fun b S2 => match b with
      | true => el ρ' S2 N
      | false => M S2)
    (q : newL r ((l.filter keep).map f) S Q) : ∀ Dl, S Dl = none → ok (S.up Dl (.lst [])) ∧ lcD Dl ok ρ0 γ t el (l.map enc) [] (S.up Dl (.lst [])) (endL r Dl Q) := by
  intro Dl hD
  refine ⟨hok _ (Ext.up hD), lcD_inv (fun xs acc S' => S' = S.up Dl (.lst acc) ∧ ∃ dn re, xs = re.map enc ∧ dn ++ re = l ∧ acc = (dn.filter keep).map f) ?_ ?_ (l.map enc) [] _ ⟨rfl, [], l, rfl, rfl, rfl⟩ Sto.up_same (hok _ (Ext.up hD))⟩
  · rintro x xs acc S' ⟨rfl, dn, re, e1, e, rfl⟩ d o N n
    cases re with
    | nil => cases e1
    | cons a re =>
    rw [List.map_cons] at e1
    obtain ⟨rfl, rfl⟩ := List.cons.inj e1
    have hm : a ∈ l := by rw [← e]; simp
    have hl : ((dn.filter keep).map f).length < sizeLine := by
      rw [List.length_map]
      have h1 : (dn.filter keep).length ≤ dn.length := List.length_filter_le _ _
      have h2 : dn.length + (a :: re).length = l.length := by rw [← e, List.length_append]
      rw [List.length_cons] at h2
      omega
    refine hx a hm _ (Ext.up hD) _ _ (fun hk => ?_) (fun hk => ?_)
    · refine ⟨Sto.up_same, hl, ?_, ?_⟩
      · rw [Sto.up_up]; exact hok _ (Ext.up hD)
      · refine n _ _ Sto.up_same ?_ ⟨Sto.up_up, dn ++ [a], re, rfl, by simpa using e, ?_⟩
        · rw [Sto.up_up]; exact hok _ (Ext.up hD)
        · rw [List.filter_append, List.map_append, List.filter_cons_of_pos hk]; rfl
    · refine ⟨Sto.up_same, hok _ (Ext.up hD), n _ _ Sto.up_same (hok _ (Ext.up hD)) ⟨rfl, dn ++ [a], re, rfl, by simpa using e, ?_⟩⟩
      rw [List.filter_append, List.filter_cons_of_neg (by rw [hk]; exact Bool.false_ne_true)]
      simp
  · rintro acc S' ⟨rfl, dn, re, e1, e, rfl⟩ d
    have : re = [] := by cases re with
      | nil => rfl
      | cons a re => cases e1
    subst this
    rw [List.append_nil] at e
    subst e
    exact newL_of q hD
theorem lc_mapE {α : Type} {r : Bool} {ρ0 : DEnv} {γ : TGD} {t : TTD} {el : TED} {ok : Sto → Prop} {S : Sto} {Q : QD} (l : List α) (enc : α → D) (f : α → D) (hok : ∀ S', Ext S S' → ok S') (hlen : l.length ≤ sizeLine)
    (hx : ∀ x ∈ l, ∀ S', Ext S S' → ∀ (N : D → Sto → Prop) (M : Sto → Prop), N (f x) S' → γ (enc x) ρ0 S' fun ρ' S1 => t ρ' S1 fun b S2 => match b with
      | true => el ρ' S2 N
      | false => M S2)
    (q : newL r (l.map f) S Q) : ∀ Dl, S Dl = none → ok (S.up Dl (.lst [])) ∧ lcD Dl ok ρ0 γ t el (l.map enc) [] (S.up Dl (.lst [])) (endL r Dl Q) :=
  lc_mapK l enc (fun _ => true) f hok hlen (fun x hm S' e N M h1 _ => hx x hm S' e N M (h1 rfl)) (by rw [List.filter_eq_self.mpr (fun _ _ => rfl)]; exact q)
theorem loopD_invE {α : Type} {ok : Sto → Prop} {f : D → TSD} {De : EndsD} (enc : α → D) (I : List α → DEnv → Sto → Prop)
    (step : ∀ x xs ρ S, I (x :: xs) ρ S → ok S → ∀ N : DEnv → Sto → Prop, (∀ ρ' S', ok S' → I xs ρ' S' → N ρ' S') → f (enc x) { nx := N, ct := N, bk := De.nx, rt := De.rt } ρ S)
    (fin : ∀ ρ S, I [] ρ S → De.nx ρ S) : ∀ (xs : List α) (ρ : DEnv) (S : Sto), I xs ρ S → ok S → loopD ok f (xs.map enc) De ρ S
  | [], ρ, S, h, _ => fin ρ S h
  | x :: xs, ρ, S, h, o => step x xs ρ S h o _ fun ρ' S' o' h' => ⟨o', loopD_invE enc I step fin xs ρ' S' h' o'⟩
/-! ### sources -/
theorem enum_map {α : Type} (enc : α → D) : ∀ (xs : List α) (n : Nat), enumFrom n (xs.map enc) = (xs.zipIdx n).map fun p => .tup [.int (p.2 : Nat), enc p.1]
  | [], n => rfl
  | x :: xs, n => by
    rw [List.map_cons, enumFrom, List.zipIdx_cons, List.map_cons, enum_map enc xs (n + 1)]
theorem zip_map2 {α β : Type} (e1 : α → D) (e2 : β → D) : ∀ (xs : List α) (ys : List β), List.zipWith (fun d e => D.tup [d, e]) (xs.map e1) (ys.map e2) = (List.zip xs ys).map fun p => .tup [e1 p.1, e2 p.2]
  | [], _ => by simp
  | _ :: _, [] => by simp
  | x :: xs, y :: ys => by
    rw [List.map_cons, List.map_cons, List.zipWith_cons_cons, zip_map2 e1 e2 xs ys, List.zip_cons_cons, List.map_cons]
/-! ### items -/
theorem atI_map {α β : Type} (f : α → β) (xs : List α) (i : Int) : atI (xs.map f) i = (atI xs i).map f := by
  unfold atI
  rw [List.length_map]
  cases ixN xs.length i with
  | none => rfl
  | some j => simp
theorem ixN_nn {n : Nat} {i : Int} (h0 : 0 ≤ i) (h1 : i < n) : ixN n i = some i.toNat := by unfold ixN; rw [if_pos h0, if_pos h1]
theorem atI_nn {α : Type} [Inhabited α] {xs : List α} {i : Int} (d : α) (h0 : 0 ≤ i) (h1 : i < xs.length) : atI xs i = some (xs.getD i.toNat d) := by
  unfold atI
  rw [ixN_nn h0 h1]
  have : i.toNat < xs.length := by omega
  simp [List.getD_eq_getElem?_getD, List.getElem?_eq_getElem this]
theorem atI_last {α : Type} {xs : List α} (h : xs ≠ []) : atI xs (-1) = some (xs.getLast h) := by
  have hp : 0 < xs.length := List.length_pos_iff.mpr h
  have e : ixN xs.length (-1) = some (xs.length - 1) := by
    unfold ixN
    rw [if_neg (by omega), if_pos (by omega)]
    congr 1
    omega
  unfold atI
  rw [e]
  simp [List.getLast_eq_getElem]
theorem ix_int {xs : List Int} {i : Int} (h0 : 0 ≤ i) (h1 : i < xs.length) : atI (xs.map D.int) i = some (.int (xs.getD i.toNat 0)) := by
  rw [atI_map, atI_nn 0 h0 h1]; rfl
/-! ### forgetting -/
theorem go_ext {K : PySem.W.Frag} {S S' : Sto} {H : Hp} (h : Ext S S') (rs : RS K S' H) : Go K S' H S H := by
  have tp : Tp S' H S H := ⟨fun _ _ h => h, fun _ _ _ h => h, fun a o h1 h2 => ⟨by
    cases e : S a with
    | none => rfl
    | some mo => exact absurd ((h a mo e).symm.trans h1) (by simp), h2⟩⟩
  exact ⟨tp, fun p mo e => (rs p mo (h p mo e)).mv tp fun _ h => h⟩
theorem Fz.ext {S S' : Sto} {d : D} (h : Ext S S') : Fz S' d S d := ⟨fun K H v rs r => ⟨go_ext h rs, r.tp (go_ext h rs).tp⟩⟩
theorem Fz.extL {S S' : Sto} {a : Addr} {ds : List D} (h : Ext S S') (ha : S' a = some (.lst ds)) (hn : S a = none) : Fz S' (.ref a) S (.lst ds) := ⟨fun K H v rs r => by
  have g := go_ext h rs
  obtain ⟨ws, hw, r1⟩ := rs a _ ha
  rw [RD] at r
  refine ⟨g, ?_⟩
  rw [RD]
  exact ⟨a, ws, r, hn, hw, r1.tp g.tp⟩⟩
theorem FzQ.ext {Q : QD} {d : D} {S S' : Sto} (h : Ext S S') (q : Q d S) : FzQ Q d S' := ⟨d, S, q, Fz.ext h⟩
theorem FzQ.extL {Q : QD} {a : Addr} {ds : List D} {S S' : Sto} (h : Ext S S') (ha : S' a = some (.lst ds)) (hn : S a = none) (q : Q (.lst ds) S) : FzQ Q (.ref a) S' := ⟨_, S, q, Fz.extL h ha hn⟩
end PL
/-! data, equality, orders: small facts -/
namespace PL
open PySem PySem.Spec PySem.W PyProof.Rows L2
theorem okn_int {n : Nat} {i : Int} : D.okn n (.int i) = true := by cases n <;> simp [D.okn]
theorem okn_bl {n : Nat} {i : Bool} : D.okn n (.bl i) = true := by cases n <;> simp [D.okn]
theorem okn_non {n : Nat} : D.okn n .non = true := by cases n <;> simp [D.okn]
theorem okn_str {n : Nat} {x : Str} (h : PyData.strOk x = true) : D.okn n (.str x) = true := by cases n <;> simp [D.okn, h]
theorem okn_tup {n : Nat} {ds : List D} : D.okn (n + 1) (.tup ds) = ds.all (D.okn n) := by simp [D.okn]
theorem okn_lst {n : Nat} {ds : List D} : D.okn (n + 1) (.lst ds) = ds.all (D.okn n) := by simp [D.okn]
theorem okn_ints {n : Nat} {xs : List Int} : (xs.map D.int).all (D.okn n) = true := by
  rw [List.all_map, List.all_eq_true]; intro x _; exact okn_int
theorem okn_eI {n : Nat} {xs : List Int} : D.okn (n + 1) (.tup (xs.map D.int)) = true := by rw [okn_tup, okn_ints]
theorem now_int {S : Sto} {i : Int} : S.now (.int i) = .int i := rfl
theorem now_tup {S : Sto} {i : List D} : S.now (.tup i) = .tup i := rfl
theorem now_lst {S : Sto} {i : List D} : S.now (.lst i) = .lst i := rfl
theorem now_str {S : Sto} {i : Str} : S.now (.str i) = .str i := rfl
theorem now_bl {S : Sto} {i : Bool} : S.now (.bl i) = .bl i := rfl
theorem now_non {S : Sto} : S.now .non = .non := rfl
theorem eqD_int {a b : Int} : eqD (.int a) (.int b) = decide (a = b) := by
  unfold eqD
  rw [D.py, D.py, PyData.eqv]
  by_cases h : a = b <;> simp [h]
theorem eqD_refl {d : D} {n : Nat} (h : D.okn n d = true) : eqD d d = true := PySem.SeqAt.eqv_refl _ (D.okn_lay n d h).1
theorem ltD_int {a b : Int} : ltD (.int a) (.int b) = decide (a < b) := by
  unfold ltD; rw [D.py, D.py, dataLt_int]
theorem ltD_ii {a b c d : Int} : ltD (.tup [.int a, .int b]) (.tup [.int c, .int d]) = decide (a < c ∨ (a = c ∧ b < d)) := by
  unfold ltD; simp only [D.py, D.pys]; exact dataLt_ii a b c d
theorem ltD_fst {a c : Int} {x y : D} (hk : alike (D.py x) (D.py y) = true) (h : ltD (.tup [.int a, x]) (.tup [.int c, y]) = false) : c ≤ a := by
  unfold ltD at h
  simp only [D.py, D.pys] at h
  rw [dataLt_pair (by rfl) hk] at h
  have e : PyData.eqv (.int a) (.int c) = decide (a = c) := by
    rw [PyData.eqv]; by_cases h : a = c <;> simp [h]
  rw [e] at h
  by_cases q : a = c
  · omega
  · rw [decide_eq_false q, if_neg Bool.false_ne_true, dataLt_int] at h
    have := of_decide_eq_false h
    omega
theorem leD_int {a b : Int} : leD (.int a) (.int b) = decide (a ≤ b) := by
  unfold leD
  rw [dataLe_eq]
  simp only [D.py, dataLt_int, cond_false]
  by_cases h : a ≤ b <;> simp [h] <;> omega
theorem akin_ints {xs : List Int} : akin (xs.map D.int) := by
  intro d hd e he
  obtain ⟨a, _, rfl⟩ := List.mem_map.mp hd
  obtain ⟨b, _, rfl⟩ := List.mem_map.mp he
  simp only [D.py]
  exact ⟨by rfl, fun h => nomatch h⟩
theorem sortable_ints {xs : List Int} : Sortable ((xs.map D.int).map D.py) := .inr fun d hd => by
  rw [List.map_map] at hd
  obtain ⟨a, _, rfl⟩ := List.mem_map.mp hd
  simp only [Function.comp, D.py]
  exact ⟨nofun, fun xs => nofun⟩
theorem sort_ints {xs : List Int} : (xs.map D.int).mergeSort leD = (xs.mergeSort fun a b => decide (a ≤ b)).map D.int :=
  (sort_maps D.int fun a _ b _ => leD_int.symm).symm
theorem sorted_pair {xs : List Int} : (xs.mergeSort fun a b => decide (a ≤ b)).Pairwise (· ≤ ·) := by
  have := List.pairwise_mergeSort (le := fun a b : Int => decide (a ≤ b)) (fun a b c h1 h2 => by simp at *; omega) (fun a b => by simp; omega) xs
  exact this.imp fun h => by simpa using h
theorem akin_pairs {ps : List (Int × Int)} : akin (ps.map fun p => .tup [.int p.1, .int p.2]) := by
  intro d hd e he
  obtain ⟨a, _, rfl⟩ := List.mem_map.mp hd
  obtain ⟨b, _, rfl⟩ := List.mem_map.mp he
  simp only [D.py, D.pys]
  exact ⟨by rfl, fun h => nomatch h⟩
theorem okn_pairs {n : Nat} {ps : List (Int × Int)} : (ps.map fun p => D.tup [.int p.1, .int p.2]).all (D.okn (n + 1)) = true := by
  rw [List.all_map, List.all_eq_true]; intro x _; simp [okn_tup, okn_int, Function.comp]
theorem alikeAll_ints : ∀ xs ys : List Int, alike (D.py (.tup (xs.map D.int))) (D.py (.tup (ys.map D.int))) = true := by
  intro xs ys
  simp only [D.py, D.pys_eq, List.map_map]
  have e : ∀ l : List Int, l.map (D.py ∘ D.int) = l.map PyData.int := fun l => by
    apply List.map_congr_left; intro a _; simp only [Function.comp, D.py]
  rw [e, e]
  exact alike_ints xs ys
/-! ### the least, the greatest of ints -/
theorem mem_int {xs : List Int} {m : D} (h : m ∈ xs.map D.int) : ∃ a ∈ xs, m = .int a := by
  obtain ⟨a, h1, rfl⟩ := List.mem_map.mp h
  exact ⟨a, h1, rfl⟩

/-! ### looks into the store -/
section
variable {S S' : Sto} {ds : List D} {p : Addr} {d : D}
theorem seq_tup : S.seq (.tup ds) = some ds := rfl
theorem seq_tpx : S.seq (.tpx ds) = some ds := rfl
theorem seq_lst : S.seq (.lst ds) = some ds := rfl
theorem seq_fz : S.seq (.fz ds) = some ds := rfl
theorem seq_ref (h : S p = some (.lst ds)) : S.seq (.ref p) = some ds := by show (match S p with | some (.lst ds) => some ds | _ => none) = _; rw [h]
theorem list_lst : S.list (.lst ds) = some ds := rfl
theorem list_ref (h : S p = some (.lst ds)) : S.list (.ref p) = some ds := by show (match S p with | some (.lst ds) => some ds | _ => none) = _; rw [h]
theorem lsts_lst : S.lsts (.lst ds) = some ds := rfl
theorem lsts_fz : S.lsts (.fz ds) = some ds := rfl
theorem lsts_ref (h : S p = some (.lst ds)) : S.lsts (.ref p) = some ds := by show (match S p with | some (.lst ds) => some ds | _ => none) = _; rw [h]
theorem itOf_tup : S.itOf (.tup ds) = some ⟨ds, fun _ => True⟩ := rfl
theorem itOf_tpx : S.itOf (.tpx ds) = some ⟨ds, fun _ => True⟩ := rfl
theorem itOf_lst : S.itOf (.lst ds) = some ⟨ds, fun _ => True⟩ := rfl
theorem itOf_fz : S.itOf (.fz ds) = some ⟨ds, fun _ => True⟩ := rfl
theorem itOf_ref (h : S p = some (.lst ds)) : S.itOf (.ref p) = some ⟨ds, fun S' => S' p = some (.lst ds)⟩ := by show (match S p with | some (.lst ds) => some _ | _ => none) = _; rw [h]
theorem trk_ref (h : S p = some (.lst ds)) : S.trk (.ref p) = some (p, ds) := by show (match S p with | some (.lst ds) => some _ | _ => none) = _; rw [h]
theorem now_ref (h : S p = some (.lst ds)) : S.now (.ref p) = .lst ds := by show (match S p with | some (.lst ds) => D.lst ds | _ => .ref p) = _; rw [h]
theorem seq_ext (e : Ext S S') (h : S.seq d = some ds) : S'.seq d = some ds := by
  cases d with
  | ref q =>
    have h' : (match S q with | some (.lst ds) => some ds | _ => none) = some ds := h
    split at h'
    · rename_i es he
      rw [seq_ref (e _ _ he)]; exact h'
    · cases h'
  | _ => exact h
theorem Ext.set {T : Sto} {o : MO} (h : Ext T S) (hp : T p = none) : Ext T (S.up p o) := fun q u e => by
  rw [Sto.up_ne (fun z => by subst z; rw [hp] at e; cases e)]; exact h q u e
theorem Ext.none (h : Ext S S') (hp : S' p = none) : S p = none := by
  cases e : S p with
  | none => rfl
  | some o => rw [h p o e] at hp; cases hp
theorem ne_of_in {o : MO} {q : Addr} (h1 : S p = some o) (h2 : S q = none) : p ≠ q := fun z => by subst z; rw [h1] at h2; cases h2
end
theorem isNon_non : D.isNon .non = true := rfl
theorem isNon_int {i : Int} : D.isNon (.int i) = false := rfl
theorem isNon_tup {i : List D} : D.isNon (.tup i) = false := rfl
theorem isNon_lst {i : List D} : D.isNon (.lst i) = false := rfl
theorem isNon_ref {i : Addr} : D.isNon (.ref i) = false := rfl
theorem isNon_str {i : Str} : D.isNon (.str i) = false := rfl
theorem isNon_bl {i : Bool} : D.isNon (.bl i) = false := rfl
section
variable {P : Program} {w : World} {K : PySem.W.Frag} {mg : Str → Option Value} {base : Heap}
theorem fn_def {x : Str} {st : Stmt} {N ps : List Str} {k : Nat} {sp : DSp} {τ : TSD} {f : Addr} {fd : FuncData} (F : FnP K x st f fd) (Sc : FnScope N ps (defScope st)) (len : ∀ ds S Q, sp ds S Q → ds.length = ps.length)
    (hbody : ∀ (f : Addr) (cdv : Value) (A : Around) (outer : List Env) (s : Shared) (H : Hp) (E : XK), Room k (A.deeper (envOfC x (defScope st) s.heap.objs.size f cdv)) →
      DSs (cxOf CX0 P w K mg base N x (defScope st) f cdv A outer s H E).nox (defBody st) τ) (hq : ∀ ds S Q, sp ds S Q → τ { nx := fun _ S' => FzQ Q .non S', rt := FzQ Q } (startD N ds) S) : FnOk P w K mg base CX0 (k + 1) f fd ps (LSp K sp) :=
  fnD F Sc len fun cdv A outer s H E hr => ⟨τ, PSs.nox (hbody f cdv A outer s H E hr), hq⟩
/-- the script, at the law's call -/
theorem script_rd {H : Hp} {a : Addr} {ns : List Int} (hO : Only H) (h : SqL K H a (ns.map V.int)) : RDs K (fun _ => none) H [.fz (ns.map D.int)] [.ref a] := by
  refine RDs.cons ?_ (RDs.nil.mpr rfl)
  rw [RD]
  refine ⟨a, ns.map V.int, rfl, ?_, ints_rds ns⟩
  rcases h with (h | ⟨o, h⟩) | h
  · rcases hO a with z | ⟨o, xs, z⟩
    · rw [z] at h; cases h
    · rw [z] at h; cases h
  · exact .inl ⟨o, h⟩
  · exact .inr h
theorem rs_empty {H : Hp} : RS K (fun _ => none) H := fun p mo h => by cases h
end
end PL
/-! tuples whose object is known, their methods; more methods of lists; len(set(..)); a, b, c = x, y, z -/
namespace PL
open PySem PySem.Spec PySem.W PyProof.Rows L2
section
variable {X : Cx} {e : Expr} {δ : TED} {p p2 q pos : Pos} {es : List Expr} {α : TAD}
/-- tuple(e), e a list: the new tuple's object is known -/
def dTupX (δ : TED) : TED := fun ρ S Q => δ ρ S fun x S1 => match S1.lsts x with
  | some ds => Q (.tpx ds) S1
  | none => False
theorem newX_ok {K : PySem.W.Frag} {S : Sto} {H : Hp} {ds : List D} {vs : List V} {Qd : QD} {Q : VK} {o : Obj} (rs : RS K S H) (rd : RDs K S H ds vs) (n : Qd (.tpx ds) S) (k : Aft K S H Qd Q) (ho : o.dict = none) (p : Addr) (hp : H p = none) : Q (.ref p) (upd H p (.frz o (.tup vs))) := by
  have g : Go K S H S (upd H p (.frz o (.tup vs))) := Go.fresh rs hp
  refine k _ _ _ _ n g ?_
  rw [RD]
  exact ⟨p, o, vs, rfl, upd_same, ho, rd.tp g.tp⟩
theorem de_tupX (hm : X.mg "tuple" = none) (ha : DE X e δ) (hg : Gl X "tuple" := by rfl) (na : starEach [e] X.env = (false, eval e X.env) :: starEach [] X.env := by rfl) : DE X (.Call (.Name "tuple" p) [e] [] pos) (dTupX δ) := by
  refine peW (t := fun σ H Q => LE X.K δ σ H fun x H1 => ∃ a xs, x = .ref a ∧ SqL X.K H1 a xs ∧ ∀ p o, o.dict = none → H1 p = none → Q (.ref p) (upd H1 p (.frz o (.tup xs)))) ⟨fun pins s σ H Q I h => ?_⟩ fun σ H Q ⟨ρ, S, Qd, re, rs, q, k⟩ => ?_
  · refine Call_ (ld_blt I hg hm boot_tuple (PyProof.Rows.callWith_type1 (one_arg ha I h (fun v s2 x H2 I2 r q => ?_) na) na))
    obtain ⟨a, xs, rfl, hs, q⟩ := q
    obtain rfl : v = .ref a := r
    obtain ⟨its, rv, pl, hz⟩ := I2.list hs
    refine call_tuple_list pl.isList (fun h' hk => ?_) (by rw [List.size_toArray, ← rv.length]; exact hz)
    have I1 : Inv X pins σ H2 { s2 with heap := h' } := I2.kept (t' := s2.toks) hk
    have e1 : (h'.push { cls := .type "tuple", data := .seq its.toArray }).get? h'.objs.size = some ({ cls := .type "tuple", data := .seq its.toArray } : Obj) := Heap.get?_push_size _ rfl
    have I3 : Inv X pins σ (upd H2 h'.objs.size (.frz { cls := .type "tuple", data := .seq its.toArray } (.tup xs))) { s2 with heap := h'.push { cls := .type "tuple", data := .seq its.toArray } } :=
      I1.laid (t' := s2.toks) (fun b o e => Heap.get?_push_of_some _ e) (Nat.le_refl _) ⟨e1, hz, its, rv, IsTup.new _ _⟩
    exact ⟨.ref h'.objs.size, _, I3, rfl, q _ _ rfl (I1.hok.fresh (Nat.le_refl _))⟩
  · refine ⟨ρ, S, _, re, rs, q, fun x S1 v H1 q1 g1 r1 => ?_⟩
    try dsimp only at q1
    split at q1
    · rename_i ds hd
      obtain ⟨a, vs, rfl, t1, s1⟩ := lsts_at hd r1 g1.rs
      exact ⟨a, vs, rfl, t1, fun p o ho hp => newX_ok g1.rs s1 q1 (k.go g1) ho p hp⟩
    · exact q1.elim
/-- a method of such a tuple -/
def dBMX (o : RMD) (δ : TED) (α : TAD) : TED := fun ρ S Q => δ ρ S fun x S1 => (∃ ds, x = .tpx ds) ∧ α ρ S1 fun xs S2 => o x xs S2 Q
theorem de_bmX {o : RMD} {name : Str} {id : String} {apos cpos : Pos} {ob : Expr} (pa : PlainAttrs "tuple") (slot : Slot "tuple" name id) (hty : typeOf (.builtin id) = pure (.type "method_descriptor")) (hm : MtD X id o) (ho : DE X ob δ) (ha : DA X (e :: es) α)
    (hbase : attributeBase ob name X.env (eval ob X.env) = eval ob X.env := by rfl)
    (hfew : ((backTo cpos (starEach (e :: es) X.env)).all (fun x => !x.1) && (backToKw cpos (keywordEach [] X.env)).all (fun x => x.1.isSome)
      && decide ((e :: es).length + ([] : List Keyword).length + (if ([] : List Keyword).isEmpty then 0 else 1) < 30)) = true := by rfl)
    (hline : (apos.endLine == cpos.line) = true := by rfl) (hs : starEach (e :: es) X.env = (false, eval e X.env) :: starEach es X.env := by rfl) (hplain : (backTo cpos (starEach es X.env)).any (·.1) = false := by rfl) :
    DE X (.Call (.Attribute ob name apos) (e :: es) [] cpos) (dBMX o δ α) := by
  refine peW (t := fun σ H Q => LE X.K δ σ H fun x H1 => (∃ a oo vs, x = .ref a ∧ H1 a = some (.frz oo (.tup vs)) ∧ oo.dict = none) ∧ LA X.K α σ H1 fun xs H2 => LfM X.K o x xs H2 Q) ⟨fun pins s σ H Q I h => ?_⟩ fun σ H Q hh => ?_
  · refine wpAny_Call_method_late hbase hfew hline rfl (thn (ho.run pins s σ H _ I h) fun v s1 ⟨x, H1, I1, r1, ⟨a, oo, vs, ex, hx, hd⟩, q1⟩ => ?_)
    subst ex
    obtain rfl : v = .ref a := r1
    obtain ⟨h1, _, _, _, _, h2, h3, _⟩ := I1.hok a _ hx
    rw [h1] at h2
    have h4 := Option.some.inj h2
    subst h4
    refine ⟨"tuple", id, pa, slot, hty, ⟨_, h1, h3⟩, fun b eb => ?_, ?_⟩
    · cases eb
      exact ⟨_, h1, hd⟩
    have hA := ha.run cpos pins s1 σ H1 _ I1 q1
    rw [hs] at hA ⊢
    refine Calls.callWith_builtin (by show (false || (backTo cpos (starEach es X.env)).any (·.1)) = false; rw [hplain] <;> rfl) (Calls.evalArgs_plain ?_)
    exact thn hA fun us s2 ⟨vs, H2, I2, r2, q2⟩ => hm pins s2 σ H2 (.ref a) vs _ us Q I2 rfl r2 q2
  · obtain ⟨ρ, S, Qd, re, rs, q, k⟩ := hh
    refine ⟨ρ, S, _, re, rs, q, fun x S1 v H1 q1 g1 r1 => ?_⟩
    obtain ⟨⟨ds, rfl⟩, q1⟩ := q1
    have r1' := r1
    rw [RD] at r1'
    obtain ⟨a, oo, vs, e1, e2, e3, e4⟩ := r1'
    refine ⟨⟨a, oo, vs, e1, e2, e3⟩, ρ, S1, _, re.tp g1.tp, g1.rs, q1, fun xs S2 ws H2 q2 g2 r2 => ?_⟩
    exact ⟨_, xs, S2, Qd, r1.tp g2.tp, r2, g2.rs, q2, k.go (g1.trans g2)⟩
end

section
variable {X : Cx}
/-- the first place of an int -/
def firstAt (ns : List Int) (z : Int) (j : Nat) : Prop := ns[j]? = some z ∧ ∀ m, m < j → ns[m]? ≠ some z
theorem flat_ints (ns : List Int) : (ns.map V.int).all flatV = true := by
  rw [List.all_map]
  exact List.all_eq_true.mpr fun _ _ => rfl
theorem tup_index_ints : MtR X "tuple.index" (fun x xs H Q => ∃ p, ∃ ys : List Int, ∃ z j, x = .ref p ∧ xs = [.int z] ∧ SqT X.K H p (ys.map V.int) ∧ firstAt ys z j ∧ Q (.int (j : Nat)) H) := by
  intro pins s σ H x xs v us Q I rx rs h
  obtain ⟨p, ys, z, j, rfl, rfl, hq, ⟨hy, hno⟩, q⟩ := h
  cases rx
  obtain ⟨u, rfl, t, rfl⟩ := vals1 rs
  obtain ⟨its, r, pl, hz⟩ := I.tuple hq
  obtain ⟨⟨cls, dd, dt, sl⟩, ho, hc, n, hd⟩ := pl
  simp only at hc hd
  subst hc
  subst hd
  have hl : its.toArray.size = ys.length := by rw [List.size_toArray, ← r.length, List.length_map]
  have hj : j < its.toArray.size := by rw [hl]; exact (List.getElem?_eq_some_iff.mp hy).1
  have at' : ∀ (m : Nat) (hm : m < its.toArray.size), ∃ y t', ys[m]? = some y ∧ its.toArray[m] = Value.int y t' := fun m hm => by
    have hm' : m < ys.length := by rw [← hl]; exact hm
    obtain ⟨w, hw, t', hw'⟩ := r.get (i := m) (x := .int ys[m]) (by simp [hm'])
    refine ⟨ys[m], t', List.getElem?_eq_getElem hm', ?_⟩
    have e := (List.getElem?_eq_some_iff.mp hw).2
    rw [← hw', ← e]
    simp
  refine call_meets PySem.F.slot_tuple_index ⟨_, ho, rfl⟩ PySem.F.entry_tuple_index (PySem.F.args_tuple_index_2 _ _) (TI.tuple_indexAt p its.toArray n dd sl (.int z t) (eqU (.int z)) j hj ?_ ?_)
    ⟨ho, fun w hw => mem_eqAt (x := .int z) ⟨t, rfl⟩ rfl r (flat_ints ys) w (by simpa using hw), ⟨.int (j : Nat), H, I.tok _, ⟨_, rfl⟩, q⟩⟩
  · obtain ⟨y, t', h1, h2⟩ := at' j hj
    rw [hy] at h1
    cases h1
    rw [h2]
    show (z == z) = true
    exact beq_self_eq_true z
  · intro m hm hmj
    obtain ⟨y, t', h1, h2⟩ := at' m hm
    rw [h2]
    show (y == z) = false
    exact beq_eq_false_iff_ne.mpr fun e => hno m hmj (e ▸ h1)
/-- t.index(z), a tuple of ints; l.index(z), a list of ints -/
def oIndex : RMD := fun d ds S Q => match ds with
  | [.int z] => ∃ ns j, S.seq d = some (ns.map D.int) ∧ firstAt ns z j ∧ Q (.int (j : Nat)) S
  | _ => False
def oIndexL : RMD := fun d ds S Q => match ds with
  | [.int z] => ∃ ns j, S.lsts d = some (ns.map D.int) ∧ firstAt ns z j ∧ Q (.int (j : Nat)) S
  | _ => False
def oIndexT : RMD := fun d ds S Q => match ds with
  | [.int z] => ∃ ns j, d = .tpx (ns.map D.int) ∧ firstAt ns z j ∧ Q (.int (j : Nat)) S
  | _ => False
theorem m_indexT : MtD X "tuple.index" oIndexT := mtD_of tup_index_ints fun d ds x xs S H Qd Q r1 r2 rs q k => by
  unfold oIndexT at q
  split at q
  · obtain ⟨ns, j, rfl, hf, q⟩ := q
    obtain ⟨v, rfl, r3⟩ := r2.one
    rw [RD] at r1
    rw [RD] at r3
    obtain ⟨a, o, vs, rfl, h1, _, h2⟩ := r1
    have e := rds_ints h2
    subst e
    subst r3
    exact ⟨a, ns, _, j, rfl, rfl, .inl (.inr ⟨o, h1⟩), hf, k.here rs q RD.int⟩
  · exact q.elim
theorem m_index : MtD X "list.index" oIndexL := mtD_of mt_index fun d ds x xs S H Qd Q r1 r2 rs q k => by
  unfold oIndexL at q
  split at q
  · obtain ⟨ns, j, hs, ⟨hy, hno⟩, q⟩ := q
    obtain ⟨v, rfl, r3⟩ := r2.one
    obtain ⟨a, vs, rfl, h1, h2⟩ := lsts_at hs r1 rs
    have e := rds_ints h2
    subst e
    rw [RD] at r3
    subst r3
    refine ⟨a, ns.map V.int, _, j, _, rfl, rfl, h1, rfl, flat_ints ns, by rw [List.getElem?_map, hy]; rfl, by unfold eqV; exact beq_self_eq_true _, fun m z' hm hz' => ?_, k.here rs q RD.int⟩
    rw [List.getElem?_map] at hz'
    cases e : ns[m]? with
    | none => rw [e] at hz'; cases hz'
    | some y =>
      rw [e] at hz'
      cases hz'
      show (y == _) = false
      exact beq_eq_false_iff_ne.mpr fun z => hno m hm (z ▸ e)
  · exact q.elim
/-- xs.insert(i, y); xs.remove(k) of ints -/
def oInsert : RMD := fun d ds S Q => match S.trk d, ds with
  | some (p, es), [.int i, x] => (es.length < sizeLine ∧ 0 ≤ i ∧ i < 2 ^ 63) ∧ Q .non (S.up p (.lst (es.take i.toNat ++ [x] ++ es.drop i.toNat)))
  | _, _ => False
theorem m_insert : MtD X "list.insert" oInsert := mtD_of mt_insert fun d ds x xs S H Qd Q r1 r2 rs q k => by
  unfold oInsert at q
  split at q
  · rename_i y p es i z ht
    obtain ⟨rfl, hs⟩ := trk_is ht
    obtain ⟨v, w, rfl, r3, r4⟩ := r2.two
    obtain ⟨vs, h1, h2⟩ := rs p _ hs
    rw [RD] at r1
    rw [RD] at r3
    subst r3
    have g := Go.wrote (mo' := .lst (es.take i.toNat ++ [z] ++ es.drop i.toNat)) rs hs fun S' H' tp e => ⟨_, e, (((h2.tp tp).take i.toNat).snoc (r4.tp tp)).append ((h2.tp tp).drop i.toNat)⟩
    exact ⟨p, vs, i, w, r1, rfl, h1, by rw [h2.len]; exact q.1.1, q.1.2.1, q.1.2.2, k _ _ _ _ q.2 g RD.non⟩
  · exact q.elim
def oRemove : RMD := fun d ds S Q => match S.trk d, ds with
  | some (p, es), [.int z] => ∃ ns j, es = ns.map D.int ∧ firstAt ns z j ∧ Q .non (S.up p (.lst ((ns.eraseIdx j).map D.int)))
  | _, _ => False
theorem m_remove : MtD X "list.remove" oRemove := mtM_of mt_remove fun d ds x xs S H Qd Q r1 r2 rs q k => by
  unfold oRemove at q
  split at q
  · rename_i y p es z ht
    obtain ⟨ns, j, rfl, ⟨hy, hno⟩, q⟩ := q
    obtain ⟨rfl, hs⟩ := trk_is ht
    obtain ⟨v, rfl, r3⟩ := r2.one
    obtain ⟨vs, h1, h2⟩ := rs p _ hs
    have e := rds_ints h2
    subst e
    rw [RD] at r1
    rw [RD] at r3
    subst r3
    have g := Go.wrote (mo' := .lst ((ns.eraseIdx j).map D.int)) rs hs fun S' H' tp e => ⟨_, e, ints_rds _⟩
    exact ⟨p, ns, z, j, r1, rfl, h1, hy, hno, k _ _ _ _ q g RD.non⟩
  · exact q.elim
/-! ### len(set(x)), distinct ints -/
variable {e : Expr} {δ : TED} {p p2 q pos : Pos}
def dLenSet (δ : TED) : TED := fun ρ S Q => δ ρ S fun x S1 => ∃ ns : List Int, S1.seq x = some (ns.map D.int) ∧ ns.Nodup ∧ ns.length ≤ 2000 ∧ Q (.int (ns.length : Nat)) S1
theorem set_size {w : World} {h : Heap} {a : Addr} {ns : List Int} {c : Nat} (R : SetR w h a (fun j => decide (j ∈ ns)) c) (hn : ns.Nodup) : c = ns.length := by
  obtain ⟨o, es, ep, t, ho, hex, hd, hg, hnd, hmem, hb, hf, hsz, _⟩ := R
  have hp : (es.toList.map keyOf).Perm ns := (List.perm_ext_iff_of_nodup hnd hn).mpr fun k => by
    rw [← hmem k]; simp
  have := hp.length_eq
  rw [List.length_map, Array.length_toList, hsz] at this
  exact this
theorem de_lenSet (hm : X.mg "len" = none) (hm2 : X.mg "set" = none) (ha : DE X e δ) (hg : Gl X "len" := by rfl) (hg2 : Gl X "set" := by rfl) (hc : X.calm = true := by rfl) (na : starEach [e] X.env = (false, eval e X.env) :: starEach [] X.env := by rfl) :
    DE X (.Call (.Name "len" p) [.Call (.Name "set" p2) [e] [] q] [] pos) (dLenSet δ) := by
  refine peW (t := fun σ H Q => LE X.K δ σ H fun x H1 => ∃ (l : Addr) (ns : List Int), x = .ref l ∧ (SqL X.K H1 l (ns.map V.int) ∨ SqT X.K H1 l (ns.map V.int)) ∧ ns.Nodup ∧ ns.length ≤ 2000 ∧ Q (.int (ns.length : Nat)) H1) ⟨fun pins s σ H Q I h => ?_⟩ fun σ H Q ⟨ρ, S, Qd, re, rs, q, k⟩ => ?_
  · refine Call_ (ld_blt I hg hm PySem.boot_len ?_)
    refine PyProof.Rows.callWith_builtin1 (PyProof.Rows.args_cons ?_ rfl) rfl rfl
    refine Call_ (ld_blt I hg2 hm2 PyProof.Rows.boot_set ?_)
    refine PyProof.Rows.callWith_type1 (PyProof.Rows.args_cons (thn (ha.run pins s σ H _ I h) fun v s1 ⟨x, H1, I1, r1, q1⟩ => PyProof.Rows.args_nil ?_) na) na rfl
    obtain ⟨l, ns, rfl, hq, hnd, hl, q1⟩ := q1
    cases r1
    rcases hq with hq | hq
    · obtain ⟨its, r, pl, hz⟩ := I1.list hq
      have hlen : its.toArray.size = ns.length := by rw [List.size_toArray, ← r.length, List.length_map]
      refine call_set_list (I1.ok.hd hc) pl.isList (ns := ns) (by simpa using r.ints) (by rw [hlen]; unfold scanBound; omega) fun h' tk hS hk => ?_
      refine PyProof.Rows.args_nil ?_
      rw [hlen, RZ.firstMet_nodup hnd ns.length (Nat.le_refl _), List.take_length] at hS
      obtain ⟨o, es, ep, t, ho, hex, hd, _, _, _, hf, hn⟩ := hS
      have I2 : Inv X pins σ H1 { s1 with heap := h', toks := tk } := I1.kept fun b o e => hk b o (Heap.lt_size e) e
      exact call_len_set ho hex hd hf (by rw [hn] <;> omega) ⟨.int ns.length, H1, I2.tok _, ⟨_, by rw [hn]⟩, q1⟩
    · obtain ⟨its, r, pl, hz⟩ := I1.tuple hq
      refine call_set_tupI ns (I1.ok.hd hc) (show s1.heap.IsTuple l its.toArray from pl) (by simpa using r.ints) (by unfold scanBound; omega) fun h' tk c hS hcle hk => ?_
      refine PyProof.Rows.args_nil ?_
      have hcn := set_size hS hnd
      obtain ⟨o, es, ep, t, ho, hex, hd, _, _, _, hb, hf, hn, _⟩ := hS
      have I2 : Inv X pins σ H1 { s1 with heap := h', toks := tk } := I1.kept hk
      exact call_len_set ho hex hd hf (by rw [hn] <;> omega) ⟨.int ns.length, H1, I2.tok _, ⟨_, by rw [hn, hcn]⟩, q1⟩
  · refine ⟨ρ, S, _, re, rs, q, fun x S1 v H1 q1 g1 r1 => ?_⟩
    obtain ⟨ns, hs, hnd, hl, q1⟩ := q1
    obtain ⟨a, vs, rfl, t1, s1⟩ := seq_at hs r1 g1.rs
    rw [rds_ints s1] at t1
    exact ⟨a, ns, rfl, t1, hnd, hl, (k.go g1).here g1.rs q1 RD.int⟩
/-! ### a, b, c = x, y, z -/
variable {a b c : Expr} {α : TAD}
theorem RDs.three {K : PySem.W.Frag} {S : Sto} {H : Hp} {d e f : D} {vs : List V} (h : RDs K S H [d, e, f] vs) : ∃ u v w, vs = [u, v, w] ∧ RD K S H d u ∧ RD K S H e v ∧ RD K S H f w := by
  rw [RDs] at h
  obtain ⟨v, r, rfl, h1, h2⟩ := h
  obtain ⟨u, w, rfl, h3, h4⟩ := h2.two
  exact ⟨v, u, w, rfl, h1, h3, h4⟩
theorem ds_par3 (i j l : Nat) {x y z : Str} {px py pz pt : Pos} {kt k2 pt2} (hN : X.N.Nodup) (ha : DA X [a, b, c] α) (hc : X.calm = true := by rfl) (hi : X.N[i]? = some x := by rfl) (hj : X.N[j]? = some y := by rfl) (hl : X.N[l]? = some z := by rfl) (hij : i ≠ j := by decide) (hil : i ≠ l := by decide) (hjl : j ≠ l := by decide)
    (hx : X.env.scope.names.lookup x = some .local := by rfl) (hy : X.env.scope.names.lookup y = some .local := by rfl) (hz : X.env.scope.names.lookup z = some .local := by rfl)
    (hw : swappedStores [.Tuple [.Name x px, .Name y py, .Name z pz] kt pt] (.Tuple [a, b, c] k2 pt2) X.env = pure (some [x, y, z]) := by rfl)
    (hs : swapsWithSole [.Tuple [.Name x px, .Name y py, .Name z pz] kt pt] (.Tuple [a, b, c] k2 pt2) pos.line X.env = pure false := by rfl) :
    DS X (.Assign [.Tuple [.Name x px, .Name y py, .Name z pz] kt pt] (.Tuple [a, b, c] k2 pt2) pos) (dPar3 i j l α) := psW (ps_par3 hc hN hi hj hl hij hil hjl hx hy hz ha hw hs) fun E σ H ⟨ρ, S, De, re, rs, q, k⟩ => by
  refine ⟨ρ, S, _, re, rs, q, fun ds S1 vs H1 q1 g1 r1 => ?_⟩
  try dsimp only at q1
  split at q1
  · obtain ⟨u, v, w, rfl, r2, r3, r4⟩ := r1.three
    exact ⟨u, v, w, rfl, k.nx _ _ _ _ q1 g1 ((((re.tp g1.tp).set i r2).set j r3).set l r4)⟩
  · exact q1.elim
/-! ### calls: a tuple whose object is known is a tuple -/
inductive Wks : List D → List D → Prop where
  | nil : Wks [] []
  | same {d : D} {ds es : List D} : Wks ds es → Wks (d :: ds) (d :: es)
  | tpx {xs ds es : List D} : Wks ds es → Wks (.tpx xs :: ds) (.tup xs :: es)
theorem Wks.rds {K : PySem.W.Frag} {S : Sto} {H : Hp} : ∀ {ds es : List D} {vs : List V}, Wks ds es → RDs K S H ds vs → RDs K S H es vs
  | _, _, _, .nil, h => h
  | _, _, vs, .same w, h => by
    rw [RDs] at h ⊢
    obtain ⟨v, r, e, h1, h2⟩ := h
    exact ⟨v, r, e, h1, w.rds h2⟩
  | _, _, vs, .tpx w, h => by
    rw [RDs] at h ⊢
    obtain ⟨v, r, e, h1, h2⟩ := h
    refine ⟨v, r, e, ?_, w.rds h2⟩
    rw [RD] at h1
    obtain ⟨a, o, us, e1, e2, _, e3⟩ := h1
    rw [RD]
    exact ⟨a, us, e1, .inl (.inr ⟨o, e2⟩), e3⟩
/-- a promise that takes such tuples too -/
def spW (sp : DSp) : DSp := fun ds S Q => ∃ es, Wks ds es ∧ sp es S Q
theorem lsp_W {K : PySem.W.Frag} {sp : DSp} {vs : List V} {H : Hp} {Q : VK} {E : XK} (h : LSp K (spW sp) vs H Q E) : LSp K sp vs H Q E := by
  obtain ⟨ds, S, Qd, r, rs, ⟨es, w, q⟩, k⟩ := h
  exact ⟨es, S, Qd, w.rds r, rs, q, k⟩
theorem Has.weak {P : Program} {w : World} {K : PySem.W.Frag} {mg : Str → Option Value} {base : Heap} {k : Nat} {x : Str} {ps : List Str} {sp : DSp} (h : Has P w K mg base k x ps sp) : Has P w K mg base k x ps (spW sp) := by
  obtain ⟨f, fd, F, r⟩ := h
  refine ⟨f, fd, ?_, r⟩
  exact F.imp fun vs H Q E h => lsp_W h
end
end PL
/-! plain facts for the laws: draws, frames, blocks -/
namespace PL
open PySem PySem.Spec PySem.W PyProof.Rows L2
abbrev DeN (Q : QD) : EndsD := { nx := fun _ S' => FzQ Q .non S', rt := FzQ Q }
def eI (xs : List Int) : D := .tup (xs.map .int)
theorem cut_tail (r : List Int) : PL.cutD (r.map D.int) (some 1) none = r.tail.map D.int := by
  unfold PL.cutD
  cases r with
  | nil => rfl
  | cons x r =>
    have h1 : HT.sIx ((x :: r).map D.int).length 0 (some 1) = 1 := by simp [HT.sIx]
    have h2 : HT.sIx ((x :: r).map D.int).length ((x :: r).map D.int).length none = ((x :: r).map D.int).length := rfl
    rw [h1, h2]
    simp [List.take_of_length_le]
theorem pair_le : ∀ {r : List Int} {p : Int × Int}, r.Pairwise (· ≤ ·) → p ∈ List.zip r r.tail → p.1 ≤ p.2
  | [], p, _, h => by simp at h
  | [x], p, _, h => by simp at h
  | x :: y :: r, p, o, h => by
    rw [List.tail_cons, List.zip_cons_cons] at h
    rcases List.mem_cons.mp h with rfl | h
    · exact (List.pairwise_cons.mp o).1 y (List.mem_cons_self ..)
    · exact pair_le (List.pairwise_cons.mp o).2 h
theorem small {n : Nat} (h : n ≤ 1000000) : n ≤ sizeLine := by rw [sizeLine_eq]; omega
theorem nn_sum : ∀ {c : List Int}, (∀ x ∈ c, 0 ≤ x) → 0 ≤ c.sum ∧ ∀ x ∈ c, x ≤ c.sum
  | [], _ => ⟨by simp, by simp⟩
  | y :: c, h => by
    obtain ⟨h1, h2⟩ := nn_sum (c := c) fun x hx => h x (List.mem_cons_of_mem _ hx)
    have := h y List.mem_cons_self
    rw [List.sum_cons]
    refine ⟨by omega, fun x hx => ?_⟩
    rcases List.mem_cons.mp hx with rfl | hx
    · omega
    · have := h2 x hx; omega
def cA (c : List Int) (i : Nat) : Int := c.getD i 0
theorem cA_mem {c : List Int} {i : Nat} (h : i < c.length) : cA c i ∈ c := by
  unfold cA; rw [List.getD_eq_getElem?_getD, List.getElem?_eq_getElem h]; exact List.getElem_mem h
theorem cA_set_same {c : List Int} {i : Nat} {x : Int} (h : i < c.length) : cA (c.set i x) i = x := by
  unfold cA; rw [List.getD_eq_getElem?_getD, List.getElem?_set_self h]; rfl
theorem cA_set_ne {c : List Int} {i j : Nat} {x : Int} (h : i ≠ j) : cA (c.set i x) j = cA c j := by
  unfold cA; rw [List.getD_eq_getElem?_getD, List.getD_eq_getElem?_getD, List.getElem?_set_ne h]
theorem sum_setA {c : List Int} {i : Nat} {x : Int} (h : i < c.length) : (c.set i x).sum = c.sum - cA c i + x := by
  induction c generalizing i with
  | nil => simp at h
  | cons y c ih =>
    cases i with
    | zero => simp [cA]; omega
    | succ i =>
      rw [List.set_cons_succ, List.sum_cons, List.sum_cons, ih (by simpa using h)]
      have : cA (y :: c) (i + 1) = cA c i := rfl
      rw [this]; omega
theorem sorted_at {r : List Int} (o : r.Pairwise (· ≤ ·)) {a b : Nat} (h : a ≤ b) (hb : b < r.length) : r.getD a 0 ≤ r.getD b 0 := by
  rw [List.getD_eq_getElem?_getD, List.getD_eq_getElem?_getD, List.getElem?_eq_getElem hb, List.getElem?_eq_getElem (by omega)]
  show r[a] ≤ r[b]
  by_cases e : a = b
  · subst e; exact Int.le_refl _
  · exact List.pairwise_iff_getElem.mp o a b (by omega) hb (by omega)
theorem rep_zero (n : Nat) : (List.replicate n [D.int 0]).flatten = (List.replicate n (0 : Int)).map D.int := by
  induction n with
  | zero => rfl
  | succ n ih => rw [List.replicate_succ, List.replicate_succ, List.flatten_cons, List.map_cons, ih]; rfl
theorem drop_at {α : Type} {l : List α} {k : Nat} {x : α} {xs : List α} (h : x :: xs = l.drop k) : ∃ hk : k < l.length, x = l[k] ∧ xs = l.drop (k + 1) := by
  have hk : k < l.length := by
    have := congrArg List.length h
    rw [List.length_cons, List.length_drop] at this
    omega
  rw [List.drop_eq_getElem_cons hk] at h
  obtain ⟨h1, h2⟩ := List.cons.inj h
  exact ⟨hk, h1, h2⟩
theorem drop_nil {α : Type} {l : List α} {k : Nat} (h : [] = l.drop k) : l.length ≤ k := by
  have := congrArg List.length h
  rw [List.length_nil, List.length_drop] at this
  omega
def PotO (b : Nat) (o : MO) : Prop := ∃ own small c : Int, o = .lst [.int own, .int small, .int c] ∧ 0 ≤ own ∧ 0 ≤ small ∧ small < 2 ^ 62 ∧ 0 ≤ c ∧ c ≤ b
theorem PotO.mono {b b' : Nat} {o : MO} (h : PotO b o) (hb : b ≤ b') : PotO b' o := by
  obtain ⟨own, small, c, e, h1, h2, h3, h4, h5⟩ := h
  exact ⟨own, small, c, e, h1, h2, h3, h4, by omega⟩
theorem cmul_small {a b : Int} {n m : Nat} (h1 : a.natAbs ≤ n) (h2 : b.natAbs ≤ m) (hn : n < 2 ^ 1000) (hm : m < 2 ^ 1000) : CMul' a b := ⟨Nat.lt_of_le_of_lt h1 hn, Nat.lt_of_le_of_lt h2 hm⟩
theorem cut_one (ns : List Int) : PL.cutD (ns.map D.int) none (some 1) = (ns.take 1).map D.int := by
  unfold PL.cutD
  cases ns with
  | nil => rfl
  | cons x ns =>
    have h1 : HT.sIx ((x :: ns).map D.int).length 0 none = 0 := rfl
    have h2 : HT.sIx ((x :: ns).map D.int).length ((x :: ns).map D.int).length (some 1) = 1 := by simp [HT.sIx]
    rw [h1, h2]; rfl
theorem cut_take (r : List Int) (k : Int) (h0 : 0 ≤ k) : PL.cutD (r.map D.int) none (some k) = (r.take k.toNat).map D.int := by
  unfold PL.cutD
  have h1 : HT.sIx (r.map D.int).length 0 none = 0 := rfl
  have h2 : HT.sIx (r.map D.int).length (r.map D.int).length (some k) = min k.toNat r.length := by
    unfold HT.sIx; simp only [if_neg (Int.not_lt.mpr h0), List.length_map]
  rw [h1, h2, List.drop_zero, Nat.sub_zero, List.map_take]
  rw [← List.length_map (as := r) (f := D.int), ← List.take_eq_take_min]
theorem take_next {r : List Int} {n : Nat} (h : n < r.length) : (r.take (n + 1)).sum = (r.take n).sum + r.getD n 0 := by
  rw [List.take_succ, List.getElem?_eq_getElem h, List.sum_append, List.getD_eq_getElem?_getD, List.getElem?_eq_getElem h]; simp
theorem eqD_nil {ds : List D} : eqD (.lst ds) (.lst []) = ds.isEmpty := by
  unfold eqD
  cases ds with
  | nil => simp [D.py, D.pys, PyData.eqv, PyData.eqvAll]
  | cons d ds => simp [D.py, D.pys, PyData.eqv, PyData.eqvAll]

theorem atI_head {α : Type} {l : List α} {x : α} (h : l.head? = some x) : atI l 0 = some x := by
  cases l with
  | nil => cases h
  | cons a l =>
    have e : ixN (a :: l).length 0 = some 0 := ixN_nn (by decide) (by rw [List.length_cons]; omega)
    unfold atI
    rw [e]
    exact h
theorem pair_gt : ∀ {r : List Int} {p : Int × Int}, r.Pairwise (· > ·) → p ∈ List.zip r r.tail → p.2 < p.1
  | [], p, _, h => by simp at h
  | [x], p, _, h => by simp at h
  | x :: y :: r, p, o, h => by
    rw [List.tail_cons, List.zip_cons_cons] at h
    rcases List.mem_cons.mp h with rfl | h
    · exact (List.pairwise_cons.mp o).1 y (List.mem_cons_self ..)
    · exact pair_gt (List.pairwise_cons.mp o).2 h
/-- all but p as it was -/
def Fr (p : Addr) (S S' : Sto) : Prop := ∀ q u, q ≠ p → S q = some u → S' q = some u
theorem Fr.refl {p : Addr} {S : Sto} : Fr p S S := fun _ _ _ h => h
theorem Fr.trans {p : Addr} {S S1 S2 : Sto} (a : Fr p S S1) (b : Fr p S1 S2) : Fr p S S2 := fun q u n h => b q u n (a q u n h)
theorem Fr.new {p x : Addr} {S S' : Sto} {o : MO} (a : Fr p S S') (h : S' x = none) : Fr p S (S'.up x o) := fun q u n e => by
  have := a q u n e
  rw [Sto.up_ne (fun z => by subst z; rw [h] at this; cases this)]; exact this
theorem Fr.old {p x : Addr} {S S' : Sto} {o : MO} (a : Fr p S S') (h : S x = none) : Fr p S (S'.up x o) := fun q u n e => by
  rw [Sto.up_ne (fun z => by subst z; rw [h] at e; cases e)]; exact a q u n e
theorem Fr.del {p x : Addr} {S S' : Sto} (a : Fr p S S') (h : S x = none) : Fr p S (S'.del x) := fun q u n e => by
  rw [Sto.del_ne (fun z => by subst z; rw [h] at e; cases e)]; exact a q u n e
theorem Fr.own {p : Addr} {S S' : Sto} {o : MO} (a : Fr p S S') : Fr p S (S'.up p o) := fun q u n e => by
  rw [Sto.up_ne n]; exact a q u n e
theorem Fr.none {p x : Addr} {S S' : Sto} (a : Fr p S S') (hx : x ≠ p) (h : S' x = none) : S x = none := by
  cases e : S x with
  | none => rfl
  | some u => rw [a x u hx e] at h; cases h
/-- draws in a comprehension: [int(take(pot, n)) for _ in range(k)] -/
theorem lc_draws {p : Addr} {n : Int} {b : Nat} {o : MO} {S : Sto} {Q : QD} {ρ0 : DEnv} {γ : TGD} {el : TED} (l : List D) (hS : S p = some o) (hp : PotO b o) (hl : l.length ≤ 1000)
    (f : Int → D) (hγ : ∀ x S' N o0 b0, S' p = some o0 → PotO b0 o0 → b0 ≤ 1000000 → (∀ k o', 0 ≤ k → k < n → PotO (b0 + 1) o' → N (f k) (S'.up p o')) → γ x ρ0 S' fun ρ' S1 => el ρ' S1 N)
    (hb : b ≤ 100000) (q : ∀ (vs : List Int) o' S', vs.length = l.length → (∀ v ∈ vs, 0 ≤ v ∧ v < n) → S' p = some o' → PotO (b + l.length) o' → Fr p S S' → Q (.lst (vs.map f)) S') :
    ∀ Dl, S Dl = none → True ∧ lcD Dl (fun _ => True) ρ0 γ dYes el l [] (S.up Dl (.lst [])) (endL false Dl Q) := by
  have inv := lc_run (r := false) (ρ0 := ρ0) (γ := γ) (t := dYes) (el := el) (it := ⟨l, fun _ => True⟩) (S := S) (Q := Q) (fun xs acc S' => ∃ (vs : List Int) (o' : MO), acc = vs.map f ∧ vs.length + xs.length = l.length ∧ (∀ v ∈ vs, 0 ≤ v ∧ v < n) ∧ S' p = some o' ∧ PotO (b + vs.length) o' ∧ Fr p S S')
    (fun _ => trivial) (small (by show l.length ≤ _; omega)) (fun Dl hD => ⟨[], o, rfl, by simp, by simp, by rw [Sto.up_ne (ne_of_in hS hD)]; exact hS, hp, Fr.refl.new hD⟩) ?_ ?_ ?_
  · exact inv
  · rintro x xs acc S' _ ⟨vs, o', rfl, hlen, hv, hS', hp', hfr⟩ Dl hD hDl N M hN
    have hDp : Dl ≠ p := fun z => by subst z; rw [hD] at hS; cases hS
    simp only [dYes]
    rw [List.length_cons] at hlen
    refine hγ x S' N o' (b + vs.length) hS' hp' (by omega) (fun k o2 h0 h1 h2 => ?_)
    refine hN _ _ (by rw [Sto.up_ne hDp]; exact hDl) (by rw [List.length_map, sizeLine_eq]; omega) ⟨vs ++ [k], o2, by rw [List.map_append]; rfl, by simp; omega, fun v hv' => ?_, ?_, ?_, ?_⟩
    · rcases List.mem_append.mp hv' with z | z
      · exact hv v z
      · rw [List.mem_singleton.mp z]; exact ⟨h0, h1⟩
    · rw [Sto.up_ne (Ne.symm hDp)]; exact Sto.up_same
    · rw [List.length_append]; exact h2
    · exact (hfr.own).old hD
  · rintro x xs acc S' ⟨vs, o', rfl, hlen, _⟩
    rw [List.length_map]
    show _ ≤ l.length
    omega
  · rintro Dl acc S' hD ⟨vs, o', rfl, hlen, hv, hS', hp', hfr⟩ hDl
    have hDp : Dl ≠ p := fun z => by subst z; rw [hD] at hS; cases hS
    rw [List.length_nil, Nat.add_zero] at hlen
    rw [hlen] at hp'
    show Q (.lst _) _
    exact q vs o' _ hlen hv (by rw [Sto.del_ne (Ne.symm hDp)]; exact hS') hp' (hfr.del hD)
theorem seqG {t u : TSD} {De : EndsD} {ρ : DEnv} {S : Sto} (h : ∀ v : TSD, v = u → dSeq t v De ρ S) : dSeq t u De ρ S := h u rfl
theorem forG {ι : TID} {γ : TGD} {τ : TSD} {De : EndsD} {ρ : DEnv} {S : Sto} (h : ∀ v : TSD, v = τ → dFor ι γ v De ρ S) : dFor ι γ τ De ρ S := h τ rfl
theorem rep_map {α : Type} (f : α → D) (x : α) (n : Nat) : (List.replicate n [f x]).flatten = (List.replicate n x).map f := by
  induction n with
  | zero => rfl
  | succ n ih => rw [List.replicate_succ, List.replicate_succ, List.flatten_cons, List.map_cons, ih]; rfl
theorem getD_rev {α : Type} {l : List α} {i : Nat} (d : α) (h : i < l.length) : l.reverse.getD i d = l.getD (l.length - 1 - i) d := by
  rw [List.getD_eq_getElem?_getD, List.getD_eq_getElem?_getD, List.getElem?_reverse h]
end PL
namespace PL
open PySem PySem.Spec PySem.W PyProof.Rows L2
/-! places, orders, sorts by key -/
def nI (i : Nat) : D := .int (i : Int)
theorem nI_map (o : List Nat) : o.map nI = (o.map fun (i : Nat) => (i : Int)).map D.int := by rw [List.map_map]; rfl
def Perm_ (n : Nat) (o : List Nat) : Prop := o.Perm (List.range n)
theorem Perm_.len {n : Nat} {o : List Nat} (h : Perm_ n o) : o.length = n := by have := h.length_eq; rw [List.length_range] at this; exact this
theorem Perm_.lt {n : Nat} {o : List Nat} (h : Perm_ n o) {i : Nat} (hi : i ∈ o) : i < n := List.mem_range.mp (h.mem_iff.mp hi)
theorem Perm_.nd {n : Nat} {o : List Nat} (h : Perm_ n o) : o.Nodup := h.nodup_iff.mpr List.nodup_range
theorem cast_nd {o : List Nat} (h : o.Nodup) : (o.map fun (i : Nat) => (i : Int)).Nodup := by
  refine List.Pairwise.map _ (fun a b hab => ?_) h
  intro z; exact hab (by omega)
theorem a20 {a b : D} : atI [a, b] 0 = some a := rfl
theorem a21 {a b : D} : atI [a, b] 1 = some b := rfl
theorem a30 {a b c : D} : atI [a, b, c] 0 = some a := rfl
theorem a31 {a b c : D} : atI [a, b, c] 1 = some b := rfl
theorem a32 {a b c : D} : atI [a, b, c] 2 = some c := rfl
def eO (o : List Nat) : D := .tup (o.map nI)
def leP (p q : Int × Int) : Bool := decide (p.1 < q.1 ∨ (p.1 = q.1 ∧ p.2 ≤ q.2))
def eP (p : Int × Int) : D := .tup [.int p.1, .int p.2]
theorem leD_P {p q : Int × Int} : leD (eP p) (eP q) = leP p q := by
  unfold leD leP eP
  rw [dataLe_eq]
  simp only [D.py, D.pys, dataLt_ii, cond_false]
  by_cases h : p.1 < q.1 ∨ (p.1 = q.1 ∧ p.2 ≤ q.2)
  · rw [decide_eq_true h, decide_eq_false (by omega)]; rfl
  · rw [decide_eq_false h, decide_eq_true (by omega)]; rfl
theorem sort_pairs {ps : List (Int × Int)} : (ps.map eP).mergeSort leD = (ps.mergeSort leP).map eP := (sort_maps eP fun a _ b _ => leD_P.symm).symm
theorem sortable_pairs {ps : List (Int × Int)} : Sortable ((ps.map eP).map D.py) := .inl fun d hd => by
  rw [List.map_map] at hd
  obtain ⟨a, _, rfl⟩ := List.mem_map.mp hd
  simp only [Function.comp, eP, D.py, D.pys]
  exact ⟨_, _, rfl⟩
def leK (k : Nat → Int) (i j : Nat) : Bool := decide (k i < k j ∨ (k i = k j ∧ i ≤ j))
def sortBy (k : Nat → Int) (n : Nat) : List Nat := (List.range n).mergeSort (leK k)
theorem sortBy_perm (k : Nat → Int) (n : Nat) : Perm_ n (sortBy k n) := List.mergeSort_perm _ _
theorem sortBy_sorted (k : Nat → Int) (n : Nat) : (sortBy k n).Pairwise fun i j => k i < k j ∨ (k i = k j ∧ i ≤ j) := by
  have := List.pairwise_mergeSort (le := leK k) (fun a b c h1 h2 => by simp only [leK, decide_eq_true_eq] at *; omega) (fun a b => by simp only [leK, Bool.or_eq_true, decide_eq_true_eq]; omega) (List.range n)
  exact this.imp fun h => by simpa [leK] using h
theorem sortBy_pairs (k : Nat → Int) (n : Nat) : ((List.range n).map fun i => (k i, (i : Int))).mergeSort leP = (sortBy k n).map fun i => (k i, (i : Int)) := by
  unfold sortBy
  refine (sort_maps (fun i : Nat => (k i, (i : Int))) fun a _ b _ => ?_).symm
  unfold leK leP
  congr 1
  apply propext
  simp only
  omega
def cI (o : List Nat) : List Int := o.map fun (i : Nat) => (i : Int)
theorem nI_c (o : List Nat) : o.map nI = (cI o).map D.int := nI_map o
theorem any_nI {i : Nat} {R : List Nat} : ((R.map nI).any fun z => eqD z (nI i)) = decide (i ∈ R) := by
  induction R with
  | nil => simp
  | cons r R ih =>
    rw [List.map_cons, List.any_cons, ih]
    unfold nI
    rw [eqD_int]
    by_cases q : i = r
    · subst q; simp
    · have h1 : ¬ ((r : Int) = (i : Int)) := by omega
      simp [q, h1]
theorem okn_nI {n : Nat} {o : List Nat} : (o.map nI).all (D.okn n) = true := by rw [nI_c]; exact okn_ints
theorem akin_nI {o : List Nat} : akin (o.map nI) := by rw [nI_c]; exact akin_ints
theorem sortable_nI {o : List Nat} : Sortable ((o.map nI).map D.py) := by rw [nI_c]; exact sortable_ints
def sortN (o : List Nat) : List Nat := o.mergeSort fun a b => decide ((a : Int) ≤ (b : Int))
theorem sortN_perm (o : List Nat) : (sortN o).Perm o := List.mergeSort_perm _ _
theorem sort_nI {o : List Nat} : (o.map nI).mergeSort leD = (sortN o).map nI := by
  unfold sortN
  refine (sort_maps nI fun a _ b _ => ?_).symm
  unfold nI
  exact leD_int.symm
theorem rg_nI (n : Nat) : rgD 0 (n : Int) = (List.range n).map nI := by
  unfold rgD
  rw [show ((n : Int) - 0).toNat = n by omega]
  refine List.map_congr_left fun i _ => ?_
  unfold nI
  rw [Int.zero_add]
theorem cons_erase {α : Type} : ∀ (l : List α) (j : Nat) (h : j < l.length), (l[j] :: l.eraseIdx j).Perm l
  | [], _, h => absurd h (by simp)
  | a :: r, 0, _ => List.Perm.refl _
  | a :: r, j + 1, h => by
    have h2 : j < r.length := by simpa using h
    exact (List.Perm.swap _ _ _).trans ((cons_erase r j h2).cons a)
theorem erase_nI : ∀ (l : List Nat) (j : Nat), (l.map nI).eraseIdx j = (l.eraseIdx j).map nI
  | [], j => by simp
  | a :: r, 0 => by simp
  | a :: r, j + 1 => by
    have ih := erase_nI r j
    simp [ih]
theorem take_at {o : List Nat} {k : Nat} (hk : k < o.length) : o.take (k + 1) = o.take k ++ [o[k]] := by rw [List.take_succ, List.getElem?_eq_getElem hk]; rfl
theorem zip3_map {α β γ : Type} (e1 : α → D) (e2 : β → D) (e3 : γ → D) (xs : List α) (ys : List β) (zs : List γ) : List.zipWith (fun d (e : D × D) => D.tup [d, e.1, e.2]) (xs.map e1) (List.zip (ys.map e2) (zs.map e3)) = (List.zip xs (List.zip ys zs)).map fun p => .tup [e1 p.1, e2 p.2.1, e3 p.2.2] := by
  rw [List.zip_map]
  induction xs generalizing ys zs with
  | nil => simp
  | cons x xs ih =>
    cases ys with
    | nil => simp
    | cons y ys =>
      cases zs with
      | nil => simp
      | cons z zs =>
        rw [List.zip_cons_cons, List.map_cons, List.map_cons, List.zipWith_cons_cons, ih, List.zip_cons_cons, List.map_cons]; rfl
theorem first_nd {F : List Nat} {k a : Nat} (hn : F.Nodup) (h : F[k]? = some a) : firstAt (cI F) ((a : Nat) : Int) k := by
  refine ⟨by unfold cI; rw [List.getElem?_map, h]; rfl, fun m hm z => ?_⟩
  unfold cI at z
  obtain ⟨hk, hke⟩ := List.getElem?_eq_some_iff.mp h
  rw [List.getElem?_map, List.getElem?_eq_getElem (show m < F.length by omega)] at z
  have z2 : ((F[m] : Nat) : Int) = (a : Int) := Option.some.inj z
  have := (List.nodup_iff_pairwise_ne.mp hn)
  have := List.pairwise_iff_getElem.mp this m k (by omega) hk hm
  omega
theorem zip3_mem {α β γ : Type} {xs : List α} {ys : List β} {zs : List γ} {q : α × β × γ} (h : q ∈ List.zip xs (List.zip ys zs)) : ∃ k : Nat, xs[k]? = some q.1 ∧ ys[k]? = some q.2.1 ∧ zs[k]? = some q.2.2 := by
  obtain ⟨k, hk, e⟩ := List.getElem_of_mem h
  refine ⟨k, ?_⟩
  rw [List.getElem_zip] at e
  rw [List.length_zip, List.length_zip] at hk
  subst e
  simp only [List.getElem_zip]
  exact ⟨List.getElem?_eq_getElem (by omega), List.getElem?_eq_getElem (by omega), List.getElem?_eq_getElem (by omega)⟩
theorem eqD_bl {a b : Bool} : eqD (.bl a) (.bl b) = decide (a = b) := by
  unfold eqD
  rw [D.py, D.py, PyData.eqv]
  cases a <;> cases b <;> rfl
theorem cut_to (ds : List D) (k : Int) (h0 : 0 ≤ k) : PL.cutD ds none (some k) = ds.take k.toNat := by
  unfold PL.cutD
  have h1 : HT.sIx ds.length 0 none = 0 := rfl
  have h2 : HT.sIx ds.length ds.length (some k) = min k.toNat ds.length := by
    unfold HT.sIx; simp only [if_neg (Int.not_lt.mpr h0)]
  rw [h1, h2, List.drop_zero, Nat.sub_zero, ← List.take_eq_take_min]
theorem cut_from (ds : List D) (k : Int) (h0 : 0 ≤ k) (hk : k.toNat ≤ ds.length) : PL.cutD ds (some k) none = ds.drop k.toNat := by
  unfold PL.cutD
  have h1 : HT.sIx ds.length 0 (some k) = k.toNat := by
    unfold HT.sIx; simp only [if_neg (Int.not_lt.mpr h0)]; omega
  have h2 : HT.sIx ds.length ds.length none = ds.length := rfl
  rw [h1, h2, List.take_of_length_le (by rw [List.length_drop]; omega)]
end PL
namespace PL
open PySem PySem.Spec PySem.W PyProof.Rows L2
/-! ### lists that go together -/
inductive All2 {α β : Type} (R : α → β → Prop) : List α → List β → Prop
  | nil : All2 R [] []
  | cons {x : α} {y : β} {xs : List α} {ys : List β} : R x y → All2 R xs ys → All2 R (x :: xs) (y :: ys)
theorem All2.snoc {α β : Type} {R : α → β → Prop} {x : α} {y : β} {xs : List α} {ys : List β} (h : All2 R xs ys) (r : R x y) : All2 R (xs ++ [x]) (ys ++ [y]) := by
  induction h with
  | nil => exact .cons r .nil
  | cons r' _ ih => exact .cons r' ih
theorem All2.len {α β : Type} {R : α → β → Prop} {xs : List α} {ys : List β} (h : All2 R xs ys) : ys.length = xs.length := by
  induction h with
  | nil => rfl
  | cons _ _ ih => rw [List.length_cons, List.length_cons, ih]
theorem All2.mem {α β : Type} {R : α → β → Prop} {xs : List α} {ys : List β} (h : All2 R xs ys) : ∀ y ∈ ys, ∃ x ∈ xs, R x y := by
  induction h with
  | nil => intro y hy; cases hy
  | cons r _ ih =>
    intro y hy
    rcases List.mem_cons.mp hy with rfl | hy
    · exact ⟨_, List.mem_cons_self, r⟩
    · obtain ⟨x, hx, hr⟩ := ih y hy
      exact ⟨x, List.mem_cons_of_mem _ hx, hr⟩
theorem All2.at {α β : Type} {R : α → β → Prop} {xs : List α} {ys : List β} (h : All2 R xs ys) : ∀ (i : Nat) (y : β), ys[i]? = some y → ∃ x, xs[i]? = some x ∧ R x y := by
  induction h with
  | nil => intro i y hy; simp at hy
  | cons r _ ih =>
    intro i y hy
    cases i with
    | zero => exact ⟨_, rfl, by rw [← Option.some.inj hy]; exact r⟩
    | succ i => exact ih i y hy
/-- a comprehension that draws c times for each item -/
theorem lc_drawsG {α β : Type} {p : Addr} {c b : Nat} {o : MO} {S : Sto} {Q : QD} {ρ0 : DEnv} {γ : TGD} {el : TED} (l : List α) (enc : α → D) (fb : β → D) (R : α → β → Prop) (hS : S p = some o) (hp : PotO b o) (hl : l.length ≤ 1000) (hc : c ≤ 50)
    (hγ : ∀ x ∈ l, ∀ S' N o0 b0, S' p = some o0 → PotO b0 o0 → b0 ≤ 200000 → (∀ y o', R x y → PotO (b0 + c) o' → N (fb y) (S'.up p o')) → γ (enc x) ρ0 S' fun ρ' S1 => el ρ' S1 N)
    (hb : b ≤ 100000) (q : ∀ (ys : List β) o' S', All2 R l ys → S' p = some o' → PotO (b + c * l.length) o' → Fr p S S' → Q (.lst (ys.map fb)) S') :
    ∀ Dl, S Dl = none → True ∧ lcD Dl (fun _ => True) ρ0 γ dYes el (l.map enc) [] (S.up Dl (.lst [])) (endL false Dl Q) := by
  have inv := lc_run (r := false) (ρ0 := ρ0) (γ := γ) (t := dYes) (el := el) (it := ⟨l.map enc, fun _ => True⟩) (S := S) (Q := Q) (fun xs acc S' => ∃ (ds re : List α) (ys : List β) (o' : MO), xs = re.map enc ∧ ds ++ re = l ∧ acc = ys.map fb ∧ All2 R ds ys ∧ S' p = some o' ∧ PotO (b + c * ys.length) o' ∧ Fr p S S')
    (fun _ => trivial) (small (by show (l.map enc).length ≤ _; rw [List.length_map]; omega)) (fun Dl hD => ⟨[], l, [], o, rfl, rfl, rfl, .nil, by rw [Sto.up_ne (ne_of_in hS hD)]; exact hS, hp, Fr.refl.new hD⟩) ?_ ?_ ?_
  · exact inv
  · rintro x xs acc S' _ ⟨ds, re, ys, o', hx, hdr, rfl, hA, hS', hp', hfr⟩ Dl hD hDl N M hN
    cases re with
    | nil => cases hx
    | cons a re =>
    obtain ⟨rfl, rfl⟩ := List.cons.inj hx
    have hDp : Dl ≠ p := fun z => by subst z; rw [hD] at hS; cases hS
    simp only [dYes]
    have hlen : ys.length + (re.length + 1) = l.length := by rw [hA.len, ← hdr, List.length_append, List.length_cons]
    have hb2 : c * ys.length ≤ 50 * 1000 := Nat.mul_le_mul hc (by omega)
    refine hγ a (by rw [← hdr]; simp) S' N o' _ hS' hp' (by omega) (fun y o2 hr h2 => ?_)
    refine hN _ _ (by rw [Sto.up_ne hDp]; exact hDl) (by rw [List.length_map, sizeLine_eq]; omega) ⟨ds ++ [a], re, ys ++ [y], o2, rfl, by rw [← hdr]; simp, by rw [List.map_append]; rfl, hA.snoc hr, ?_, ?_, ?_⟩
    · rw [Sto.up_ne (Ne.symm hDp)]; exact Sto.up_same
    · rw [List.length_append, List.length_cons, List.length_nil, Nat.mul_add, Nat.mul_one]; exact h2.mono (by omega)
    · exact (hfr.own).old hD
  · rintro x xs acc S' ⟨ds, re, ys, o', hx, hdr, rfl, hA, _⟩
    rw [List.length_map, hA.len, hx, List.length_map]
    show _ ≤ (l.map enc).length
    rw [List.length_map, ← hdr, List.length_append]
    exact Nat.le_refl _
  · rintro Dl acc S' hD ⟨ds, re, ys, o', hx, hdr, rfl, hA, hS', hp', hfr⟩ hDl
    have : re = [] := by cases re with
      | nil => rfl
      | cons a re => cases hx
    subst this
    rw [List.append_nil] at hdr
    subst hdr
    show Q (.lst _) _
    rw [hA.len] at hp'
    have hDp : Dl ≠ p := fun z => by subst z; rw [hD] at hS; cases hS
    exact q ys o' _ hA (by rw [Sto.del_ne (Ne.symm hDp)]; exact hS') hp' (hfr.del hD)
end PL
/-! enumerate over a zip of two -/
namespace PL
open PySem PySem.Spec PySem.W PySem.Calls PyProof.Rows L2
/-- a zip, its tuple free or out -/
def ZSt (h : Heap) (z TI TO : Addr) : Prop := ∃ (f : Value) (b : Bool), (f = .none ∨ ∃ T : Addr, f = rawInt T) ∧
  h.get? z = some { cls := .type "zip", dict := none, data := .fields #[f, .bool b, .bool false, .ref TI, .ref TO], slots := #[] }
section
variable {prog : Program} {w : World} {A : Around} {E : Value → Shared → Prop} {s : Shared} {z TI TO i1 i2 : Addr} {fp1 fp2 : List Addr} {n1 n2 i : Nat} {P1 P2 : Nat → Value → Prop} {St1 St2 : Nat → Heap → Prop} {a1 a2 : Value} {f : Value} {b : Bool}
theorem own_G {Q : Bool → Shared → Prop} (hf : f = .none ∨ ∃ T : Addr, f = rawInt T)
    (hz : s.heap.get? z = some { cls := .type "zip", dict := none, data := .fields #[f, .bool b, .bool false, .ref TI, .ref TO], slots := #[] })
    (h1 : Q true s) (h2 : ∀ h', h'.get? z = some { cls := .type "zip", dict := none, data := .fields #[f, .bool true, .bool false, .ref TI, .ref TO], slots := #[] } → Heap.SameBut z s.heap h' → Q false { s with heap := h' }) :
    wpAny (model prog w) A (Builtin.SmallTypes.ownedTupleIsFree (.ref z)) Q E s := by
  unfold Builtin.SmallTypes.ownedTupleIsFree
  refine wpAny_bind (wpAny_field hz rfl (x := f) rfl ?_)
  rcases hf with rfl | ⟨T, rfl⟩
  · exact wpAny_pure h1
  · show wpAny _ _ (loadIfAlive ((T : Int).toNat) >>= _) _ _ _
    rw [Int.toNat_natCast]
    have al : ∀ {Q' : Option Obj → Shared → Prop}, Q' (s.heap.get? T) s → wpAny (model prog w) A (loadIfAlive T) Q' E s := fun h => fun _ _ _ => h
    refine wpAny_bind (al ?_)
    cases hT : s.heap.get? T with
    | none =>
      simp only [Option.isNone_none, if_true]
      exact wpAny_pure h1
    | some o =>
      simp only [Option.isNone_some, Bool.false_eq_true, if_false]
      refine wpAny_bind (wpAny_field hz rfl (x := .bool b) rfl ?_)
      cases b with
      | true =>
        rw [if_neg (show ¬ ((Value.bool true != Value.bool true) = true) from Bool.false_ne_true)]
        exact wpAny_pure (h2 s.heap hz (Heap.SameBut.refl _ _))
      | false =>
        rw [if_pos (show (Value.bool false != Value.bool true) = true from rfl)]
        exact wpAny_bind (wpAny_setField_rec hz (by simp) fun h₁ hz₁ hs₁ => wpAny_pure (h2 h₁ hz₁ hs₁))
theorem zipG_item {Q : Value → Shared → Prop} (S : ZipSep2 z TI TO i1 i2 fp1 fp2) (D1 : Draws prog w A i1 fp1 n1 P1 St1) (D2 : Draws prog w A i2 fp2 n2 P2 St2)
    (hz : ZSt s.heap z TI TO) (hTI : IsTupOf2 s.heap TI (.ref i1) (.ref i2)) (hTO : IsTupOf2 s.heap TO a1 a2) (st1 : St1 i s.heap) (st2 : St2 i s.heap) (hlt1 : i < n1) (hlt2 : i < n2)
    (hQ : ∀ x1 x2 h' tk, P1 i x1 → P2 i x2 → ZSt h' z TI TO → (∃ b1 b2, IsTupOf2 h' TO b1 b2) → St1 (i + 1) h' → St2 (i + 1) h' → IsTupOf2 h' s.heap.objs.size x1 x2 → h'.objs.size = s.heap.objs.size + 1 →
      (∀ c o, c ≠ z → c ≠ TO → c ≠ i1 → c ≠ i2 → s.heap.get? c = some o → h'.get? c = some o) → Q (.ref s.heap.objs.size) { s with heap := h', toks := tk }) :
    wpAny (model prog w) A (Builtin.«zip.__next__» ⟨[.ref z], []⟩) (fun fin s' => ∃ v, fin = .done (.ret v) ∧ Q v s') E s := by
  obtain ⟨hp, g, d, tk0, os⟩ := s
  obtain ⟨f, b, hf, hz⟩ := hz
  show wpAny _ _ (field (.ref z) 2 >>= _) _ _ _
  refine wpAny_bind (wpAny_field hz rfl (x := .bool false) rfl ?_)
  show wpAny _ _ (field (.ref z) 3 >>= _) _ _ _
  refine wpAny_bind (wpAny_field hz rfl (x := .ref TI) rfl ?_)
  refine wpAny_bind (wpAny_seqItems hTI rfl ?_)
  show wpAny _ _ (Builtin.SmallTypes.ownedTupleIsFree (.ref z) >>= _) _ _ _
  refine wpAny_bind (own_G hf hz ?_ fun h₁ hz₁ hs₁ => ?_)
  · simp only [if_true]
    refine wpAny_bind (wpAny_rule ?_)
    refine wpAny_bind (wpAny_field hz rfl (x := .ref TO) rfl ?_)
    refine wpAny_bind (wpAny_setField_rec hz (by simp) fun g0 hz0 hs0 => ?_)
    replace hz0 : g0.get? z = some { cls := .type "zip", dict := none, data := .fields #[.ellipsis, .bool b, .bool false, .ref TI, .ref TO], slots := #[] } := hz0
    replace hs0 : Heap.SameBut z hp g0 := hs0
    refine wpAny_bind ?_
    simp only [List.zipIdx_cons, List.zipIdx_nil, List.forIn_cons, List.forIn_nil]
    refine wpAny_bind (wpAny_bind (wpAny_onRaise ?_))
    show wpAny _ _ (Builtin.SmallTypes.nextOf (.ref i1) >>= _) _ _ ⟨g0, g, d, tk0, os⟩
    refine wpAny_bind (D1.item i _ _ _ hlt1 (D1.over st1 hs0 S.zf1) fun x1 p1 tk1 hx1 sn1 hp1 => wpAny_pure ?_)
    replace hp1 : Heap.SameBut i1 g0 p1 := hp1
    have hU1 : IsTupOf2 p1 TO a1 a2 := hp1.extBut _ _ S.Ti1 (hs0.extBut _ _ S.TOz hTO)
    refine wpAny_bind (wpAny_seqItems (s := ⟨p1, g, d, tk1, os⟩) hU1 rfl ?_)
    refine wpAny_bind (updateSeq_IsTupOf2 (s := ⟨p1, g, d, tk1, os⟩) hU1 fun g1 hT1 hs1 => ?_)
    replace hT1 : IsTupOf2 g1 TO x1 a2 := hT1
    replace hs1 : Heap.SameBut TO p1 g1 := hs1
    refine wpAny_bind (wpAny_letGo (wpAny_pure ?_))
    refine wpAny_bind (wpAny_bind (wpAny_onRaise ?_))
    show wpAny _ _ (Builtin.SmallTypes.nextOf (.ref i2) >>= _) _ _ ⟨g1, g, d, tk1, os⟩
    refine wpAny_bind (D2.item i _ _ _ hlt2 (D2.over (D2.over (D2.over st2 hs0 S.zf2) hp1 S.sep1_2) hs1 S.Tf2) fun x2 p2 tk2 hx2 sn2 hp2 => wpAny_pure ?_)
    replace hp2 : Heap.SameBut i2 g1 p2 := hp2
    have hU2 : IsTupOf2 p2 TO x1 a2 := hp2.extBut _ _ S.Ti2 hT1
    refine wpAny_bind (wpAny_seqItems (s := ⟨p2, g, d, tk2, os⟩) hU2 rfl ?_)
    refine wpAny_bind (updateSeq_IsTupOf2 (s := ⟨p2, g, d, tk2, os⟩) hU2 fun g2 hT2 hs2 => ?_)
    replace hT2 : IsTupOf2 g2 TO x1 x2 := hT2
    replace hs2 : Heap.SameBut TO p2 g2 := hs2
    refine wpAny_bind (wpAny_letGo (wpAny_pure (wpAny_pure ?_)))
    refine wpAny_bind (wpAny_seqItems (s := ⟨g2, g, d, tk2, os⟩) hT2 rfl ?_)
    refine wpAny_bind (wpAny_newTuple ?_)
    have hsz : g2.objs.size = hp.objs.size := by rw [hs2.1, hp2.1, hs1.1, hp1.1, hs0.1]
    have hzz : g2.get? z = some { cls := .type "zip", dict := none, data := .fields #[.ellipsis, .bool b, .bool false, .ref TI, .ref TO], slots := #[] } := (hs2.extBut _ _ S.TOz.symm (hp2.extBut _ _ S.zi2 (hs1.extBut _ _ S.TOz.symm (hp1.extBut _ _ S.zi1 hz0))))
    have hkk : ∀ c o, c ≠ z → c ≠ TO → c ≠ i1 → c ≠ i2 → hp.get? c = some o → g2.get? c = some o := fun c o cz cT c1 c2 e =>
      (hs2.extBut _ _ cT (hp2.extBut _ _ c2 (hs1.extBut _ _ cT (hp1.extBut _ _ c1 (hs0.extBut _ _ cz e)))))
    have hj1 : St1 (i + 1) g2 := (D1.over (D1.over (D1.over sn1 hs1 S.Tf1) hp2 S.sep2_1) hs2 S.Tf1)
    have hj2 : St2 (i + 1) g2 := (D2.over sn2 hs2 S.Tf2)
    have hzlt : z < g2.objs.size := Heap.lt_size hzz
    show wpAny _ _ (Builtin.SmallTypes.ownedTupleHandOut (.ref z) (.ref g2.objs.size) >>= _) _ _ ⟨g2.push { cls := .type "tuple", data := .seq #[x1, x2] }, g, d, tk2, os⟩
    refine wpAny_bind ?_
    unfold Builtin.SmallTypes.ownedTupleHandOut
    have hz₆ : (g2.push { cls := .type "tuple", data := .seq #[x1, x2] }).get? z = some { cls := .type "zip", dict := none, data := .fields #[.ellipsis, .bool b, .bool false, .ref TI, .ref TO], slots := #[] } := Heap.get?_push_of_some _ hzz
    refine wpAny_bind (wpAny_setField_rec hz₆ (by simp) fun h₇ hz₇ hs₇ => ?_)
    replace hz₇ : h₇.get? z = some { cls := .type "zip", dict := none, data := .fields #[rawInt g2.objs.size, .bool b, .bool false, .ref TI, .ref TO], slots := #[] } := hz₇
    refine wpAny_setField_rec hz₇ (by simp) fun h₈ hz₈ hs₈ => ?_
    replace hz₈ : h₈.get? z = some { cls := .type "zip", dict := none, data := .fields #[rawInt g2.objs.size, .bool false, .bool false, .ref TI, .ref TO], slots := #[] } := hz₈
    replace hs₇ : Heap.SameBut z (g2.push { cls := .type "tuple", data := .seq #[x1, x2] }) h₇ := hs₇
    replace hs₈ : Heap.SameBut z h₇ h₈ := hs₈
    have up : ∀ c o, c ≠ z → g2.get? c = some o → h₈.get? c = some o := fun c o c1 e => hs₈.extBut _ _ c1 (hs₇.extBut _ _ c1 (Heap.get?_push_of_some _ e))
    have hT₈ : IsTupOf2 h₈ g2.objs.size x1 x2 := hs₈.extBut _ _ (Nat.ne_of_gt hzlt) (hs₇.extBut _ _ (Nat.ne_of_gt hzlt) (Heap.get?_push_size _ rfl))
    have hz8 : h₈.objs.size = g2.objs.size + 1 := by rw [hs₈.1, hs₇.1, Heap.size_push]
    rw [hsz] at hT₈ hz8
    refine wpAny_pure ⟨_, rfl, ?_⟩
    show Q (.ref g2.objs.size) ⟨h₈, g, d, tk2, os⟩
    have zs : ZSt h₈ z TI TO := ⟨_, _, .inr ⟨_, rfl⟩, hz₈⟩
    rw [hsz]
    exact hQ x1 x2 h₈ tk2 hx1 hx2 zs ⟨_, _, up _ _ S.TOz hT2⟩ (D1.frame _ _ _ hj1 fun b hb o e => up b o (fun q => S.zf1 (q ▸ hb)) e) (D2.frame _ _ _ hj2 fun b hb o e => up b o (fun q => S.zf2 (q ▸ hb)) e) hT₈ hz8 fun c o cz cT c1 c2 e => up c o cz (hkk c o cz cT c1 c2 e)
  · simp only [Bool.false_eq_true, if_false]
    replace hs₁ : Heap.SameBut z hp h₁ := hs₁
    refine wpAny_bind ?_
    rw [← Array.forIn_toList]
    simp only [List.forIn_cons, List.forIn_nil]
    refine wpAny_bind (wpAny_bind (wpAny_holding ?_))
    show wpAny _ _ (Builtin.SmallTypes.nextOf (.ref i1) >>= _) _ _ ⟨h₁, g, d, tk0, os⟩
    refine wpAny_bind (D1.item i _ _ _ hlt1 (D1.over st1 hs₁ S.zf1) fun x1 p1 tk1 hx1 sn1 hp1 => wpAny_pure ?_)
    replace hp1 : Heap.SameBut i1 h₁ p1 := hp1
    refine wpAny_pure ?_
    refine wpAny_bind (wpAny_bind (wpAny_holding ?_))
    show wpAny _ _ (Builtin.SmallTypes.nextOf (.ref i2) >>= _) _ _ ⟨p1, g, d, tk1, os⟩
    refine wpAny_bind (D2.item i _ _ _ hlt2 (D2.over (D2.over st2 hs₁ S.zf2) hp1 S.sep1_2) fun x2 p2 tk2 hx2 sn2 hp2 => wpAny_pure ?_)
    replace hp2 : Heap.SameBut i2 p1 p2 := hp2
    refine wpAny_pure (wpAny_pure ?_)
    show wpAny _ _ (newTuple [x1, x2] >>= _) _ _ ⟨p2, g, d, tk2, os⟩
    refine wpAny_bind (wpAny_newTuple ?_)
    have hsz : p2.objs.size = hp.objs.size := by rw [hp2.1, hp1.1, hs₁.1]
    have hzz := hp2.extBut _ _ S.zi2 (hp1.extBut _ _ S.zi1 hz₁)
    have hkk : ∀ c o, c ≠ z → c ≠ i1 → c ≠ i2 → hp.get? c = some o → p2.get? c = some o := fun c o cz c1 c2 e => hp2.extBut _ _ c2 (hp1.extBut _ _ c1 (hs₁.extBut _ _ cz e))
    have hj1 : St1 (i + 1) p2 := D1.over sn1 hp2 S.sep2_1
    refine wpAny_pure ⟨_, rfl, ?_⟩
    have hT : IsTupOf2 (p2.push { cls := .type "tuple", data := .seq #[x1, x2] }) p2.objs.size x1 x2 := Heap.get?_push_size _ rfl
    have hz4 : (p2.push { cls := .type "tuple", data := .seq #[x1, x2] }).objs.size = p2.objs.size + 1 := Heap.size_push ..
    show Q (.ref p2.objs.size) ⟨p2.push { cls := .type "tuple", data := .seq #[x1, x2] }, g, d, tk2, os⟩
    rw [hsz] at hT hz4 ⊢
    exact hQ x1 x2 _ tk2 hx1 hx2 ⟨_, _, hf, Heap.get?_push_of_some _ hzz⟩ ⟨_, _, Heap.get?_push_of_some _ (hkk _ _ S.TOz S.Ti1 S.Ti2 hTO)⟩ (D1.frame _ _ _ hj1 fun b hb o e => Heap.get?_push_of_some _ e) (D2.frame _ _ _ sn2 fun b hb o e => Heap.get?_push_of_some _ e) hT hz4 fun c o cz cT c1 c2 e => Heap.get?_push_of_some _ (hkk c o cz c1 c2 e)
theorem zipG_end {Q : PySem.Fin → Shared → Prop} (S : ZipSep2 z TI TO i1 i2 fp1 fp2) (D1 : Draws prog w A i1 fp1 n1 P1 St1) (D2 : Draws prog w A i2 fp2 n2 P2 St2)
    (hz : ZSt s.heap z TI TO) (hTI : IsTupOf2 s.heap TI (.ref i1) (.ref i2)) (hTO : IsTupOf2 s.heap TO a1 a2) (st1 : St1 i s.heap) (st2 : St2 i s.heap) (hle1 : i ≤ n1) (hle2 : i ≤ n2) (hend : i = n1 ∨ i = n2)
    (hE : ∀ h' tk e, (∀ c o, c ≠ z → c ≠ TO → c ≠ i1 → c ≠ i2 → s.heap.get? c = some o → h'.get? c = some o) → (∃ o, h'.get? e = some o ∧ o.cls = .type "StopIteration") → E (.ref e) { s with heap := h', toks := tk }) :
    wpAny (model prog w) A (Builtin.«zip.__next__» ⟨[.ref z], []⟩) Q E s := by
  obtain ⟨hp, g, d, tk0, os⟩ := s
  obtain ⟨f, b, hf, hz⟩ := hz
  show wpAny _ _ (field (.ref z) 2 >>= _) _ _ _
  refine wpAny_bind (wpAny_field hz rfl (x := .bool false) rfl ?_)
  show wpAny _ _ (field (.ref z) 3 >>= _) _ _ _
  refine wpAny_bind (wpAny_field hz rfl (x := .ref TI) rfl ?_)
  refine wpAny_bind (wpAny_seqItems hTI rfl ?_)
  show wpAny _ _ (Builtin.SmallTypes.ownedTupleIsFree (.ref z) >>= _) _ _ _
  refine wpAny_bind (own_G hf hz ?_ fun h₁ hz₁ hs₁ => ?_)
  · simp only [if_true]
    refine wpAny_bind (wpAny_rule ?_)
    refine wpAny_bind (wpAny_field hz rfl (x := .ref TO) rfl ?_)
    refine wpAny_bind (wpAny_setField_rec hz (by simp) fun g0 hz0 hs0 => ?_)
    replace hz0 : g0.get? z = some { cls := .type "zip", dict := none, data := .fields #[.ellipsis, .bool b, .bool false, .ref TI, .ref TO], slots := #[] } := hz0
    replace hs0 : Heap.SameBut z hp g0 := hs0
    refine wpAny_bind ?_
    simp only [List.zipIdx_cons, List.zipIdx_nil, List.forIn_cons, List.forIn_nil]
    refine wpAny_bind (wpAny_bind (wpAny_onRaise ?_))
    show wpAny _ _ (Builtin.SmallTypes.nextOf (.ref i1) >>= _) _ _ ⟨g0, g, d, tk0, os⟩
    by_cases hlt1 : i < n1
    · refine wpAny_bind (D1.item i _ _ _ hlt1 (D1.over st1 hs0 S.zf1) fun x1 p1 tk1 hx1 sn1 hp1 => wpAny_pure ?_)
      replace hp1 : Heap.SameBut i1 g0 p1 := hp1
      have hU1 : IsTupOf2 p1 TO a1 a2 := hp1.extBut _ _ S.Ti1 (hs0.extBut _ _ S.TOz hTO)
      refine wpAny_bind (wpAny_seqItems (s := ⟨p1, g, d, tk1, os⟩) hU1 rfl ?_)
      refine wpAny_bind (updateSeq_IsTupOf2 (s := ⟨p1, g, d, tk1, os⟩) hU1 fun g1 hT1 hs1 => ?_)
      replace hT1 : IsTupOf2 g1 TO x1 a2 := hT1
      replace hs1 : Heap.SameBut TO p1 g1 := hs1
      refine wpAny_bind (wpAny_letGo (wpAny_pure ?_))
      have hi2 : i = n2 := by omega
      refine wpAny_bind (wpAny_bind (wpAny_onRaise ?_))
      show wpAny _ _ (Builtin.SmallTypes.nextOf (.ref i2) >>= _) _ _ ⟨g1, g, d, tk1, os⟩
      refine wpAny_bind (D2.done ⟨g1, g, d, tk1, os⟩ _ _ (by rw [← hi2]; exact (D2.over (D2.over (D2.over st2 hs0 S.zf2) hp1 S.sep1_2) hs1 S.Tf2)) fun q e hq he => ?_)
      replace hq : Heap.ExtBut i2 g1 q := hq
      obtain ⟨oe, hoe, hce⟩ := he
      replace hoe : q.get? e = some oe := hoe
      have hzq := hq _ _ S.zi2 (hs1.extBut _ _ S.TOz.symm (hp1.extBut _ _ S.zi1 hz0))
      have hez : e ≠ z := fun x => by subst x; rw [hzq] at hoe; cases hoe; simp at hce
      refine wpAny_setField_rec (s := ⟨q, g, d, tk1, os⟩) hzq (by simp) fun q' _ hq' => ?_
      replace hq' : Heap.SameBut z q q' := hq'
      exact hE q' tk1 e (fun c o cz cT c1 c2 x => hq'.extBut _ _ cz (hq _ _ c2 (hs1.extBut _ _ cT (hp1.extBut _ _ c1 (hs0.extBut _ _ cz x))))) ⟨oe, hq'.extBut _ _ hez hoe, hce⟩
    · have hi1 : i = n1 := by omega
      refine wpAny_bind (D1.done ⟨g0, g, d, tk0, os⟩ _ _ (by rw [← hi1]; exact (D1.over st1 hs0 S.zf1)) fun q e hq he => ?_)
      replace hq : Heap.ExtBut i1 g0 q := hq
      obtain ⟨oe, hoe, hce⟩ := he
      replace hoe : q.get? e = some oe := hoe
      have hzq := hq _ _ S.zi1 hz0
      have hez : e ≠ z := fun x => by subst x; rw [hzq] at hoe; cases hoe; simp at hce
      refine wpAny_setField_rec (s := ⟨q, g, d, tk0, os⟩) hzq (by simp) fun q' _ hq' => ?_
      replace hq' : Heap.SameBut z q q' := hq'
      exact hE q' tk0 e (fun c o cz cT c1 c2 x => hq'.extBut _ _ cz (hq _ _ c1 (hs0.extBut _ _ cz x))) ⟨oe, hq'.extBut _ _ hez hoe, hce⟩
  · simp only [Bool.false_eq_true, if_false]
    replace hs₁ : Heap.SameBut z hp h₁ := hs₁
    refine wpAny_bind ?_
    rw [← Array.forIn_toList]
    simp only [List.forIn_cons, List.forIn_nil]
    refine wpAny_bind (wpAny_bind (wpAny_holding ?_))
    show wpAny _ _ (Builtin.SmallTypes.nextOf (.ref i1) >>= _) _ _ ⟨h₁, g, d, tk0, os⟩
    by_cases hlt1 : i < n1
    · refine wpAny_bind (D1.item i _ _ _ hlt1 (D1.over st1 hs₁ S.zf1) fun x1 p1 tk1 hx1 sn1 hp1 => wpAny_pure ?_)
      replace hp1 : Heap.SameBut i1 h₁ p1 := hp1
      refine wpAny_pure ?_
      have hi2 : i = n2 := by omega
      refine wpAny_bind (wpAny_bind (wpAny_holding ?_))
      show wpAny _ _ (Builtin.SmallTypes.nextOf (.ref i2) >>= _) _ _ ⟨p1, g, d, tk1, os⟩
      refine wpAny_bind (D2.done ⟨p1, g, d, tk1, os⟩ _ _ (by rw [← hi2]; exact (D2.over (D2.over st2 hs₁ S.zf2) hp1 S.sep1_2)) fun q e hq he => ?_)
      exact hE q tk1 e (fun c o cz cT c1 c2 x => hq _ _ c2 (hp1.extBut _ _ c1 (hs₁.extBut _ _ cz x))) he
    · have hi1 : i = n1 := by omega
      refine wpAny_bind (D1.done ⟨h₁, g, d, tk0, os⟩ _ _ (by rw [← hi1]; exact (D1.over st1 hs₁ S.zf1)) fun q e hq he => ?_)
      exact hE q tk0 e (fun c o cz cT c1 c2 x => hq _ _ c1 (hs₁.extBut _ _ cz x)) he
theorem nextOf_zipG_item {Q : Value → Shared → Prop} (S : ZipSep2 z TI TO i1 i2 fp1 fp2) (D1 : Draws prog w A.in1 i1 fp1 n1 P1 St1) (D2 : Draws prog w A.in1 i2 fp2 n2 P2 St2)
    (hz : ZSt s.heap z TI TO) (hTI : IsTupOf2 s.heap TI (.ref i1) (.ref i2)) (hTO : IsTupOf2 s.heap TO a1 a2) (st1 : St1 i s.heap) (st2 : St2 i s.heap) (hlt1 : i < n1) (hlt2 : i < n2)
    (hQ : ∀ x1 x2 h' tk, P1 i x1 → P2 i x2 → ZSt h' z TI TO → (∃ b1 b2, IsTupOf2 h' TO b1 b2) → St1 (i + 1) h' → St2 (i + 1) h' → IsTupOf2 h' s.heap.objs.size x1 x2 → h'.objs.size = s.heap.objs.size + 1 →
      (∀ c o, c ≠ z → c ≠ TO → c ≠ i1 → c ≠ i2 → s.heap.get? c = some o → h'.get? c = some o) → Q (.ref s.heap.objs.size) { s with heap := h', toks := tk }) :
    wpAny (model prog w) A (Builtin.SmallTypes.nextOf (.ref z)) Q E s := by
  have hT : s.TypeIs (.ref z) "zip" := by obtain ⟨f, b, _, h⟩ := hz; exact ⟨_, h, rfl⟩
  unfold Builtin.SmallTypes.nextOf
  exact wpAny_bind (wpAny_callSpecial?_slot (name := Str.ofString "__next__") hT F.slot_zip_next
    (wpAny_call_entry F.slot_zip_next hT F.entry_zip_next
      (zipG_item S D1 D2 hz hTI hTO st1 st2 hlt1 hlt2 fun x1 x2 h' tk y1 y2 b1 b2 d1 d2 b5 b6 b7 => wpAny_pure (hQ x1 x2 h' tk y1 y2 b1 b2 d1 d2 b5 b6 b7)) (F.args_zip_next_1 _)))
theorem nextOf_zipG_end {Q : Value → Shared → Prop} (S : ZipSep2 z TI TO i1 i2 fp1 fp2) (D1 : Draws prog w A.in1 i1 fp1 n1 P1 St1) (D2 : Draws prog w A.in1 i2 fp2 n2 P2 St2)
    (hz : ZSt s.heap z TI TO) (hTI : IsTupOf2 s.heap TI (.ref i1) (.ref i2)) (hTO : IsTupOf2 s.heap TO a1 a2) (st1 : St1 i s.heap) (st2 : St2 i s.heap) (hle1 : i ≤ n1) (hle2 : i ≤ n2) (hend : i = n1 ∨ i = n2)
    (hE : ∀ h' tk e, (∀ c o, c ≠ z → c ≠ TO → c ≠ i1 → c ≠ i2 → s.heap.get? c = some o → h'.get? c = some o) → (∃ o, h'.get? e = some o ∧ o.cls = .type "StopIteration") → E (.ref e) { s with heap := h', toks := tk }) :
    wpAny (model prog w) A (Builtin.SmallTypes.nextOf (.ref z)) Q E s := by
  have hT : s.TypeIs (.ref z) "zip" := by obtain ⟨f, b, _, h⟩ := hz; exact ⟨_, h, rfl⟩
  unfold Builtin.SmallTypes.nextOf
  exact wpAny_bind (wpAny_callSpecial?_slot (name := Str.ofString "__next__") hT F.slot_zip_next
    (wpAny_call_entry F.slot_zip_next hT F.entry_zip_next (zipG_end S D1 D2 hz hTI hTO st1 st2 hle1 hle2 hend hE) (F.args_zip_next_1 _)))
/-- enumerate over a zip -/
theorem enumZ_item {e : Addr} {c : Int} {old : Value} {Q : Value → Shared → Prop} (S : ZipSep2 z TI TO i1 i2 fp1 fp2) (D1 : Draws prog w A.in1 i1 fp1 n1 P1 St1) (D2 : Draws prog w A.in1 i2 fp2 n2 P2 St2)
    (he : IsEnum s.heap e z c old) (hez : e ≠ z) (heT : e ≠ TO) (heI : e ≠ TI) (he1 : e ∉ fp1) (he2 : e ∉ fp2)
    (hz : ZSt s.heap z TI TO) (hTI : IsTupOf2 s.heap TI (.ref i1) (.ref i2)) (hTO : IsTupOf2 s.heap TO a1 a2) (st1 : St1 i s.heap) (st2 : St2 i s.heap) (hlt1 : i < n1) (hlt2 : i < n2)
    (hQ : ∀ x1 x2 h' tk, P1 i x1 → P2 i x2 → IsEnumOut h' e z (c + 1) (.ref s.heap.objs.size) (s.heap.objs.size + 1) → ZSt h' z TI TO → IsTupOf2 h' TI (.ref i1) (.ref i2) → (∃ b1 b2, IsTupOf2 h' TO b1 b2) → St1 (i + 1) h' → St2 (i + 1) h' →
      IsTupOf2 h' s.heap.objs.size x1 x2 → IsTupOf2 h' (s.heap.objs.size + 1) (.int c tk) (.ref s.heap.objs.size) →
      (∀ b o, b ≠ e → b ≠ z → b ≠ TO → b ≠ i1 → b ≠ i2 → s.heap.get? b = some o → h'.get? b = some o) → Q (.ref (s.heap.objs.size + 1)) { s with heap := h', toks := tk + 1 }) :
    wpAny (model prog w) A (Builtin.«enumerate.__next__» ⟨[.ref e], []⟩) (fun fin s' => ∃ v, fin = .done (.ret v) ∧ Q v s') E s := by
  obtain ⟨hp, g, d, tk₀, os⟩ := s
  have hei1 : e ≠ i1 := fun q => he1 (q ▸ S.mem1)
  have hei2 : e ≠ i2 := fun q => he2 (q ▸ S.mem2)
  have hel : e < hp.objs.size := Heap.lt_size he
  show wpAny _ _ (field (.ref e) 2 >>= _) _ _ _
  refine wpAny_bind (wpAny_field he rfl (x := .ref z) rfl ?_)
  refine wpAny_bind (nextOf_zipG_item S D1 D2 hz hTI hTO st1 st2 hlt1 hlt2 fun x1 x2 h₁ tk hx1 hx2 hz₁ hTO₁ t1 t2 hT hsz hk₁ => ?_)
  replace hsz : h₁.objs.size = hp.objs.size + 1 := hsz
  replace hT : IsTupOf2 h₁ hp.objs.size x1 x2 := hT
  replace hk₁ : ∀ c o, c ≠ z → c ≠ TO → c ≠ i1 → c ≠ i2 → hp.get? c = some o → h₁.get? c = some o := hk₁
  have he₁ : IsEnum h₁ e z c old := hk₁ _ _ hez heT hei1 hei2 he
  have hTI₁ : IsTupOf2 h₁ TI (.ref i1) (.ref i2) := hk₁ _ _ S.TIz S.TITO S.TIi1 S.TIi2 hTI
  show wpAny _ _ (field (.ref e) 3 >>= _) _ _ ⟨h₁, g, d, tk, os⟩
  refine wpAny_bind (wpAny_field he₁ rfl (x := rawInt c) rfl ?_)
  show wpAny _ _ (field (.ref e) 4 >>= _) _ _ ⟨h₁, g, d, tk, os⟩
  refine wpAny_bind (wpAny_field he₁ rfl (x := .none) rfl ?_)
  show wpAny _ _ (mkInt c >>= _) _ _ ⟨h₁, g, d, tk, os⟩
  refine wpAny_bind (wpAny_mkInt ?_)
  show wpAny _ _ (setField (.ref e) 3 (rawInt (c + 1)) >>= _) _ _ ⟨h₁, g, d, tk + 1, os⟩
  refine wpAny_bind (wpAny_setField_rec he₁ (by simp) fun h₂ he₂ hs₂ => ?_)
  replace hs₂ : Heap.SameBut e h₁ h₂ := hs₂
  replace he₂ : IsEnum h₂ e z (c + 1) old := he₂
  show wpAny _ _ (setField (.ref e) 4 .none >>= _) _ _ ⟨h₂, g, d, tk + 1, os⟩
  refine wpAny_bind (wpAny_setField_rec he₂ (by simp) fun h₃ he₃ hs₃ => ?_)
  replace hs₃ : Heap.SameBut e h₂ h₃ := hs₃
  replace he₃ : IsEnum h₃ e z (c + 1) old := he₃
  show wpAny _ _ (newTuple [.int c tk, .ref hp.objs.size] >>= _) _ _ ⟨h₃, g, d, tk + 1, os⟩
  refine wpAny_bind (wpAny_newTuple ?_)
  have he₄ : IsEnum (h₃.push { cls := .type "tuple", data := .seq #[.int c tk, .ref hp.objs.size] }) e z (c + 1) old := Heap.get?_push_of_some _ he₃
  have hsz3 : h₃.objs.size = hp.objs.size + 1 := by rw [hs₃.1, hs₂.1, hsz]
  have k4 : ∀ b o, b ≠ e → h₁.get? b = some o → (h₃.push { cls := .type "tuple", data := .seq #[.int c tk, .ref hp.objs.size] }).get? b = some o := fun b o hb q => Heap.get?_push_of_some _ (hs₃.extBut _ _ hb (hs₂.extBut _ _ hb q))
  have hp4 : IsTupOf2 (h₃.push { cls := .type "tuple", data := .seq #[.int c tk, .ref hp.objs.size] }) (hp.objs.size + 1) (.int c tk) (.ref hp.objs.size) := by rw [← hsz3]; exact Heap.get?_push_size _ rfl
  show wpAny _ _ (Builtin.SmallTypes.ownedTupleIsFree (.ref e) >>= _) _ _ ⟨h₃.push { cls := .type "tuple", data := .seq #[.int c tk, .ref hp.objs.size] }, g, d, tk + 1, os⟩
  rw [hsz3]
  generalize h₃.push { cls := .type "tuple", data := .seq #[.int c tk, .ref hp.objs.size] } = h₄ at he₄ k4 hp4 ⊢
  refine wpAny_bind ?_
  unfold Builtin.SmallTypes.ownedTupleIsFree
  refine wpAny_bind (wpAny_field he₄ rfl (x := .none) rfl (wpAny_pure ?_))
  simp only [if_true]
  refine wpAny_bind (wpAny_rule ?_)
  refine wpAny_bind (wpAny_field he₄ rfl (x := old) rfl ?_)
  refine wpAny_bind (wpAny_setField_rec he₄ (by simp) fun h₅ he₅ hs₅ => ?_)
  replace hs₅ : Heap.SameBut e h₄ h₅ := hs₅
  replace he₅ : IsEnum h₅ e z (c + 1) (.ref hp.objs.size) := he₅
  show wpAny _ _ (Builtin.SmallTypes.ownedTupleHandOut (.ref e) (.ref (hp.objs.size + 1)) >>= _) _ _ ⟨h₅, g, d, tk + 1, os⟩
  refine wpAny_bind ?_
  unfold Builtin.SmallTypes.ownedTupleHandOut
  refine wpAny_bind (wpAny_setField_rec he₅ (by simp) fun h₆ he₆ hs₆ => ?_)
  replace hs₆ : Heap.SameBut e h₅ h₆ := hs₆
  replace he₆ : IsEnumOut h₆ e z (c + 1) (.ref hp.objs.size) (hp.objs.size + 1) := he₆
  refine wpAny_setField_rec he₆ (by simp) fun h₇ he₇ hs₇ => ?_
  replace hs₇ : Heap.SameBut e h₆ h₇ := hs₇
  replace he₇ : IsEnumOut h₇ e z (c + 1) (.ref hp.objs.size) (hp.objs.size + 1) := he₇
  have k7 : ∀ b o, b ≠ e → h₁.get? b = some o → h₇.get? b = some o := fun b o hb q => hs₇.extBut _ _ hb (hs₆.extBut _ _ hb (hs₅.extBut _ _ hb (k4 b o hb q)))
  have hN : hp.objs.size ≠ e := Nat.ne_of_gt hel
  have hN1 : hp.objs.size + 1 ≠ e := Nat.ne_of_gt (Nat.lt_succ_of_lt hel)
  refine wpAny_bind (wpAny_letGo (wpAny_pure ⟨_, rfl, hQ x1 x2 h₇ tk hx1 hx2 he₇ ?_ (k7 _ _ (Ne.symm heI) hTI₁) ?_ ?_ ?_ (k7 _ _ hN hT) ?_ ?_⟩))
  · obtain ⟨f, b, hf, q⟩ := hz₁
    exact ⟨f, b, hf, k7 _ _ (Ne.symm hez) q⟩
  · obtain ⟨b1, b2, q⟩ := hTO₁
    exact ⟨b1, b2, k7 _ _ (Ne.symm heT) q⟩
  · exact D1.frame _ _ _ t1 fun b hb o q => k7 b o (fun r => he1 (r ▸ hb)) q
  · exact D2.frame _ _ _ t2 fun b hb o q => k7 b o (fun r => he2 (r ▸ hb)) q
  · exact hs₇.extBut _ _ hN1 (hs₆.extBut _ _ hN1 (hs₅.extBut _ _ hN1 hp4))
  · exact fun b o h1 h2 h3 h4 h5 q => k7 b o h1 (hk₁ b o h2 h3 h4 h5 q)
end
/-! ### the loop -/
def ItEZ (b1 b2 : Bool) (K : PySem.W.Frag) (a1 a2 : Addr) : It :=
  ⟨fun i H => ∃ (xs ys : List V) (x y : V), Sq b1 K H a1 xs ∧ Sq b2 K H a2 ys ∧ xs[i]? = some x ∧ ys[i]? = some y,
    fun i H v H' => ∃ T1 T2 x y, v = .ref T2 ∧ H T1 = none ∧ H T2 = none ∧ T2 ≠ T1 ∧ H' = upd (upd H T1 (.tup [x, y])) T2 (.tup [.int (i : Nat), .ref T1]) ∧ (∀ xs, Sq b1 K H a1 xs → xs[i]? = some x) ∧ ∀ ys, Sq b2 K H a2 ys → ys[i]? = some y,
    fun i H => ∃ xs ys : List V, Sq b1 K H a1 xs ∧ Sq b2 K H a2 ys ∧ i ≤ xs.length ∧ i ≤ ys.length ∧ (xs.length = i ∨ ys.length = i)⟩
/-- the cells lie apart -/
structure SepE (e z TI TO i1 i2 a1 a2 : Addr) : Prop where
  S : ZipSep2 z TI TO i1 i2 [i1, a1] [i2, a2]
  ez : e ≠ z
  eTI : e ≠ TI
  eTO : e ≠ TO
  e1 : e ∉ [i1, a1]
  e2 : e ∉ [i2, a2]
theorem turn_EZ {P : Program} {w : World} {K : PySem.W.Frag} {elts : List Expr} {kk : Nat} {tpos : Pos} (b1 b2 : Bool) {a1 a2 e z TI TO i1 i2 : Addr} (D : SepE e z TI TO i1 i2 a1 a2) :
    Turn P w K (.Tuple elts kk tpos) (ItEZ b1 b2 K a1 a2) [e, z, TI, TO, i1, i2] e (fun i h => (∃ old, IsEnum h e z ((i : Nat) : Int) old) ∧ ZSt h z TI TO ∧ IsTupOf2 h TI (.ref i1) (.ref i2) ∧ (∃ x y, IsTupOf2 h TO x y) ∧ SqIt b1 h i1 a1 i ∧ SqIt b2 h i2 a2 i) where
  mem := by simp
  obj := fun i h st c hc => by
    obtain ⟨⟨old, he⟩, ⟨f, b, _, hz⟩, hTI, ⟨x, y, hTO⟩, h1, h2⟩ := st
    have e' : c = e ∨ c = z ∨ c = TI ∨ c = TO ∨ c = i1 ∨ c = i2 := by simpa using hc
    rcases e' with q | q | q | q | q | q
    · rw [q]; exact ⟨_, he, fun v q => nomatch q⟩
    · rw [q]; exact ⟨_, hz, fun v q => nomatch q⟩
    · rw [q]; exact ⟨_, hTI, fun v q => nomatch q⟩
    · rw [q]; exact ⟨_, hTO, fun v q => nomatch q⟩
    · rw [q]; exact sqIt_obj h1
    · rw [q]; exact sqIt_obj h2
  keep := fun i h h' st k => by
    obtain ⟨⟨old, he⟩, ⟨f, b, hf, hz⟩, hTI, ⟨x, y, hTO⟩, h1, h2⟩ := st
    exact ⟨⟨old, k e (by simp) _ he⟩, ⟨f, b, hf, k z (by simp) _ hz⟩, k TI (by simp) _ hTI, ⟨x, y, k TO (by simp) _ hTO⟩, sqIt_at h1 fun o q => k i1 (by simp) o q, sqIt_at h2 fun o q => k i2 (by simp) o q⟩
  item := by
    intro X hP hw hK hc i pins s σ H E I hf st hg
    subst hP hw hK
    obtain ⟨⟨old, he⟩, hz, hTI, ⟨x0, y0, hTO⟩, h1, h2⟩ := st
    obtain ⟨xs, ys, x, y, hqx, hqy, hx, hy⟩ := hg
    obtain ⟨its, rv, p, _⟩ := sq_get I hqx
    obtain ⟨its2, rv2, p2, _⟩ := sq_get I hqy
    obtain ⟨u, hu, ru⟩ := rv.get hx
    obtain ⟨u2, hu2, ru2⟩ := rv2.get hy
    have hel : e < s.heap.objs.size := Heap.lt_size he
    have hzl : z < s.heap.objs.size := by obtain ⟨f, b, _, q⟩ := hz; exact Heap.lt_size q
    have l1 : i < its.toArray.size := by
      obtain ⟨h1, _⟩ := List.getElem?_eq_some_iff.mp hu
      simpa using h1
    have l2 : i < its2.toArray.size := by
      obtain ⟨h1, _⟩ := List.getElem?_eq_some_iff.mp hu2
      simpa using h1
    have hTy : s.TypeIs (.ref e) "enumerate" := ⟨_, he, rfl⟩
    unfold pyNext
    refine wpAny_bind (wpAny_attempt (wpAny_callSpecial?_slot (name := Str.ofString "__next__") hTy F.slot_enumerate_next
      (wpAny_call_entry F.slot_enumerate_next hTy F.entry_enumerate_next
        (enumZ_item D.S (sq_draws (prog := X.prog) (w := X.w) (A := X.A.in1.in1) b1 (I.ok.hd hc) i1 a1 (sq_ne (K := X.K) h1 p) its.toArray) (sq_draws (prog := X.prog) (w := X.w) (A := X.A.in1.in1) b2 (I.ok.hd hc) i2 a2 (sq_ne (K := X.K) h2 p2) its2.toArray)
          he D.ez D.eTO D.eTI D.e1 D.e2 hz hTI hTO ⟨h1, p⟩ ⟨h2, p2⟩ l1 l2 fun y1 y2 h' tk hy1 hy2 he' hz' hTI' hTO' h1' h2' hT1 hT2 hk => wpAny_pure ?_) (F.args_enumerate_next_1 _))))
    have ey : y1 = u := by
      have h2 : its[i]? = some y1 := by simpa using hy1
      rw [hu] at h2; exact (Option.some.inj h2).symm
    have ey2 : y2 = u2 := by
      have h2 : its2[i]? = some y2 := by simpa using hy2
      rw [hu2] at h2; exact (Option.some.inj h2).symm
    subst ey; subst ey2
    refine ⟨_, rfl, wpAny_letOwnedTupleGo_enum (s := { s with heap := h', toks := tk + 1 }) he' fun h'' he'' sb => ?_⟩
    have hN : s.heap.objs.size ≠ e := Nat.ne_of_gt hel
    have hN1 : s.heap.objs.size + 1 ≠ e := Nat.ne_of_gt (Nat.lt_succ_of_lt hel)
    have hT1'' : h''.get? s.heap.objs.size = some { cls := .type "tuple", data := .seq #[y1, y2] } := (sb.2 _ hN).trans hT1
    have hT2'' : h''.get? (s.heap.objs.size + 1) = some { cls := .type "tuple", data := .seq #[.int i tk, .ref s.heap.objs.size] } := (sb.2 _ hN1).trans hT2
    have new : ObjOk X.prog X.w (upd H s.heap.objs.size (.tup [x, y])) h'' s.heap.objs.size (.tup [x, y]) :=
      ⟨by show 2 ≤ sizeLine; decide, [y1, y2], .cons ru (.cons ru2 .nil), ⟨_, hT1'', rfl, _, rfl⟩⟩
    have I1 : Inv X pins σ (upd H s.heap.objs.size (.tup [x, y])) { s with heap := h'', toks := tk + 1 } :=
      I.turnedNew (ch := [e, z, TI, TO, i1, i2]) (fun c o hb q => (sb.2 c (fun q' => hb (by simp [q']))).trans (hk c o (fun q' => hb (by simp [q'])) (fun q' => hb (by simp [q'])) (fun q' => hb (by simp [q'])) (fun q' => hb (by simp [q'])) (fun q' => hb (by simp [q'])) q)) hf (Nat.le_refl _) new
    have hle : s.heap.objs.size ≤ s.heap.objs.size + 1 := Nat.le_succ _
    have hf1 : H (s.heap.objs.size + 1) = none := I.hok.fresh hle
    have hne : s.heap.objs.size + 1 ≠ s.heap.objs.size := Nat.succ_ne_self _
    have fp : FpOk X pins (upd H s.heap.objs.size (.tup [x, y])) (s.heap.objs.size + 1) := by
      obtain ⟨g0, g1, g2, g3, g4, g5⟩ := I.fpOk hle hf1
      exact ⟨by rw [upd_ne hne]; exact hf1, g1, g2, g3, g4, g5⟩
    have new2 : ObjOk X.prog X.w (upd (upd H s.heap.objs.size (.tup [x, y])) (s.heap.objs.size + 1) (.tup [.int (i : Nat), .ref s.heap.objs.size])) h'' (s.heap.objs.size + 1) (.tup [.int (i : Nat), .ref s.heap.objs.size]) :=
      ⟨by show 2 ≤ sizeLine; decide, [.int i tk, .ref s.heap.objs.size], .cons ⟨_, rfl⟩ (.cons rfl .nil), ⟨_, hT2'', rfl, _, rfl⟩⟩
    have I2 := I1.take (t' := tk + 1) (h' := h'') (fun b ob _ q => q) fp new2
    refine ⟨.ref (s.heap.objs.size + 1), _, I2, rfl, ⟨_, _, x, y, rfl, I.hok.fresh (Nat.le_refl _), hf1, hne, rfl, fun l hl => by rw [sq_inj I hl hqx]; exact hx, fun l hl => by rw [sq_inj I hl hqy]; exact hy⟩, ⟨⟨.ref s.heap.objs.size, ?_⟩, ?_, ?_, ?_, ?_, ?_⟩, fun c hcm => ?_⟩
    · have e1 : ((i + 1 : Nat) : Int) = (i : Int) + 1 := by omega
      rw [e1]; exact he''
    · obtain ⟨f, b, hf', q⟩ := hz'
      exact ⟨f, b, hf', (sb.2 _ (Ne.symm D.ez)).trans q⟩
    · exact (sb.2 _ (Ne.symm D.eTI)).trans hTI'
    · obtain ⟨b1, b2, q⟩ := hTO'
      exact ⟨b1, b2, (sb.2 _ (Ne.symm D.eTO)).trans q⟩
    · exact sqIt_at h1'.1 fun o q => (sb.2 _ (fun r => D.e1 (by simp [r]))).trans q
    · exact sqIt_at h2'.1 fun o q => (sb.2 _ (fun r => D.e2 (by simp [r]))).trans q
    · have hlt : c < s.heap.objs.size := by
        have e' : c = e ∨ c = z ∨ c = TI ∨ c = TO ∨ c = i1 ∨ c = i2 := by simpa using hcm
        rcases e' with q | q | q | q | q | q
        · rw [q]; exact hel
        · rw [q]; exact hzl
        · rw [q]; exact Heap.lt_size hTI
        · rw [q]; exact Heap.lt_size hTO
        · rw [q]; exact sqIt_lt h1
        · rw [q]; exact sqIt_lt h2
      rw [upd_ne (Nat.ne_of_lt (Nat.lt_succ_of_lt hlt)), upd_ne (Nat.ne_of_lt hlt)]
      exact (hf c hcm).1
  done := by
    intro X hP hw hK hc i pins s σ H E I hf st hg
    subst hP hw hK
    obtain ⟨⟨old, he⟩, hz, hTI, ⟨x0, y0, hTO⟩, h1, h2⟩ := st
    obtain ⟨xs, ys, hqx, hqy, le1, le2, hend⟩ := hg
    obtain ⟨its, rv, p, _⟩ := sq_get I hqx
    obtain ⟨its2, rv2, p2, _⟩ := sq_get I hqy
    have l1 := rv.length
    have l2 := rv2.length
    have hTy : s.TypeIs (.ref e) "enumerate" := ⟨_, he, rfl⟩
    unfold pyNext
    refine wpAny_bind (wpAny_attempt (wpAny_callSpecial?_slot (name := Str.ofString "__next__") hTy F.slot_enumerate_next
      (wpAny_call_entry F.slot_enumerate_next hTy F.entry_enumerate_next ?_ (F.args_enumerate_next_1 _))))
    show wpAny _ _ (field (.ref e) 2 >>= _) _ _ _
    refine wpAny_bind (wpAny_field he rfl (x := .ref z) rfl ?_)
    refine wpAny_bind (nextOf_zipG_end D.S (sq_draws (prog := X.prog) (w := X.w) (A := X.A.in1.in1) b1 (I.ok.hd hc) i1 a1 (sq_ne (K := X.K) h1 p) its.toArray) (sq_draws (prog := X.prog) (w := X.w) (A := X.A.in1.in1) b2 (I.ok.hd hc) i2 a2 (sq_ne (K := X.K) h2 p2) its2.toArray) hz hTI hTO ⟨h1, p⟩ ⟨h2, p2⟩
      (by simp; omega) (by simp; omega) (by simp; omega) fun h' tk x hk hx' => ?_)
    obtain ⟨o, ho, hco⟩ := hx'
    refine wpAny_bind (wpAny_isInstance (T := "StopIteration") (b := true) ⟨o, ho, hco⟩ isSubtype_stop ?_)
    refine wpAny_pure ⟨rfl, I.turnedL (ch := [e, z, TI, TO, i1, i2]) (fun c o hb q => hk c o (fun q' => hb (by simp [q'])) (fun q' => hb (by simp [q'])) (fun q' => hb (by simp [q'])) (fun q' => hb (by simp [q'])) q) hf⟩
  self := fun A i s Q E st h => by obtain ⟨⟨old, he⟩, _⟩ := st; exact wpAny_pyIter_enum he h
theorem meets_enumerate_Z {z TI TO : Addr} :
    Meets (Builtin.«enumerate.__new__» ⟨[.type "enumerate", .ref z], []⟩) (fun _ R s => IsZip s.heap z TI TO .none ∧
      R (.ok (.ret (.ref s.heap.objs.size))) { s with heap := s.heap.push { cls := .type "enumerate", data := .fields #[.none, .bool false, .ref z, rawInt 0, .none, .none] } }) :=
  .of_wp fun prog w A R s h => by
    obtain ⟨hp, g, d, tk, os⟩ := s; obtain ⟨h1, h⟩ := h
    have hsub := sub_enumerate
    have q1 : ∀ {A' : Around} {E : Value → Shared → Prop} {Q : Value → Shared → Prop}, Q (.ref z) ⟨hp, g, d, tk, os⟩ → wpAny (model prog w) A' (pyIter (.ref z)) Q E ⟨hp, g, d, tk, os⟩ :=
      fun q => wpAny_pyIter_zip h1 q
    wp_walk using q1
    refine wpAny_stack_any fun st => wpAny_pure ?_
    split
    · rename_i c _ _ _ _ _
      cases (c == Value.type "enumerate")
      · wp_walk using q1
        exact ⟨_, rfl, h⟩
      · wp_walk using q1
        exact ⟨_, rfl, h⟩
    · wp_walk using q1
      exact ⟨_, rfl, h⟩
theorem enum_beginsZ {prog : Program} {w : World} {A : Around} {E : Value → Shared → Prop} {s : Shared} {z TI TO : Addr} {Q : Value → Shared → Prop} (h1 : IsZip s.heap z TI TO .none)
    (h : ∀ h', IsEnum h' s.heap.objs.size z 0 .none → h'.objs.size = s.heap.objs.size + 1 →
      (∀ b o, s.heap.get? b = some o → h'.get? b = some o) → Q (.ref s.heap.objs.size) { s with heap := h' }) :
    wpAny (model prog w) A (call (.type "enumerate") [.ref z]) Q E s := by
  refine callType_new F.called_enumerate (by decide) (F.typeCall_enumerate_1 _) (F.newCall_enumerate_1 _) (fun obj => F.args_object_init_2 obj _) F.entry_enumerate_new
    meets_enumerate_Z ⟨h1, ?_⟩
  have he : IsEnum (s.heap.push { cls := .type "enumerate", data := .fields #[.none, .bool false, .ref z, rawInt 0, .none, .none] }) s.heap.objs.size z 0 .none :=
    Heap.get?_push_size s.heap (o := { cls := .type "enumerate", data := .fields #[.none, .bool false, .ref z, rawInt 0, .none, .none] }) rfl
  exact ⟨⟨_, he, rfl⟩, h _ he (by rw [Heap.size_push]) fun b o x => Heap.get?_push_of_some _ x⟩
def iEZ (K : PySem.W.Frag) (ta : TA) : TI := fun σ H R => ta σ H fun vs H1 => ∃ b1 b2 a1 a2 xs ys, vs = [.ref a1, .ref a2] ∧ Sq b1 K H1 a1 xs ∧ Sq b2 K H1 a2 ys ∧ R (ItEZ b1 b2 K a1 a2) H1
theorem pi_EZ {X : Cx} {e e2 : Expr} {ta : TA} {p pos p' pos' tpos : Pos} {elts : List Expr} {kk : Nat} (hge : Gl X "enumerate") (hme : X.mg "enumerate" = none) (hg : Gl X "zip") (hm : X.mg "zip" = none) (ha : PA X [e, e2] ta)
    (hse : starEach [.Call (.Name "zip" p) [e, e2] [] pos] X.env = [(false, eval (.Call (.Name "zip" p) [e, e2] [] pos) X.env)] := by rfl)
    (hs : starEach [e, e2] X.env = (false, eval e X.env) :: starEach [e2] X.env := by rfl) (hpl : (backTo pos (starEach [e2] X.env)).any (·.1) = false := by rfl) :
    PI X (.Tuple elts kk tpos) (.Call (.Name "enumerate" p') [.Call (.Name "zip" p) [e, e2] [] pos] [] pos') (iEZ X.K ta) := by
  refine ⟨fun pins s σ H R I h => ?_⟩
  refine Call_ (ld_blt I hge hme boot_enumerate (PyProof.Rows.callWith_type1 ?_ hse rfl))
  rw [hse]
  show wpAny _ _ (spliced ((false, eval (.Call (.Name "zip" p) [e, e2] [] pos) X.env) :: [])) _ _ s
  refine Calls.spliced_cons ?_
  refine Call_ (ld_blt I hg hm PyProof.Rows.boot_zip (PyProof.Rows.callWith_type1 (thn (ha.run pos pins s σ H _ I h) fun us s1 ⟨vs, H1, I1, r1, q1⟩ => ?_) hs hpl))
  obtain ⟨b1, b2, a1, a2, xs, ys, ex, hqx, hqy, q⟩ := q1
  subst ex
  cases r1 with
  | cons r rr =>
    cases rr with
    | cons r' rr =>
      cases rr
      cases r
      cases r'
      obtain ⟨its, rv, p1, lt1⟩ := sq_get I1 hqx
      obtain ⟨its2, rv2, p2, lt2⟩ := sq_get I1 hqy
      refine zip_begins2 (sq_begins b1 a1 its.toArray) (sq_begins b2 a2 its2.toArray) p1 p2 fun h' hz hTI hTO h1 h2 hsz hk => Calls.spliced_nil ?_
      refine enum_beginsZ (s := { s1 with heap := h' }) hz fun h'' he hsz2 hk2 => wpAny_pyIter_enum he ?_
      replace hsz : h'.objs.size = s1.heap.objs.size + 5 := hsz
      replace hsz2 : h''.objs.size = h'.objs.size + 1 := hsz2
      replace he : IsEnum h'' h'.objs.size (s1.heap.objs.size + 4) 0 .none := he
      rw [hsz] at he
      have I2 : Inv X pins σ H1 { s1 with heap := h'' } := I1.kept (t' := s1.toks) fun b o x => hk2 b o (hk b o x)
      have n0 : ∀ k : Nat, k < 5 → s1.heap.objs.size + 5 ≠ s1.heap.objs.size + k := fun k hk z => by
        have := Nat.add_left_cancel z
        omega
      have na : ∀ a : Addr, a < s1.heap.objs.size → s1.heap.objs.size + 5 ≠ a := fun a h z => by
        rw [← z] at h
        exact absurd h (Nat.not_lt.mpr (Nat.le_add_right _ _))
      have D : SepE (s1.heap.objs.size + 5) (s1.heap.objs.size + 4) (s1.heap.objs.size + 2) (s1.heap.objs.size + 3) s1.heap.objs.size (s1.heap.objs.size + 1) a1 a2 :=
        ⟨(sep2_of lt1 lt2).S, n0 4 (by decide), n0 2 (by decide), n0 3 (by decide), pr_ne _ _ _ (n0 0 (by decide)) (na _ lt1), pr_ne _ _ _ (n0 1 (by decide)) (na _ lt2)⟩
      have freshA : ∀ c, c ∈ [s1.heap.objs.size + 5, s1.heap.objs.size + 4, s1.heap.objs.size + 2, s1.heap.objs.size + 3, s1.heap.objs.size, s1.heap.objs.size + 1] → FpOk X pins H1 c := fun c hcm => by
        have e' : c = s1.heap.objs.size + 5 ∨ c = s1.heap.objs.size + 4 ∨ c = s1.heap.objs.size + 2 ∨ c = s1.heap.objs.size + 3 ∨ c = s1.heap.objs.size ∨ c = s1.heap.objs.size + 1 := by simpa using hcm
        have hle : s1.heap.objs.size ≤ c := by
          rcases e' with z | z | z | z | z | z
          · rw [z]; exact Nat.le_add_right _ _
          · rw [z]; exact Nat.le_add_right _ _
          · rw [z]; exact Nat.le_add_right _ _
          · rw [z]; exact Nat.le_add_right _ _
          · rw [z]; exact Nat.le_refl _
          · rw [z]; exact Nat.le_add_right _ _
        exact I1.fpOk hle (I1.hok.fresh hle)
      rw [show h'.objs.size = s1.heap.objs.size + 5 from hsz]
      exact ⟨s1.heap.objs.size + 5, [s1.heap.objs.size + 5, s1.heap.objs.size + 4, s1.heap.objs.size + 2, s1.heap.objs.size + 3, s1.heap.objs.size, s1.heap.objs.size + 1], _, _, H1, rfl, I2, turn_EZ b1 b2 D, ⟨⟨_, he⟩, ⟨_, _, .inl rfl, hk2 _ _ hz⟩, hk2 _ _ hTI, ⟨_, _, hk2 _ _ hTO⟩, sqO_it (hk2 _ _ h1), sqO_it (hk2 _ _ h2)⟩, freshA, q⟩
/-- enumerate(zip(l, m)) -/
def dEnZ (δa δb : TED) : TID := fun ρ S Q => δa ρ S fun x S1 => δb ρ S1 fun y S2 => match S2.itOf x, S2.itOf y with
  | some i, some j => Q ⟨enumFrom 0 (List.zipWith (fun d e => .tup [d, e]) i.xs j.xs), fun S' => i.ok S' ∧ j.ok S'⟩ S2
  | _, _ => False
section
variable {X : Cx} {δa δb : TED} {e : Expr} {pos : Pos}
theorem di_enZ {e2 : Expr} {elts : List Expr} {kk : Nat} {tpos p p' pos' : Pos} (hme : X.mg "enumerate" = none) (hm : X.mg "zip" = none) (hl : DE X e δa) (hl2 : DE X e2 δb) (hge : Gl X "enumerate" := by rfl) (hg : Gl X "zip" := by rfl) (hs2 : starEach [e2] X.env = (false, eval e2 X.env) :: starEach [] X.env := by rfl)
    (hse : starEach [.Call (.Name "zip" p) [e, e2] [] pos] X.env = [(false, eval (.Call (.Name "zip" p) [e, e2] [] pos) X.env)] := by rfl)
    (hs : starEach [e, e2] X.env = (false, eval e X.env) :: starEach [e2] X.env := by rfl) (hpl : (backTo pos (starEach [e2] X.env)).any (·.1) = false := by rfl) :
    DI X (.Tuple elts kk tpos) (.Call (.Name "enumerate" p') [.Call (.Name "zip" p) [e, e2] [] pos] [] pos') (dEnZ δa δb) := piW (pi_EZ hge hme hg hm (ha := pa_cons hl (pa_cons hl2 pa_nil hs2) hs) hse hs hpl) fun σ H R ⟨ρ, S, Qd, re, rs, q, k⟩ => by
  refine ⟨ρ, S, _, re, rs, q, fun d S1 v H1 q1 g1 r1 => ?_⟩
  refine ⟨ρ, S1, _, re.tp g1.tp, g1.rs, q1, fun d' S2 v' H2 q2 g2 r2 => ?_⟩
  try dsimp only at q2
  split at q2
  · rename_i it jt hit hjt
    obtain ⟨b, a, rfl, ok, sr⟩ := src_at hit (r1.tp g2.tp) g2.rs
    obtain ⟨b', a', rfl, ok2, sr2⟩ := src_at hjt r2 g2.rs
    obtain ⟨vs, h1, _⟩ := sr S2 H2 Tp.refl g2.rs ok
    obtain ⟨vs2, h12, _⟩ := sr2 S2 H2 Tp.refl g2.rs ok2
    refine ⟨b, b', a, a', vs, vs2, rfl, h1, h12, k _ _ _ _ q2 (g1.trans g2) ⟨fun i x S' H' hx tp rs' ok' => ?_, fun S' H' tp rs' ok' => ?_⟩⟩
    · obtain ⟨ws, s1, s2⟩ := sr S' H' tp rs' ok'.1
      obtain ⟨ws2, s12, s22⟩ := sr2 S' H' tp rs' ok'.2
      rw [enumFrom_get, List.getElem?_zipWith] at hx
      cases e1 : it.xs[i]? with
      | none => rw [e1] at hx; cases hx
      | some y =>
        cases e2 : jt.xs[i]? with
        | none => rw [e1, e2] at hx; cases hx
        | some y2 =>
          rw [e1, e2] at hx
          cases hx
          obtain ⟨w, f1, rw1⟩ := s2.get e1
          obtain ⟨w2, f2, rw2⟩ := s22.get e2
          refine ⟨⟨ws, ws2, w, w2, s1, s12, f1, f2⟩, fun u H3 yy => ?_⟩
          obtain ⟨T, T2, x', y', rfl, nT, nT2, hne, rfl, hy, hy2⟩ := yy
          have e3 := hy ws s1
          rw [f1] at e3; cases e3
          have e4 := hy2 ws2 s12
          rw [f2] at e4; cases e4
          have g : Go X.K S' H' S' (upd H' T (.tup [w, w2])) := Go.fresh rs' nT
          have nT2' : (upd H' T (.tup [w, w2])) T2 = none := by rw [upd_ne hne]; exact nT2
          have g2 : Go X.K S' (upd H' T (.tup [w, w2])) S' (upd (upd H' T (.tup [w, w2])) T2 (.tup [.int (i : Nat), .ref T])) := Go.fresh g.rs nT2'
          refine ⟨g.trans g2, ?_⟩
          have r0 : RD X.K S' (upd H' T (.tup [w, w2])) (.tup [y, y2]) (.ref T) := RD.pair upd_same (rw1.tp g.tp) (rw2.tp g.tp)
          refine RD.pair upd_same ?_ (r0.tp g2.tp)
          rw [Nat.zero_add]
          exact RD.int
    · obtain ⟨ws, s1, s2⟩ := sr S' H' tp rs' ok'.1
      obtain ⟨ws2, s12, s22⟩ := sr2 S' H' tp rs' ok'.2
      have l1 := s2.len
      have l2 := s22.len
      refine ⟨ws, ws2, s1, s12, ?_, ?_, ?_⟩ <;> rw [enumFrom_len, List.length_zipWith] <;> omega
  · exact q2.elim
end
end PL
namespace PL
open PySem PySem.Spec PySem.W PyProof.Rows L2
/-! ### a list that is put away: nobody changes it from here on -/
def dFrz (δ : TED) : TED := fun ρ S Q => δ ρ S fun x S1 => match x with
  | .ref p => match S1 p with
    | some (.lst ds) => Q (.lst ds) (S1.del p)
    | _ => False
  | _ => False
theorem frz_at {ρ : DEnv} {S S1 : Sto} {Q : QD} {p : Addr} {ds : List D} (h : S1 p = some (.lst ds)) (q : Q (.lst ds) (S1.del p)) : (match S1 p with
    | some (.lst ds) => Q (.lst ds) (S1.del p)
    | _ => False) := by rw [h]; exact q
section
variable {X : Cx} {δ : TED} {e : Expr}
theorem de_frz (h : DE X e δ) : DE X e (dFrz δ) := peW h fun σ H Q ⟨ρ, S, Qd, re, rs, q, k⟩ => by
  refine ⟨ρ, S, _, re, rs, q, fun d S1 v H1 q1 g1 r1 => ?_⟩
  try dsimp only at q1
  cases d with
  | ref p =>
    try dsimp only at q1
    split at q1
    · rename_i ds hp
      obtain ⟨gg, rr⟩ := (Fz.freeze hp).ok X.K H1 v g1.rs r1
      exact k _ _ _ _ q1 (g1.trans gg) rr
    · exact q1.elim
  | _ => exact q1.elim
end
/-- a tuple that tells a list of its own -/
theorem Fz.tupL {S S' : Sto} {a : Addr} {ds xs : List D} (hE : Ext S S') (ha : S' a = some (.lst ds)) (hn : S a = none) : Fz S' (.tup (xs ++ [.ref a])) S (.tup (xs ++ [.lst ds])) := ⟨fun K H v rs r => by
  have g := go_ext hE rs
  refine ⟨g, ?_⟩
  rw [RD] at r ⊢
  obtain ⟨b, vs, h1, h2, h3⟩ := r
  refine ⟨b, vs, h1, h2, ?_⟩
  have key : ∀ (xs : List D) (vs : List V), RDs K S' H (xs ++ [.ref a]) vs → RDs K S H (xs ++ [.lst ds]) vs := by
    intro xs
    induction xs with
    | nil =>
      intro vs h
      obtain ⟨v, rfl, hv⟩ := RDs.one h
      exact RDs.cons ((Fz.extL hE ha hn).ok K H v rs hv).2 (RDs.nil.mpr rfl)
    | cons x xs ih =>
      intro vs h
      rw [List.cons_append, RDs] at h
      obtain ⟨v, r, rfl, h2, h3⟩ := h
      exact RDs.cons (h2.tp g.tp) (ih r h3)
  exact key xs vs h3⟩
theorem FzQ.tupL {Q : QD} {a : Addr} {ds xs : List D} {S S' : Sto} (h : Ext S S') (ha : S' a = some (.lst ds)) (hn : S a = none) (q : Q (.tup (xs ++ [.lst ds])) S) : FzQ Q (.tup (xs ++ [.ref a])) S' := ⟨_, S, q, Fz.tupL h ha hn⟩
/-! ### sorted(t) of a tuple -/
section
open PySem.Calls
variable {prog : Program} {w : World} {A : Around} {E : Value → Shared → Prop} {s : Shared}
theorem collect_tup {l : Addr} {vs : List Value} {Q : List Value → Shared → Prop} (hl : s.heap.IsTuple l vs.toArray)
    (h : Q vs { s with heap := (s.heap.push (seqObj "list" #[] 0)).update s.heap.objs.size (Obj.mapSeq (· ++ vs.toArray)) }) (hsz : vs.length ≤ sizeLine) :
    wpAny (model prog w) A (collect (.ref l)) Q E s := by
  obtain ⟨o, ho, hc, n, hd⟩ := id hl
  unfold collect
  refine wpAny_bind (wpAny_runValue (codeAny_builtin entry_proto_collect' ?_))
  show wpAny _ _ (do again (.builtin "list.__iadd__" ⟨[← newList [], .ref l], []⟩)) _ _ s
  refine wpAny_bind (wpAny_newList (wpAny_pure ⟨Code.quiet_builtin _ (by decide +kernel), codeAny_builtin entry_list_iadd' ?_⟩))
  show wpAny _ _ (Builtin.List.listExtendWith (.ref s.heap.objs.size) (.ref l) (.ref s.heap.objs.size)) _ _ { s with heap := s.heap.push (seqObj "list" #[] 0) }
  unfold Builtin.List.listExtendWith
  have ho' : (s.heap.push (seqObj "list" #[] 0)).get? l = some o := Heap.get?_push_of_some _ ho
  refine wpAny_bind (wpAny_typeOf (T := "tuple") ⟨o, ho', hc⟩ ?_)
  have ht : (Value.type "tuple" == Value.type "tuple") = true := by rfl
  rw [if_pos (by rw [ht]; simp)]
  refine wpAny_bind (listItems_at ho' hd ?_)
  refine wpAny_bind (listItems_at (xs := #[]) (n := 0) (Heap.get?_push_size _ rfl) rfl ?_)
  rw [if_neg (by simp)]
  refine wpAny_bind (listUpdate_at (xs := #[]) (n := 0) (Heap.get?_push_size _ rfl) rfl ?_ (Nat.zero_le _) (by show (#[] ++ vs.toArray).size ≤ sizeLine + 1; simp only [Array.size_append, List.size_toArray, List.length_nil]; omega))
  refine wpAny_pure ?_
  show wpAny (model prog w) A (do
      let o ← load s.heap.objs.size
      match o.data with
      | .seq xs _ => pure xs.toList
      | _ => unsupported "internal:collect") Q E { s with heap := (s.heap.push (seqObj "list" #[] 0)).update s.heap.objs.size (Obj.mapSeq (· ++ vs.toArray)) }
  refine wpAny_bind (wpAny_load (get?_update_seq (Heap.get?_push_size _ rfl) _) ?_)
  show wpAny _ _ (pure ((#[] : Array Value) ++ vs.toArray).toList) Q E _
  rw [show ((#[] : Array Value) ++ vs.toArray).toList = vs by simp]
  exact wpAny_pure h
theorem sorted_of_sortT {l : Addr} {vs : List Value} {kw : List (Str × Value)} {Q : Value → Shared → Prop} (hl : s.heap.IsTuple l vs.toArray) (hL : vs.length ≤ sizeLine) (ha1 : argsOk "sorted" ⟨[.ref l], kw⟩) (ha2 : ∀ x, argsOk "list.sort" ⟨[.ref x], kw⟩)
    (body : ∀ E' : Value → Shared → Prop, wpAny (model prog w) A.in1.in1 (Builtin.«list.sort» ⟨[.ref (s.heap.objs.size + 1)], kw⟩) (fun f s' => f = .done (.ret .none) ∧ Q (.ref (s.heap.objs.size + 1)) s') E' { s with heap := copyHeap s.heap vs }) :
    wpAny (model prog w) A (call (.builtin "sorted") [.ref l] kw) Q E s := by
  refine call_function_entry_kw kind_sorted plain_sorted entry_sorted ha1 ?_
  unfold Builtin.«sorted»
  refine wpAny_bind (m := checkCount "sorted" 1 1 _) (wpAny_pure ?_)
  refine wpAny_bind (collect_tup hl ?_ hL)
  refine wpAny_bind (wpAny_newList ?_ hL)
  have hsz : ((s.heap.push (seqObj "list" #[] 0)).update s.heap.objs.size (Obj.mapSeq (· ++ vs.toArray))).objs.size = s.heap.objs.size + 1 := by
    rw [Heap.size_update, size_push']
  show wpAny _ _ _ _ _ { s with heap := copyHeap s.heap vs }
  rw [hsz]
  refine wpAny_bind (wpAny_holding (wpAny_call_entry_kw slot_list_sort ⟨_, copyHeap_at s.heap vs, rfl⟩ entry_list_sort ?body (ha2 _)))
  case body =>
    show wpAny (model prog w) A.in1.in1 (Builtin.«list.sort» ⟨[.ref (s.heap.objs.size + 1)], kw⟩) _ _ _
    refine wpAny_mono (body _) (fun f s' hf => ?_) fun _ _ e => e
    obtain ⟨rfl, hq⟩ := hf
    exact ⟨_, rfl, wpAny_pure ⟨_, rfl, hq⟩⟩
theorem sorted_dataT {β : Type} {vs : List Value} {bs : List β} {enc : β → PyData} {R : Value → β → Prop} {l : Addr} {Q : Value → Shared → Prop} (hl : s.heap.IsTuple l vs.toArray) (e : EachIs R vs bs) (er : EachIs (fun v b => ∃ as, Reads s.heap v (enc b) as) vs bs) (hal : AllAlike (bs.map enc)) (hk : Sortable (bs.map enc)) (hL : bs.length ≤ sizeLine)
    (hu : ∀ b, b ∈ bs → A.units + 2 + (enc b).depth < cLine) (h : ∀ out, out.length = bs.length → EachIs R out (bs.mergeSort (dataLe false enc)) → Q (.ref (s.heap.objs.size + 1)) { s with heap := PyProof.Rows.sortedAll s.heap vs (List.toArray out) }) :
    wpAny (model prog w) A (call (.builtin "sorted") [.ref l]) Q E s := by
  have er' : EachIs (fun v b => ∃ as, Reads (sortingHeap (copyHeap s.heap vs) (s.heap.objs.size + 1) vs) v (enc b) as) vs bs := er.mono fun _ _ ⟨as, r⟩ => ⟨as, PyProof.Rows.Reads.keeps (fun _ _ => sorting_copy_old) r⟩
  have S := SortsAt.data (prog := prog) (w := w) (A := A.in1.in1) (s := { s with heap := sortingHeap (copyHeap s.heap vs) (s.heap.objs.size + 1) vs }) (each_map (R := fun v d => ∃ as, Reads (sortingHeap (copyHeap s.heap vs) (s.heap.objs.size + 1) vs) v d as) enc er') hal hk (bound_map hu)
  have hlv : vs.length ≤ sizeLine := by rw [e.length]; exact hL
  exact sorted_of_sortT hl hlv (args_sorted1 _) (fun _ => args_list_sort _) fun _ => list_sort_vals (s := { s with heap := copyHeap s.heap vs }) (copyHeap_at s.heap vs) S hlv ⟨rfl,
    h _ (by rw [sortVals_length false rfl]; exact e.length) (sortVals_data false e er' hal)⟩
end
def oSortedT (r : Bool) : RLD := fun ds S Q => match ds with
  | [.tup es] => (es.all (D.okn 8) = true ∧ akin es ∧ Sortable (es.map D.py) ∧ es.length ≤ sizeLine) ∧ newL r (es.mergeSort leD) S Q
  | _ => False
section
variable {X : Cx}
theorem p_sortedT (hu : X.A.units + 64 < cLine) {r : Bool} : CallD X (.builtin "sorted") (oSortedT r) := by
  intro pins s σ H vs us Q I rr0 ⟨ds, S, Qd, rr, rs, q, k⟩
  unfold oSortedT at q
  split at q
  · rename_i es
    obtain ⟨⟨ok, ak, so, hz⟩, q⟩ := q
    obtain ⟨v, rfl, r1⟩ := rr.one
    rw [RD] at r1
    obtain ⟨a, ws, rfl, t1, s1⟩ := r1
    rw [Vals.ref1 rr0]
    obtain ⟨its, rv, pl, hz2⟩ := I.tuple t1
    obtain ⟨e1, e2⟩ := each_rd (K := X.K) I ok s1 rv
    have ak' : AllAlike (es.map D.py) := by have := (akin_all ak).1; rw [D.pys_eq] at this; exact this
    refine sorted_dataT (vs := its) (bs := es) (enc := D.py) (by exact pl) e1 e2 ak' so hz (fun b hb => ?_) fun out hlen eo => ?_
    · have := (D.okn_lay 8 b (List.all_eq_true.mp ok b hb)).2
      omega
    · obtain ⟨ys, v1, v2⟩ := rd_each eo
      obtain ⟨ep, he'⟩ := PyProof.Rows.sortedAll_at s.heap its out.toArray
      have hl : ys.length ≤ sizeLine := by rw [v2.len, List.length_mergeSort]; exact hz
      exact ⟨.ref _, upd H (s.heap.objs.size + 1) (.lst ys), I.laid (t' := s.toks) (fun _ _ => PyProof.Rows.sortedAll_old) (Nat.le_succ _) ⟨hl, out, ep, v1, he'⟩, rfl, newL_ok rs v2 q k _ (I.hok.fresh (Nat.le_succ _))⟩
  · exact q.elim
end
end PL
/-! dicts (keys: ints, texts) -/
namespace PL
open PySem PySem.Spec PySem.W PyProof.Rows L2
/-! ### tables -/
abbrev KD := List (Key × D)
def valD (kvs : KD) (k : Key) : Option D := (kvs.find? fun kv => decide (kv.1 = k)).map (·.2)
def putD (kvs : KD) (k : Key) (d : D) : KD := if (kvs.any fun kv => decide (kv.1 = k)) = true then kvs.map (fun kv => if kv.1 = k then (kv.1, d) else kv) else kvs ++ [(k, d)]
theorem valD_pos {p : Key × D} {r : KD} {k : Key} (e : p.1 = k) : valD (p :: r) k = some p.2 := by simp [valD, List.find?_cons, e]
theorem valD_neg {p : Key × D} {r : KD} {k : Key} (e : ¬ p.1 = k) : valD (p :: r) k = valD r k := by simp [valD, List.find?_cons, e]
theorem valD_any (k : Key) : ∀ kvs : KD, (kvs.any fun kv => decide (kv.1 = k)) = (valD kvs k).isSome
  | [] => rfl
  | p :: r => by
    rw [List.any_cons]
    by_cases e : p.1 = k
    · simp only [valD_pos e, decide_eq_true e, Bool.true_or, Option.isSome_some]
    · rw [valD_neg e, decide_eq_false e, Bool.false_or]; exact valD_any k r
theorem putD_new {kvs : KD} {k : Key} {d : D} (h : valD kvs k = none) : putD kvs k d = kvs ++ [(k, d)] := by
  unfold putD
  rw [valD_any, h]
  exact if_neg (by decide)
theorem valD_snoc {kvs : KD} {k j : Key} {d : D} (h : valD kvs k = none) : valD (kvs ++ [(k, d)]) j = if j = k then some d else valD kvs j := by
  induction kvs with
  | nil =>
    by_cases e : k = j
    · rw [if_pos e.symm]; exact valD_pos (p := (k, d)) e
    · rw [if_neg (fun z => e z.symm)]; exact valD_neg (p := (k, d)) e
  | cons p r ih =>
    rw [List.cons_append]
    have hk : ¬ p.1 = k := fun z => by rw [valD_pos z] at h; cases h
    rw [valD_neg hk] at h
    by_cases e : p.1 = j
    · rw [valD_pos e, valD_pos e, if_neg (fun z => hk (e.trans z))]
    · rw [valD_neg e, valD_neg e, ih h]
section
variable {K : PySem.W.Frag} {S : Sto} {H : Hp}
/-- the table as it stands -/
def RK (K : PySem.W.Frag) (S : Sto) (H : Hp) (kvs : KD) (ws : List (Key × V)) : Prop := ws.map (·.1) = kvs.map (·.1) ∧ RDs K S H (kvs.map (·.2)) (ws.map (·.2))
theorem RK.cons_inv {p : Key × D} {kvs : KD} {ws : List (Key × V)} (h : RK K S H (p :: kvs) ws) : ∃ q ws', ws = q :: ws' ∧ q.1 = p.1 ∧ RD K S H p.2 q.2 ∧ RK K S H kvs ws' := by
  obtain ⟨h1, h2⟩ := h
  cases ws with
  | nil => cases h1
  | cons q ws' =>
    rw [List.map_cons, List.map_cons] at h1
    obtain ⟨e1, e2⟩ := List.cons.inj h1
    rw [List.map_cons, List.map_cons, RDs] at h2
    obtain ⟨v, r, e3, h3, h4⟩ := h2
    have e5 := (List.cons.inj e3).1
    have e6 := (List.cons.inj e3).2
    exact ⟨q, ws', rfl, e1, by rw [e5]; exact h3, e2, by rw [e6]; exact h4⟩
theorem RK.val : ∀ {kvs : KD} {ws : List (Key × V)}, RK K S H kvs ws → ∀ k, (∀ d, valD kvs k = some d → ∃ v, valV ws k = some v ∧ RD K S H d v) ∧ (valD kvs k = none → valV ws k = none)
  | [], ws, h, k => by
    have : ws = [] := List.map_eq_nil_iff.mp h.1
    subst this
    exact ⟨fun d e => (by cases e), fun _ => rfl⟩
  | p :: kvs, ws, h, k => by
    obtain ⟨q, ws', rfl, e1, h2, h3⟩ := h.cons_inv
    by_cases e : p.1 = k
    · rw [valD_pos e, valV_pos (e1.trans e)]
      exact ⟨fun d e => by rw [← Option.some.inj e]; exact ⟨_, rfl, h2⟩, fun e => by cases e⟩
    · rw [valD_neg e, valV_neg (by rw [e1]; exact e)]
      exact RK.val h3 k
theorem RK.isSome {kvs : KD} {ws : List (Key × V)} (h : RK K S H kvs ws) (k : Key) : (valV ws k).isSome = (valD kvs k).isSome := by
  obtain ⟨h1, h2⟩ := h.val k
  cases e : valD kvs k with
  | none => rw [h2 e]; rfl
  | some d => obtain ⟨v, e2, _⟩ := h1 d e; rw [e2]; rfl
theorem RK.cons {p : Key × D} {kvs : KD} {q : Key × V} {ws : List (Key × V)} (h : RK K S H kvs ws) (e : q.1 = p.1) (r : RD K S H p.2 q.2) : RK K S H (p :: kvs) (q :: ws) :=
  ⟨by rw [List.map_cons, List.map_cons, e, h.1], by rw [List.map_cons, List.map_cons]; exact RDs.cons r h.2⟩
theorem RK.nil : RK K S H [] [] := ⟨rfl, RDs.nil.mpr rfl⟩
theorem RK.snoc {k : Key} {d : D} {v : V} (r : RD K S H d v) : ∀ {kvs : KD} {ws : List (Key × V)}, RK K S H kvs ws → RK K S H (kvs ++ [(k, d)]) (ws ++ [(k, v)])
  | [], ws, h => by
    have : ws = [] := List.map_eq_nil_iff.mp h.1
    subst this
    exact RK.nil.cons rfl r
  | p :: kvs, ws, h => by
    obtain ⟨q, ws', rfl, e1, h2, h3⟩ := h.cons_inv
    exact (RK.snoc r h3).cons e1 h2
theorem RK.rep {k : Key} {d : D} {v : V} (r : RD K S H d v) : ∀ {kvs : KD} {ws : List (Key × V)}, RK K S H kvs ws → RK K S H (kvs.map fun kv => if kv.1 = k then (kv.1, d) else kv) (ws.map fun kv => if kv.1 = k then (kv.1, v) else kv)
  | [], ws, h => by
    have : ws = [] := List.map_eq_nil_iff.mp h.1
    subst this
    exact RK.nil
  | p :: kvs, ws, h => by
    obtain ⟨q, ws', rfl, e1, h2, h3⟩ := h.cons_inv
    rw [List.map_cons, List.map_cons]
    refine (RK.rep r h3).cons ?_ ?_
    · by_cases e : p.1 = k
      · rw [if_pos e, if_pos (e1.trans e)]; exact e1
      · rw [if_neg e, if_neg (by rw [e1]; exact e)]; exact e1
    · by_cases e : p.1 = k
      · rw [if_pos e, if_pos (e1.trans e)]; exact r
      · rw [if_neg e, if_neg (by rw [e1]; exact e)]; exact h2
theorem RK.put {kvs : KD} {ws : List (Key × V)} (h : RK K S H kvs ws) (k : Key) {d : D} {v : V} (r : RD K S H d v) : RK K S H (putD kvs k d) (putK ws k v) := by
  unfold putD putK
  rw [valD_any, valV_any, h.isSome k]
  split
  · exact RK.rep r h
  · exact RK.snoc r h
theorem RK.len {kvs : KD} {ws : List (Key × V)} (h : RK K S H kvs ws) : ws.length = kvs.length := by
  have := congrArg List.length h.1
  rwa [List.length_map, List.length_map] at this
theorem RK.tp {S' : Sto} {H' : Hp} {kvs : KD} {ws : List (Key × V)} (h : RK K S H kvs ws) (e : Tp S H S' H') : RK K S' H' kvs ws := ⟨h.1, h.2.tp e⟩
end
/-! ### keys -/
def keyOD : D → Option Key
  | .int i => some (.inl i)
  | .str x => some (.inr x)
  | _ => none
theorem keyOD_rd {K : PySem.W.Frag} {S : Sto} {H : Hp} {d : D} {v : V} {k : Key} (h : keyOD d = some k) (r : RD K S H d v) : v = kV k := by
  cases d with
  | int i => rw [← Option.some.inj h]; rw [RD] at r; exact r
  | str x => rw [← Option.some.inj h]; rw [RD] at r; exact r
  | _ => cases h
def Sto.dk (S : Sto) : D → Option (Addr × KD)
  | .ref p => match S p with
    | some (.dK kvs) => some (p, kvs)
    | _ => none
  | _ => none
theorem dk_is {S : Sto} {d : D} {p : Addr} {kvs : KD} (h : S.dk d = some (p, kvs)) : d = .ref p ∧ S p = some (.dK kvs) := by
  unfold Sto.dk at h
  split at h
  · rename_i q
    split at h
    · rename_i l e
      obtain ⟨rfl, rfl⟩ := Prod.mk.inj (Option.some.inj h)
      exact ⟨rfl, e⟩
    · cases h
  · cases h
theorem dk_ref {S : Sto} {p : Addr} {kvs : KD} (h : S p = some (.dK kvs)) : S.dk (.ref p) = some (p, kvs) := by
  show (match S p with | some (.dK kvs) => some (p, kvs) | _ => none) = _
  rw [h]
section
variable {X : Cx}
/-! ### d[k], k in d, d[k] = v -/
def oDGet : R2D := fun d e S Q => match S.dk d, keyOD e with
  | some (_, kvs), some k => match valD kvs k with
    | some x => Q x S
    | none => False
  | _, _ => False
def rDGet : R2 := fun x y H Q => ∃ a v, x = .ref a ∧ DGet H a y (some v) ∧ Q v H
theorem subTail {prog : Program} {w : World} {A : Around} {E : Value → Shared → Prop} {s : Shared} {value slice : Expr} {o i : Value} {T id : String} {Q : Value → Shared → Prop} (hT : s.TypeIs o T)
    (hl : typeLookup (.type T) "__getitem__" = pure (some (.builtin id))) (h : wpAny (model prog w) A (getItem o i) Q E s) (hs : subscripted slice false o i = operate [o, i] (getItem o i)) :
    wpAny (model prog w) A (subscriptTail value slice o i) Q E s := by
  unfold subscriptTail
  refine wpAny_bind ?_
  rw [getitemInPython_of_ne hT.not_modules]
  refine wpAny_bind (wpAny_specialOf hT hl ?_)
  have fin : wpAny (model prog w) A (subscripted slice false o i) (fun r s₃ => wpAny (model prog w) A (letTemporaryGo value o r >>= fun _ => pure r) Q E s₃) E s := by
    rw [hs]
    exact wpAny_operating (wpAny_mono h (fun r s₃ h₃ => wpAny_bind (wpAny_letTemporaryGo (wpAny_pure h₃))) fun _ _ x => x)
  first
    | exact wpAny_pure (wpAny_bind fin)
    | exact wpAny_bind (wpAny_pure (wpAny_bind fin))
    | exact wpAny_bind fin
theorem ix_dict (hu : X.A.units + 1 < cLine) : IxR X rDGet := by
  intro value slice pins s σ H x y v u Q I rx ry h hs
  obtain ⟨a, w, rfl, g, q⟩ := h
  cases rx
  exact subTail (dict_typeIs I g) PySem.F.slot_dict_getitem.lookup (d_getItem hu I g ry fun w' s' I' r' => ⟨w, H, I', r', q⟩) hs
theorem p_dget (hu : X.A.units + 64 < cLine) : IxD X oDGet := ixD_of (ix_dict (by omega)) fun d e x y S H Qd Q r1 r2 rs q k => by
  unfold oDGet at q
  split at q
  · rename_i p kvs ky hd hk
    split at q
    · rename_i z hz
      obtain ⟨rfl, hp⟩ := dk_is hd
      rw [RD] at r1
      subst r1
      have hy := keyOD_rd hk r2
      subst hy
      obtain ⟨ws, h1, h2, h3⟩ := rs p _ hp
      have rk : RK X.K S H kvs ws := ⟨h2, h3⟩
      obtain ⟨v, e1, r3⟩ := (rk.val ky).1 z hz
      have g := DGet.k (k := ky) h1
      rw [e1] at g
      exact ⟨p, v, rfl, g, k.here rs q r3⟩
    · exact q.elim
  · exact q.elim
def oDIn (neg : Bool) : R2D := fun d e S Q => match keyOD d, S.dk e with
  | some k, some (_, kvs) => Q (.bl (if neg then !(valD kvs k).isSome else (valD kvs k).isSome)) S
  | _, _ => False
theorem p_din (hu : X.A.units + 64 < cLine) : OpD X (compareOp .In) (oDIn false) := by
  intro pins s σ H x y v u Q I rx ry ⟨d, e, S, Qd, r1, r2, rs, q, k⟩
  unfold oDIn at q
  split at q
  · rename_i ky p kvs hk hd
    obtain ⟨rfl, hp⟩ := dk_is hd
    rw [RD] at r2
    subst r2
    have hy := keyOD_rd hk r1
    subst hy
    cases ry
    obtain ⟨ws, h1, h2, h3⟩ := rs p _ hp
    have rk : RK X.K S H kvs ws := ⟨h2, h3⟩
    refine d_in (by omega) I (DGet.k (k := ky) h1) rx fun s' I' => ⟨.bl _, H, I', rfl, ?_⟩
    rw [rk.isSome ky]
    exact k.here rs q RD.bl
  · exact q.elim
theorem p_dnotin (hu : X.A.units + 64 < cLine) : OpD X (compareOp .NotIn) (oDIn true) := by
  intro pins s σ H x y v u Q I rx ry ⟨d, e, S, Qd, r1, r2, rs, q, k⟩
  unfold oDIn at q
  split at q
  · rename_i ky p kvs hk hd
    obtain ⟨rfl, hp⟩ := dk_is hd
    rw [RD] at r2
    subst r2
    have hy := keyOD_rd hk r1
    subst hy
    cases ry
    obtain ⟨ws, h1, h2, h3⟩ := rs p _ hp
    have rk : RK X.K S H kvs ws := ⟨h2, h3⟩
    refine d_notIn (by omega) I (DGet.k (k := ky) h1) rx fun s' I' => ⟨.bl _, H, I', rfl, ?_⟩
    rw [rk.isSome ky]
    exact k.here rs q RD.bl
  · exact q.elim
def oDSet : TSetD := fun d e f S Q => match S.dk d, keyOD e with
  | some (p, kvs), some k => kvs.length < sizeLine ∧ Q (S.up p (.dK (putD kvs k f)))
  | _, _ => False
def rDSet : TSet := fun o i v H Q => ∃ a H', o = .ref a ∧ DPut H a i v H' ∧ Q H'
theorem set_dict (hu : X.A.units + 1 < cLine) : PSet X rDSet := by
  intro pins s σ H o i v ov iv u Q I ro ri rv h
  obtain ⟨a, H', rfl, g, q⟩ := h
  cases ro
  exact d_setItem hu I g ri rv fun s' I' => ⟨H', I', q⟩
theorem p_dset (hu : X.A.units + 64 < cLine) : SetD X oDSet := setD_of (set_dict (by omega)) fun d e f x y z S H Qd Q r1 r2 r3 rs q k => by
  unfold oDSet at q
  split at q
  · rename_i p kvs ky hd hk
    obtain ⟨hl, q⟩ := q
    obtain ⟨rfl, hp⟩ := dk_is hd
    rw [RD] at r1
    subst r1
    have hy := keyOD_rd hk r2
    subst hy
    obtain ⟨ws, h1, h2, h3⟩ := rs p _ hp
    have rk : RK X.K S H kvs ws := ⟨h2, h3⟩
    refine ⟨p, _, rfl, DPut.k (k := ky) (v := z) h1 (by rw [rk.len]; exact hl), k _ _ q ?_⟩
    exact Go.wrote rs hp fun S' H' tp e => by
      obtain ⟨a1, a2⟩ := (rk.tp tp).put ky (r3.tp tp)
      exact ⟨_, e, a1, a2⟩
  · exact q.elim
/-! ### displays -/
def dDNew : TED := fun _ S Q => ∀ p, S p = none → Q (.ref p) (S.up p (.dK []))
theorem de_dnew {pos : Pos} : DE X (.Dict [] [] pos) dDNew := peW pe_dnewK fun σ H Q ⟨ρ, S, Qd, re, rs, q, k⟩ => fun p hp => by
  have hS := rs.free hp
  exact k _ _ _ _ (q p hS) (Go.made rs hp fun S' H' tp e => ⟨[], e, rfl, RDs.nil.mpr rfl⟩) (by rw [RD])
/-- {k: v} -/
def dDOne (δk δv : TED) : TED := fun ρ S Q => ∀ p, S p = none → δk ρ (S.up p (.dK [])) fun x S1 => δv ρ S1 fun y S2 => S2 p = some (.dK []) ∧ match keyOD x with
  | some k => Q (.ref p) (S2.up p (.dK [(k, y)]))
  | none => False
theorem de_done {a b : Expr} {δk δv : TED} {pos : Pos} (ha : DE X a δk) (hb : DE X b δv) : DE X (.Dict [some a] [b] pos) (dDOne δk δv) :=
  peW (pe_disp (pps_cons ha (hv := hb) pps_nil) rfl rfl (by simp) (by simp)) fun σ H Q ⟨ρ, S, Qd, re, rs, q, k⟩ => fun p hp => by
    have hS := rs.free hp
    have g0 : Go X.K S H (S.up p (.dK [])) (upd H p (.dK [])) := Go.made rs hp fun S' H' tp e => ⟨[], e, rfl, RDs.nil.mpr rfl⟩
    refine ⟨ρ, S.up p (.dK []), _, re.tp g0.tp, g0.rs, q p hS, fun x S1 v H1 q1 g1 r1 => ?_⟩
    refine ⟨ρ, S1, _, re.tp (g0.trans g1).tp, g1.rs, q1, fun y S2 u H2 q2 g2 r2 => ?_⟩
    obtain ⟨hp2, q2⟩ := q2
    split at q2
    · rename_i ky hk
      obtain ⟨ws, h1, h2, h3⟩ := g2.rs p _ hp2
      have hws : ws = [] := List.map_eq_nil_iff.mp h2
      subst hws
      have hx := keyOD_rd hk r1
      subst hx
      refine ⟨h1, [(ky, u)], rfl, by simp, ?_⟩
      have gw : Go X.K S2 H2 (S2.up p (.dK [(ky, y)])) (upd H2 p (.dK [(ky, u)])) := Go.wrote g2.rs hp2 fun S' H' tp e => ⟨_, e, rfl, RDs.cons (r2.tp tp) (RDs.nil.mpr rfl)⟩
      exact k _ _ _ _ q2 (((g0.trans g1).trans g2).trans gw) (by rw [RD])
    · exact q2.elim
/-! ### sorted(d) -/
def oSortedD (r : Bool) : RLD := fun ds S Q => match ds with
  | [x] => match S.dk x with
    | some (_, kvs) => ∃ ks : List Int, kvs.map (·.1) = ks.map Sum.inl ∧ ks.length < 64 ∧ ∀ ys : List Int, ys.Perm ks → ys.Pairwise (· ≤ ·) → newL r (ys.map D.int) S Q
    | none => False
  | _ => False
theorem rds_of_ints {K : PySem.W.Frag} {S : Sto} {H : Hp} : ∀ ns : List Int, RDs K S H (ns.map D.int) (ns.map V.int)
  | [] => RDs.nil.mpr rfl
  | n :: ns => RDs.cons RD.int (rds_of_ints ns)
theorem p_sortedD (hc : X.calm = true) {r : Bool} : CallD X (.builtin "sorted") (oSortedD r) := by
  intro pins s σ H vs us Q I rr0 ⟨ds, S, Qd, rr, rs, q, k⟩
  unfold oSortedD at q
  split at q
  · split at q
    · rename_i d p kvs hd
      obtain ⟨ks, hks, h64, q⟩ := q
      obtain ⟨rfl, hp⟩ := dk_is hd
      obtain ⟨v, rfl, r1⟩ := rr.one
      rw [RD] at r1
      subst r1
      obtain ⟨ws, h1, h2, h3⟩ := rs p _ hp
      exact call_sortedDI hc pins s σ H _ us Q I rr0 ⟨p, ws, ks, rfl, .inl h1, h2.trans hks, h64, fun ys p' y1 y2 hp' => newL_ok rs (rds_of_ints ys) (q ys y1 y2) k _ hp'⟩
    · exact q.elim
  · exact q.elim
/-! ### sorted(set(t)) of a tuple of ints -/
def dSortSet (r : Bool) (δ : TED) : TED := fun ρ S Q => δ ρ S fun x S1 => match x with
  | .tup es => ∃ ns : List Int, es = ns.map D.int ∧ ns.length < 64 ∧ ∀ ys : List Int, ys.Pairwise (· < ·) → (∀ k, k ∈ ys ↔ k ∈ ns) → newL r (ys.map D.int) S1 Q
  | _ => False
theorem de_sortSet {e : Expr} {δ : TED} {r : Bool} {p p2 q pos : Pos} (hm : X.mg "sorted" = none) (hm2 : X.mg "set" = none) (ha : DE X e δ) (hg : Gl X "sorted" := by rfl) (hg2 : Gl X "set" := by rfl) (hc : X.calm = true := by rfl) (na : starEach [e] X.env = (false, eval e X.env) :: starEach [] X.env := by rfl) :
    DE X (.Call (.Name "sorted" p) [.Call (.Name "set" p2) [e] [] q] [] pos) (dSortSet r δ) := by
  refine peW (t := fun σ H Q => LE X.K δ σ H fun x H1 => ∃ (l : Addr) (ns : List Int), x = .ref l ∧ SqT X.K H1 l (ns.map V.int) ∧ ns.length < 64 ∧ ∀ (ys : List Int) (p : Addr), ys.Pairwise (· < ·) → (∀ k, k ∈ ys ↔ k ∈ ns) → H1 p = none → Q (.ref p) (upd H1 p (.lst (ys.map V.int)))) ⟨fun pins s σ H Q I h => ?_⟩ fun σ H Q ⟨ρ, S, Qd, re, rs, q, k⟩ => ?_
  · refine Call_ (ld_blt I hg hm boot_sorted ?_)
    refine PyProof.Rows.callWith_builtin1 (PyProof.Rows.args_cons ?_ rfl) rfl rfl
    refine Call_ (ld_blt I hg2 hm2 PyProof.Rows.boot_set ?_)
    refine PyProof.Rows.callWith_type1 (PyProof.Rows.args_cons (thn (ha.run pins s σ H _ I h) fun v s1 ⟨x, H1, I1, r1, q1⟩ => PyProof.Rows.args_nil ?_) na) na rfl
    obtain ⟨l, ns, rfl, hq, h64, q1⟩ := q1
    cases r1
    obtain ⟨its, r, pl, hz⟩ := I1.tuple hq
    refine call_set_tupI ns (I1.ok.hd hc) (show s1.heap.IsTuple l its.toArray from pl) (by simpa using r.ints) (by unfold scanBound; omega) fun h' tk c hS hcle hk => ?_
    refine PyProof.Rows.args_nil ?_
    have I2 : Inv X pins σ H1 { s1 with heap := h', toks := tk } := I1.kept hk
    refine sorted_set (s := { s1 with heap := h', toks := tk }) hS (I1.ok.hd hc) (by omega) fun s' p out c2 ys k g o hp hg hi hs hm hl => ?_
    have hlen : (ys.map V.int).length ≤ sizeLine := by rw [List.length_map, hl, sizeLine_eq]; omega
    have hn : H1 p = none := I2.hok.fresh hp
    have J : Inv X pins σ (upd H1 p (.lst (ys.map V.int))) { ({ s1 with heap := h', toks := tk } : Shared) with heap := s'.heap, gens := s'.gens, drawn := s'.drawn, toks := s'.toks } :=
      I2.call (ch := []) (Un.laid k hp hn) (I2.hok.laid k hp ⟨hlen, out.toList, c2, vals_of_ints hi, hg⟩) (by rw [g]; exact I2.bare) (fun _ z => nomatch z)
    have e : s' = { s1 with heap := s'.heap, gens := s'.gens, drawn := s'.drawn, toks := s'.toks } := by
      cases s'
      cases s1
      cases o
      rfl
    rw [e]
    exact ⟨.ref p, _, J, rfl, q1 ys p hs (fun z => by rw [hm z]; simp) hn⟩
  · refine ⟨ρ, S, _, re, rs, q, fun x S1 v H1 q1 g1 r1 => ?_⟩
    try dsimp only at q1
    split at q1
    · obtain ⟨ns, rfl, h64, q1⟩ := q1
      rw [RD] at r1
      obtain ⟨a, vs, rfl, t1, s1⟩ := r1
      rw [rds_ints s1] at t1
      exact ⟨a, ns, rfl, t1, h64, fun ys p' y1 y2 hp' => newL_ok g1.rs (rds_of_ints ys) (q1 ys y1 y2) (k.go g1) _ hp'⟩
    · exact q1.elim
end
end PL
namespace L47
open PySem PySem.Spec PySem.W PyProof.Rows L2 PL
abbrev N_is_int : List Str := ["value", "low", "high"]
def t_is_int  : TSD := (dRet (dAndV (dIsi "int" (dVar 0)) (dAndV (dNotV (dIsi "bool" (dVar 0))) (dChain oLe oLe (dVar 1) (dVar 0) (dVar 2)))))
abbrev N_are_ints : List Str := ["value", "low", "high", "one"]
def t_are_ints (sp_is_int : DSp) : TSD := (dRet (dAndV (dIsi "tuple" (dVar 0)) (dCB oAll (dCons (dLc false (dIt (dVar 0)) (gN 3) dYes (dCall sp_is_int (dCons (dVar 3) (dCons (dVar 1) (dCons (dVar 2) dNil)))) [3]) dNil))))
abbrev N_is_told : List Str := ["value", "sizes"]
def t_is_told  : TSD := (dRet (dAndV (dIsi "tuple" (dVar 0)) (dAndV (dOp (oIn false) (dCB oLen (dCons (dVar 0) dNil)) (dVar 1)) (dIsi "str" (dOp oIx (dVar 0) (dC (.int 0)))))))
abbrev N_are_gates : List Str := ["rooms", "value", "gate"]
def t_are_gates (sp_are_ints : DSp) : TSD := (dSeq (dIfS (dOr (dNot (dTest (dIsi "tuple" (dVar 1)))) (dTest (dOp oGt (dCB oLen (dCons (dVar 1) dNil)) (dC (.int 200))))) (dRet (dC (.bl false))) dNext)
  (dSeq (dIfS (dNot (dTest (dCB oAll (dCons (dLc false (dIt (dVar 1)) (gN 2) dYes (dAndV (dCall sp_are_ints (dCons (dVar 2) (dCons (dC (.int 0)) (dCons (dC (.int 1000000)) dNil)))) (dOp oEq (dCB oLen (dCons (dVar 2) dNil)) (dOp (oAdd false) (dC (.int 2)) (dC (.int 1))))) [2]) dNil)))) (dRet (dC (.bl false))) dNext)
  (dRet (dCB oAll (dCons (dLc false (dIt (dVar 1)) (gN 2) dYes (dAndV (dOp oLt (dOp oIx (dVar 2) (dC (.int 0))) (dVar 0)) (dAndV (dOp oLt (dOp oIx (dVar 2) (dC (.int 1))) (dVar 0)) (dOp oNe (dOp oIx (dVar 2) (dC (.int 0))) (dOp oIx (dVar 2) (dC (.int 1)))))) [2]) dNil)))))
abbrev N_look_at_gates : List Str := ["rooms", "gates"]
def t_look_at_gates (sp_is_int : DSp) (sp_are_gates : DSp) : TSD := (dSeq (dIfS (dNot (dTest (dCall sp_is_int (dCons (dVar 0) (dCons (dC (.int 2)) (dCons (dC (.int 40)) dNil)))))) dNever dNext)
  (dIfS (dNot (dTest (dCall sp_are_gates (dCons (dVar 0) (dCons (dVar 1) dNil))))) dNever dNext))
abbrev N_told_ways : List Str := ["gates", "used", "start", "found", "waiting", "here", "at", "one", "other", "most"]
def t_told_ways  : TSD := (dSeq (dPar2 3 4 (dCons (dDOne (dVar 2) (dC .non)) (dCons (dLst true (dCons (dVar 2) dNil)) dNil)))
  (dSeq (dWhile (dTest (dOp oNe (dVar 4) (dLst false dNil)))
  (dSeq (dAsg 5 (dBM oPopAt (dVar 4) (dCons (dC (.int 0)) dNil)))
  (dFor (dEnum (dVar 0)) (gT 2 (gsCons (gN 6) (gsCons (gT 3 (gsCons (gN 7) (gsCons (gN 8) (gsCons (gN 9) gsNil)))) gsNil)))
  (dSeq (dIfS (dAnd (dTest (dOp oEq (dVar 7) (dVar 5))) (dAnd (dTest (dOp (oDIn true) (dVar 8) (dVar 3))) (dTest (dOp oLt (dOp oIx (dVar 1) (dVar 6)) (dVar 9))))) (dSeq (dAsgG (gSb (dVar 3) (dVar 8) oDSet) (dTup (dCons (dVar 6) (dCons (dC (.int 1)) dNil))))
  (dDrop (dBM oAppend (dVar 4) (dCons (dVar 8) dNil)))) dNext)
  (dIfS (dAnd (dTest (dOp oEq (dVar 8) (dVar 5))) (dAnd (dTest (dOp (oDIn true) (dVar 7) (dVar 3))) (dTest (dOp oGt (dOp oIx (dVar 1) (dVar 6)) (dC (.int 0)))))) (dSeq (dAsgG (gSb (dVar 3) (dVar 7) oDSet) (dTup (dCons (dVar 6) (dCons (dNeg (dC (.int 1))) dNil))))
  (dDrop (dBM oAppend (dVar 4) (dCons (dVar 7) dNil)))) dNext)))))
  (dRet (dVar 3))))
abbrev N_told_flow : List Str := ["gates", "start", "goal", "used", "ways", "path", "here", "at", "way", "more"]
def t_told_flow (sp_told_ways : DSp) : TSD := (dSeq (dAsg 3 (dOp (oMulA true) (dLst false (dCons (dC (.int 0)) dNil)) (dCB oLen (dCons (dVar 0) dNil))))
  (dWhile (dTest (dC (.bl true)))
  (dSeq (dAsg 4 (dCall sp_told_ways (dCons (dVar 0) (dCons (dVar 3) (dCons (dVar 1) dNil)))))
  (dSeq (dIfS (dTest (dOp (oDIn true) (dVar 2) (dVar 4))) (dRet (dTup (dCons (dVar 3) (dCons (dVar 4) dNil)))) dNext)
  (dSeq (dPar2 5 6 (dCons (dLst true dNil) (dCons (dVar 2) dNil)))
  (dSeq (dWhile (dTest (dOp oNotN (dOp oDGet (dVar 4) (dVar 6)) (dC .non)))
  (dSeq (dAsgG (gT 2 (gsCons (gN 7) (gsCons (gN 8) gsNil))) (dOp oDGet (dVar 4) (dVar 6)))
  (dSeq (dDrop (dBM oAppend (dVar 5) (dCons (dTup (dCons (dVar 7) (dCons (dVar 8) dNil))) dNil)))
  (dAsg 6 (dIf (dTest (dOp oEq (dVar 8) (dC (.int 1)))) (dOp oIx (dOp oIx (dVar 0) (dVar 7)) (dC (.int 0))) (dOp oIx (dOp oIx (dVar 0) (dVar 7)) (dC (.int 1))))))))
  (dSeq (dAsg 9 (dCB oMin (dCons (dLc false (dIt (dVar 5)) (gT 2 (gsCons (gN 7) (gsCons (gN 8) gsNil))) dYes (dIf (dTest (dOp oEq (dVar 8) (dC (.int 1)))) (dOp oSub (dOp oIx (dOp oIx (dVar 0) (dVar 7)) (dC (.int 2))) (dOp oIx (dVar 3) (dVar 7))) (dOp oIx (dVar 3) (dVar 7))) [7, 8]) dNil)))
  (dFor (dIt (dVar 5)) (gT 2 (gsCons (gN 7) (gsCons (gN 8) gsNil)))
  (dAugS (dVar 3) (dVar 7) (dOp (oMulA false) (dVar 8) (dVar 9)) oGet oAddI oSet)))))))))
abbrev N_told_out : List Str := ["gates", "used", "room", "out", "one", "other", "most", "many"]
def t_told_out  : TSD := (dSeq (dAsg 3 (dCB oSum (dCons (dLc false (dZip2 (dVar 0) (dVar 1)) (gT 2 (gsCons (gT 3 (gsCons (gN 4) (gsCons (gN 5) (gsCons (gN 6) gsNil)))) (gsCons (gN 7) gsNil))) (dTest (dOp oEq (dVar 4) (dVar 2))) (dVar 7) [4, 5, 6, 7]) dNil)))
  (dRet (dOp oSub (dVar 3) (dCB oSum (dCons (dLc false (dZip2 (dVar 0) (dVar 1)) (gT 2 (gsCons (gT 3 (gsCons (gN 4) (gsCons (gN 5) (gsCons (gN 6) gsNil)))) (gsCons (gN 7) gsNil))) (dTest (dOp oEq (dVar 5) (dVar 2))) (dVar 7) [4, 5, 6, 7]) dNil)))))
abbrev N_told_cut : List Str := ["gates", "rooms", "one", "other", "most"]
def t_told_cut  : TSD := (dRet (dCB oSum (dCons (dLc false (dIt (dVar 0)) (gT 3 (gsCons (gN 2) (gsCons (gN 3) (gsCons (gN 4) gsNil)))) (dAnd (dTest (dOp (oIn false) (dVar 2) (dVar 1))) (dTest (dOp (oIn true) (dVar 3) (dVar 1)))) (dVar 4) [2, 3, 4]) dNil)))
abbrev N_through : List Str := ["rooms", "gates", "used", "ways"]
def t_through (sp_look_at_gates : DSp) (sp_told_flow : DSp) (sp_told_out : DSp) : TSD := (dSeq (dDrop (dCall sp_look_at_gates (dCons (dVar 0) (dCons (dVar 1) dNil))))
  (dSeq (dAsgG (gT 2 (gsCons (gN 2) (gsCons (gN 3) gsNil))) (dCall sp_told_flow (dCons (dVar 1) (dCons (dC (.int 0)) (dCons (dOp oSub (dVar 0) (dC (.int 1))) dNil)))))
  (dRet (dTup (dCons (dC (.str "through")) (dCons (dCall sp_told_out (dCons (dVar 1) (dCons (dVar 2) (dCons (dC (.int 0)) dNil)))) (dCons (dCB oTuple (dCons (dVar 2) dNil)) (dCons (dCB oTuple (dCons (dCB (oSortedD false) (dCons (dVar 3) dNil)) dNil)) dNil))))))))
abbrev N_are_used : List Str := ["rooms", "gates", "value", "one", "other", "most", "many", "room"]
def t_are_used (sp_are_ints : DSp) (sp_told_out : DSp) : TSD := (dSeq (dIfS (dOr (dNot (dTest (dCall sp_are_ints (dCons (dVar 2) (dCons (dC (.int 0)) (dCons (dC (.int 1000000)) dNil)))))) (dTest (dOp oNe (dCB oLen (dCons (dVar 2) dNil)) (dCB oLen (dCons (dVar 1) dNil))))) (dRet (dC (.bl false))) dNext)
  (dSeq (dIfS (dNot (dTest (dCB oAll (dCons (dLc false (dZip2 (dVar 1) (dVar 2)) (gT 2 (gsCons (gT 3 (gsCons (gN 3) (gsCons (gN 4) (gsCons (gN 5) gsNil)))) (gsCons (gN 6) gsNil))) dYes (dOp oLe (dVar 6) (dVar 5)) [3, 4, 5, 6]) dNil)))) (dRet (dC (.bl false))) dNext)
  (dRet (dCB oAll (dCons (dLc false (dRng2 (dC (.int 1)) (dOp oSub (dVar 0) (dC (.int 1)))) (gN 7) dYes (dOp oEq (dCall sp_told_out (dCons (dVar 1) (dCons (dVar 2) (dCons (dVar 7) dNil)))) (dC (.int 0))) [7]) dNil)))))
abbrev N_shows_through : List Str := ["rooms", "gates", "value", "cut", "many"]
def t_shows_through (sp_look_at_gates : DSp) (sp_is_told : DSp) (sp_are_used : DSp) (sp_are_ints : DSp) (sp_told_out : DSp) (sp_told_cut : DSp) (sp_is_int : DSp) : TSD := (dSeq (dDrop (dCall sp_look_at_gates (dCons (dVar 0) (dCons (dVar 1) dNil))))
  (dSeq (dIfS (dOr (dNot (dTest (dCall sp_is_told (dCons (dVar 2) (dCons (dTup (dCons (dOp (oAdd false) (dC (.int 2)) (dC (.int 2))) dNil)) dNil))))) (dOr (dTest (dOp oNe (dOp oIx (dVar 2) (dC (.int 0))) (dC (.str "through")))) (dNot (dTest (dCall sp_are_used (dCons (dVar 0) (dCons (dVar 1) (dCons (dOp oIx (dVar 2) (dC (.int 2))) dNil)))))))) (dRet (dC (.bl false))) dNext)
  (dSeq (dAsg 3 (dOp oIx (dVar 2) (dNeg (dC (.int 1)))))
  (dSeq (dIfS (dOr (dNot (dTest (dCall sp_are_ints (dCons (dVar 3) (dCons (dC (.int 0)) (dCons (dOp oSub (dVar 0) (dC (.int 2))) dNil)))))) (dOr (dTest (dOp oNe (dCB (oList false) (dCons (dVar 3) dNil)) (dSortSet false (dVar 3)))) (dTest (dOp (oIn true) (dC (.int 0)) (dVar 3))))) (dRet (dC (.bl false))) dNext)
  (dSeq (dAsg 4 (dCall sp_told_out (dCons (dVar 1) (dCons (dOp oIx (dVar 2) (dC (.int 2))) (dCons (dC (.int 0)) dNil)))))
  (dRet (dAndV (dCall sp_is_int (dCons (dOp oIx (dVar 2) (dC (.int 1))) (dCons (dVar 4) (dCons (dVar 4) dNil)))) (dOp oEq (dVar 4) (dCall sp_told_cut (dCons (dVar 1) (dCons (dVar 3) dNil)))))))))))
abbrev N_how_many_through : List Str := ["rooms", "gates"]
def t_how_many_through (sp_look_at_gates : DSp) (sp_told_out : DSp) (sp_told_flow : DSp) : TSD := (dSeq (dDrop (dCall sp_look_at_gates (dCons (dVar 0) (dCons (dVar 1) dNil))))
  (dRet (dCall sp_told_out (dCons (dVar 1) (dCons (dOp oIx (dCall sp_told_flow (dCons (dVar 1) (dCons (dC (.int 0)) (dCons (dOp oSub (dVar 0) (dC (.int 1))) dNil)))) (dC (.int 0))) (dCons (dC (.int 0)) dNil))))))
abbrev N_gates_that_bar : List Str := ["rooms", "gates", "used", "ahead", "back", "one", "other", "most", "at"]
def t_gates_that_bar (sp_look_at_gates : DSp) (sp_told_flow : DSp) (sp_told_ways : DSp) : TSD := (dSeq (dDrop (dCall sp_look_at_gates (dCons (dVar 0) (dCons (dVar 1) dNil))))
  (dSeq (dAsgG (gT 2 (gsCons (gN 2) (gsCons (gN 3) gsNil))) (dCall sp_told_flow (dCons (dVar 1) (dCons (dC (.int 0)) (dCons (dOp oSub (dVar 0) (dC (.int 1))) dNil)))))
  (dSeq (dAsg 4 (dCall sp_told_ways (dCons (dLc false (dIt (dVar 1)) (gT 3 (gsCons (gN 5) (gsCons (gN 6) (gsCons (gN 7) gsNil)))) dYes (dTup (dCons (dVar 6) (dCons (dVar 5) (dCons (dVar 7) dNil)))) [5, 6, 7]) (dCons (dVar 2) (dCons (dOp oSub (dVar 0) (dC (.int 1))) dNil)))))
  (dRet (dCB oTuple (dCons (dLc false (dEnum (dVar 1)) (gT 2 (gsCons (gN 8) (gsCons (gT 3 (gsCons (gN 5) (gsCons (gN 6) (gsCons (gN 7) gsNil)))) gsNil))) (dAnd (dTest (dOp (oDIn false) (dVar 5) (dVar 3))) (dTest (dOp (oDIn false) (dVar 6) (dVar 4)))) (dVar 8) [8, 5, 6, 7]) dNil))))))
abbrev N__law_pot : List Str := ["script", "place", "cell", "own", "small"]
def t__law_pot  : TSD := (dSeq (dAsg 2 (dIf (dTest (dOp oLt (dVar 1) (dCB oLen (dCons (dVar 0) dNil)))) (dOp oIx (dVar 0) (dVar 1)) (dOp (oAdd false) (dOp (oAdd false) (dOp oMod (dCB oInt (dCons (dCB oSum (dCons (dSl (oSl false) (dVar 0) dNoPart (dPart (dC (.int 1)))) dNil)) dNil)) (dC (.int 1000211))) (dOp (oMulA false) (dC (.int 4639)) (dVar 1))) (dC (.int 3163)))))
  (dSeq (dAsg 3 (dOp (oMulA false) (dOp oMod (dCB oInt (dCons (dCB oAbs (dCons (dVar 2) dNil)) dNil)) (dOp oPow (dOp oPow (dC (.int 10)) (dC (.int 60))) (dC (.int 5)))) (dCB oInt (dCons (dOp oGe (dCB oAbs (dCons (dVar 2) dNil)) (dOp oPow (dC (.int 10)) (dC (.int 18)))) dNil))))
  (dSeq (dAsg 4 (dOp oMod (dCB oInt (dCons (dVar 2) dNil)) (dC (.int 2305843009213693951))))
  (dRet (dLst true (dCons (dVar 3) (dCons (dOp oMod (dCB oInt (dCons (dOp (oAdd false) (dOp (oAdd false) (dOp (oMulA false) (dVar 4) (dC (.int 72161))) (dOp (oMulA false) (dOp (oMulA false) (dC (.int 10853)) (dVar 1)) (dVar 1))) (dC (.int 2843))) dNil)) (dC (.int 2305843009213693921))) (dCons (dC (.int 0)) dNil))))))))
abbrev N__law_take : List Str := ["pot", "upto", "digit", "prime", "mixture"]
def t__law_take  : TSD := (dSeq (dIfS (dTest (dOp oGt (dOp oIx (dVar 0) (dC (.int 0))) (dC (.int 0)))) (dSeq (dAsg 2 (dOp oMod (dCB oInt (dCons (dOp oIx (dVar 0) (dC (.int 0))) dNil)) (dVar 1)))
  (dSeq (dAsgG (gSb (dVar 0) (dC (.int 0)) oSet) (dOp oFdiv (dOp oIx (dVar 0) (dC (.int 0))) (dVar 1)))
  (dRet (dVar 2)))) dNext)
  (dSeq (dAsgG (gSb (dVar 0) (dC (.int 2)) oSet) (dOp (oAdd false) (dOp oIx (dVar 0) (dC (.int 2))) (dC (.int 1))))
  (dSeq (dAsg 3 (dOp oIx (dLst false (dCons (dC (.int 2147483647)) (dCons (dC (.int 2147483629)) (dCons (dC (.int 2147483587)) (dCons (dC (.int 2147483579)) (dCons (dC (.int 2147483563)) dNil)))))) (dOp oMod (dCB oInt (dCons (dOp oIx (dVar 0) (dC (.int 2))) dNil)) (dC (.int 5)))))
  (dSeq (dAsg 4 (dOp oMod (dCB oInt (dCons (dOp oPow (dCB oInt (dCons (dOp (oAdd false) (dOp (oAdd false) (dOp oIx (dVar 0) (dC (.int 1))) (dOp (oMulA false) (dOp (oMulA false) (dC (.int 95257)) (dOp oIx (dVar 0) (dC (.int 2)))) (dOp oIx (dVar 0) (dC (.int 2))))) (dC (.int 3163))) dNil)) (dC (.int 3))) dNil)) (dVar 3)))
  (dSeq (dAsg 4 (dOp oMod (dCB oInt (dCons (dOp (oMulA false) (dVar 4) (dOp (oAdd false) (dOp oMod (dCB oInt (dCons (dVar 4) dNil)) (dC (.int 13441))) (dOp (oMulA false) (dC (.int 419)) (dOp oIx (dVar 0) (dC (.int 2)))))) dNil)) (dC (.int 2305843009213693907))))
  (dRet (dOp oMod (dCB oInt (dCons (dOp oFdiv (dVar 4) (dC (.int 229))) dNil)) (dVar 1))))))))
abbrev N__law_cells : List Str := ["script", "most"]
def t__law_cells  : TSD := (dRet (dListRg false (dRg1 (dCB oMax (dCons (dC (.int 1)) (dCons (dCB oMin (dCons (dVar 1) (dCons (dCB oLen (dCons (dVar 0) dNil)) dNil))) dNil))))))
abbrev N__law_with : List Str := ["gates", "at", "more", "one", "other", "most"]
def t__law_with  : TSD := (dSeq (dAsgG (gT 3 (gsCons (gN 3) (gsCons (gN 4) (gsCons (gN 5) gsNil)))) (dOp oIx (dVar 0) (dVar 1)))
  (dRet (dOp (oAdd false) (dOp (oAdd false) (dSl (oSl false) (dVar 0) dNoPart (dPart (dVar 1))) (dTup (dCons (dTup (dCons (dVar 3) (dCons (dVar 4) (dCons (dOp (oAdd false) (dVar 5) (dVar 2)) dNil)))) dNil))) (dSl (oSl false) (dVar 0) (dPart (dOp (oAdd false) (dVar 1) (dC (.int 1)))) dNoPart))))
abbrev N__law_are_gates_right : List Str := ["pot", "rooms", "gates", "many", "bars", "back", "one", "other", "most", "wide", "more", "narrow", "at", "told"]
def t__law_are_gates_right (sp_how_many_through : DSp) (sp_gates_that_bar : DSp) (sp__law_take : DSp) (sp__law_with : DSp) (sp_through : DSp) (sp_shows_through : DSp) : TSD := (dSeq (dPar2 3 4 (dCons (dCall sp_how_many_through (dCons (dVar 1) (dCons (dVar 2) dNil))) (dCons (dCall sp_gates_that_bar (dCons (dVar 1) (dCons (dVar 2) dNil))) dNil)))
  (dSeq (dAsg 5 (dCB oTuple (dCons (dLc false (dIt (dVar 2)) (gT 3 (gsCons (gN 6) (gsCons (gN 7) (gsCons (gN 8) gsNil)))) dYes (dTup (dCons (dOp oSub (dOp oSub (dVar 1) (dC (.int 1))) (dVar 7)) (dCons (dOp oSub (dOp oSub (dVar 1) (dC (.int 1))) (dVar 6)) (dCons (dVar 8) dNil)))) [6, 7, 8]) dNil)))
  (dSeq (dIfS (dOr (dTest (dOp oNe (dCall sp_how_many_through (dCons (dVar 1) (dCons (dVar 5) dNil))) (dVar 3))) (dTest (dOp oNe (dCall sp_gates_that_bar (dCons (dVar 1) (dCons (dVar 5) dNil))) (dVar 4)))) (dRet (dC (.bl false))) dNext)
  (dSeq (dAsg 9 (dCB oTuple (dCons (dLc false (dIt (dVar 2)) (gT 3 (gsCons (gN 6) (gsCons (gN 7) (gsCons (gN 8) gsNil)))) dYes (dTup (dCons (dVar 6) (dCons (dVar 7) (dCons (dOp (oMulA false) (dC (.int 3)) (dVar 8)) dNil)))) [6, 7, 8]) dNil)))
  (dSeq (dIfS (dOr (dTest (dOp oNe (dCall sp_how_many_through (dCons (dVar 1) (dCons (dVar 9) dNil))) (dOp (oMulA false) (dC (.int 3)) (dVar 3)))) (dTest (dOp oNe (dCall sp_how_many_through (dCons (dVar 1) (dCons (dOp (oAdd false) (dVar 2) (dVar 2)) dNil))) (dOp (oMulA false) (dC (.int 2)) (dVar 3))))) (dRet (dC (.bl false))) dNext)
  (dSeq (dAsg 10 (dCB oInt (dCons (dCall sp__law_take (dCons (dVar 0) (dCons (dC (.int 9)) dNil))) dNil)))
  (dSeq (dIfS (dTest (dOp oNe (dCall sp_how_many_through (dCons (dVar 1) (dCons (dOp (oAdd false) (dVar 2) (dTup (dCons (dTup (dCons (dC (.int 0)) (dCons (dOp oSub (dVar 1) (dC (.int 1))) (dCons (dVar 10) dNil)))) dNil))) dNil))) (dOp (oAdd false) (dVar 3) (dVar 10)))) (dRet (dC (.bl false))) dNext)
  (dSeq (dAsg 11 (dCB oInt (dCons (dCall sp__law_take (dCons (dVar 0) (dCons (dC (.int 12)) dNil))) dNil)))
  (dSeq (dIfS (dTest (dOp oNe (dCall sp_how_many_through (dCons (dOp (oAdd false) (dVar 1) (dC (.int 1))) (dCons (dOp (oAdd false) (dVar 2) (dTup (dCons (dTup (dCons (dOp oSub (dVar 1) (dC (.int 1))) (dCons (dVar 1) (dCons (dVar 11) dNil)))) dNil))) dNil))) (dCB oMin (dCons (dVar 3) (dCons (dVar 11) dNil))))) (dRet (dC (.bl false))) dNext)
  (dSeq (dFor (dIt (dVar 4)) (gN 12)
  (dSeq (dIfS (dTest (dOp oNe (dCall sp_how_many_through (dCons (dVar 1) (dCons (dCall sp__law_with (dCons (dVar 2) (dCons (dVar 12) (dCons (dC (.int 1)) dNil)))) dNil))) (dOp (oAdd false) (dVar 3) (dC (.int 1))))) (dRet (dC (.bl false))) dNext)
  (dIfS (dAnd (dTest (dOp oGt (dOp oIx (dOp oIx (dVar 2) (dVar 12)) (dC (.int 2))) (dC (.int 0)))) (dTest (dOp oNe (dCall sp_how_many_through (dCons (dVar 1) (dCons (dCall sp__law_with (dCons (dVar 2) (dCons (dVar 12) (dCons (dNeg (dC (.int 1))) dNil)))) dNil))) (dOp oSub (dVar 3) (dC (.int 1)))))) (dRet (dC (.bl false))) dNext)))
  (dSeq (dAsg 13 (dCall sp_through (dCons (dVar 1) (dCons (dVar 2) dNil))))
  (dSeq (dIfS (dTest (dOp oNotB (dCall sp_shows_through (dCons (dVar 1) (dCons (dRev false (dVar 2)) (dCons (dOp (oAdd false) (dSl (oSl false) (dVar 13) dNoPart (dPart (dC (.int 2)))) (dTup (dCons (dRev false (dOp oIx (dVar 13) (dC (.int 2)))) (dCons (dOp oIx (dVar 13) (dC (.int 3))) dNil)))) dNil)))) (dC (.bl true)))) (dRet (dC (.bl false))) dNext)
  (dRet (dOp oIsB (dCall sp_shows_through (dCons (dVar 1) (dCons (dVar 2) (dCons (dVar 13) dNil)))) (dC (.bl true))))))))))))))))
abbrev N__law_field : List Str := ["pot", "rows", "column", "row", "gates", "room", "mosts", "most"]
def t__law_field (sp__law_take : DSp) : TSD := (dSeq (dAsg 1 (dLc false (dRng1 (dC (.int 5))) (gN 3) dYes (dLc false (dRng1 (dC (.int 6))) (gN 2) dYes (dCB oInt (dCons (dOp (oAdd false) (dC (.int 1)) (dCall sp__law_take (dCons (dVar 0) (dCons (dC (.int 9)) dNil)))) dNil)) [2]) [3]))
  (dSeq (dAsg 4 (dOp (oAdd true) (dLc false (dRng1 (dC (.int 6))) (gN 2) dYes (dTup (dCons (dC (.int 0)) (dCons (dOp (oAdd false) (dC (.int 1)) (dVar 2)) (dCons (dOp oPow (dC (.int 10)) (dC (.int 5))) dNil)))) [2]) (dLc false (dRng1 (dC (.int 6))) (gN 2) dYes (dTup (dCons (dOp (oAdd false) (dC (.int 31)) (dVar 2)) (dCons (dC (.int 37)) (dCons (dOp oPow (dC (.int 10)) (dC (.int 5))) dNil)))) [2])))
  (dSeq (dFor (dRng1 (dC (.int 6))) (gN 3)
  (dFor (dRng2 (dOp (oAdd false) (dC (.int 1)) (dOp (oMulA false) (dC (.int 6)) (dVar 3))) (dOp (oAdd false) (dC (.int 6)) (dOp (oMulA false) (dC (.int 6)) (dVar 3)))) (gN 5)
  (dDrop (dBM oExtend (dVar 4) (dCons (dLst false (dCons (dTup (dCons (dVar 5) (dCons (dOp (oAdd false) (dVar 5) (dC (.int 1))) (dCons (dOp oPow (dC (.int 10)) (dC (.int 5))) dNil)))) (dCons (dTup (dCons (dOp (oAdd false) (dVar 5) (dC (.int 1))) (dCons (dVar 5) (dCons (dOp oPow (dC (.int 10)) (dC (.int 5))) dNil)))) dNil))) dNil)))))
  (dSeq (dFor (dEnum (dVar 1)) (gT 2 (gsCons (gN 3) (gsCons (gN 6) gsNil)))
  (dDrop (dBM oExtend (dVar 4) (dCons (dLc false (dEnum (dVar 6)) (gT 2 (gsCons (gN 2) (gsCons (gN 7) gsNil))) dYes (dTup (dCons (dOp (oAdd false) (dOp (oAdd false) (dC (.int 1)) (dOp (oMulA false) (dC (.int 6)) (dVar 3))) (dVar 2)) (dCons (dOp (oAdd false) (dOp (oAdd false) (dC (.int 7)) (dOp (oMulA false) (dC (.int 6)) (dVar 3))) (dVar 2)) (dCons (dVar 7) dNil)))) [2, 7]) dNil))))
  (dRet (dTup (dCons (dCB oTuple (dCons (dVar 4) dNil)) (dCons (dCB oMin (dCons (dLc false (dIt (dVar 1)) (gN 6) dYes (dCB oSum (dCons (dVar 6) dNil)) [6]) dNil)) dNil))))))))
abbrev N__law_right : List Str := ["pot", "lap", "rooms", "gates", "at", "one", "step", "least"]
def t__law_right (sp__law_take : DSp) (sp__law_are_gates_right : DSp) (sp__law_field : DSp) (sp_how_many_through : DSp) : TSD := (dSeq (dFor (dRng1 (dC (.int 6))) (gN 1)
  (dSeq (dPar2 2 3 (dCons (dCB oInt (dCons (dOp (oAdd false) (dC (.int 2)) (dCall sp__law_take (dCons (dVar 0) (dCons (dC (.int 10)) dNil)))) dNil)) (dCons (dLst true dNil) dNil)))
  (dSeq (dFor (dRng1 (dCall sp__law_take (dCons (dVar 0) (dCons (dC (.int 20)) dNil)))) (gN 4)
  (dSeq (dPar2 5 6 (dCons (dCB oInt (dCons (dCall sp__law_take (dCons (dVar 0) (dCons (dVar 2) dNil))) dNil)) (dCons (dCB oInt (dCons (dOp (oAdd false) (dC (.int 1)) (dCall sp__law_take (dCons (dVar 0) (dCons (dOp oSub (dVar 2) (dC (.int 1))) dNil)))) dNil)) dNil)))
  (dDrop (dBM oAppend (dVar 3) (dCons (dTup (dCons (dVar 5) (dCons (dOp oMod (dOp (oAdd false) (dVar 5) (dVar 6)) (dVar 2)) (dCons (dCB oInt (dCons (dCall sp__law_take (dCons (dVar 0) (dCons (dC (.int 9)) dNil))) dNil)) dNil)))) dNil)))))
  (dIfS (dNot (dTest (dCall sp__law_are_gates_right (dCons (dVar 0) (dCons (dVar 2) (dCons (dCB oTuple (dCons (dVar 3) dNil)) dNil)))))) (dRet (dC (.bl false))) dNext))))
  (dSeq (dAsgG (gT 2 (gsCons (gN 3) (gsCons (gN 7) gsNil))) (dCall sp__law_field (dCons (dVar 0) dNil)))
  (dRet (dOp oEq (dCall sp_how_many_through (dCons (dC (.int 38)) (dCons (dVar 3) dNil))) (dVar 7)))))
abbrev N_law : List Str := ["script", "place"]
def t_law (sp__law_cells : DSp) (sp__law_right : DSp) (sp__law_pot : DSp) : TSD := (dRet (dCB oAll (dCons (dLc false (dIt (dCall sp__law_cells (dCons (dVar 0) (dCons (dC (.int 2)) dNil)))) (gN 1) dYes (dCall sp__law_right (dCons (dCall sp__law_pot (dCons (dVar 0) (dCons (dVar 1) dNil))) dNil)) [1]) dNil)))
end L47
namespace L47
open PySem PySem.Spec PySem.W PyProof.Rows L2 PL
def sp_is_int : DSp := fun ds S Q => ∃ v lo hi : Int, ds = [.int v, .int lo, .int hi] ∧ Q (.bl (decide (lo ≤ v) && decide (v ≤ hi))) S
theorem pure_is_int : ∀ ds S Q, sp_is_int ds S Q → t_is_int (DeN Q) (startD N_is_int ds) S := by
  rintro ds S Q ⟨v, lo, hi, rfl, q⟩
  simp only [t_is_int, dSeq, dNext, dRet, dRetN, dIfS, dAsg, dAsgG, dDrop, dPar2, dPar3, dAug, dAugS, dFor, dOp, dVar, dC, dTest, dChain, dAnd, dOr, dNot, dAndV, dOrV, dNotV, dIf, dTup, dLst, dNil, dCons, dStar, dCB, dCall, dFrz, dSl, dNoPart, dPart, dBM, dRev, dNeg, dIsi, dListRg, dTupRg, dRg1, dRg2, dLc, dIt, dEnum, dZip2, dZip3, dEnZ, dRng1, dRng2, dYes, gN, gT, gsNil, gsCons, gSb, oI, oI0, oAdd, oMulA, oSub, oFdiv, oMod, oPow, oLt, oLe, oGt, oGe, oEq, oNe, oIsN, oNotN, oIsB, oNotB, oIx, oSl, oLen, oSum, oAll, oAny, oAbs, o1I, o2I, oMin2, oMax2, oMin, oMax, oMinL, oMaxL, oInt, oBool, oList, oTuple, oSorted, oSortedT, oSortedD, dSortSet, dDNew, dDOne, oDGet, oDIn, oDSet, keyOD, oIn, oAddI, oGet, oSet, oAppend, oExtend, oPop, oPopAt, oIndexL, oIndexT, oInsert, oRemove, dTupX, dBMX, dLenSet, D.isNon, newL, Sto.seq, Sto.list, Sto.lsts, Sto.itOf, Sto.trk, Sto.now, startD, wipeD, D.tyN, List.map_cons, List.map_nil, List.cons_append, List.nil_append, List.length_cons, List.length_nil, List.getElem?_cons_zero, List.getElem?_cons_succ, List.set_cons_zero, List.set_cons_succ, List.replicate, Nat.sub_self, Nat.reduceSub, Nat.reduceAdd, Nat.zero_add, kb_ii, kb_ib, kb_it, kb_is, kb_bi, kb_bb, kb_bt, kb_bs, kb_tt, kb_ti, kb_ts, kb_ss, kb_si, kb_st, kb_nt, kb_ni, kb_ns, kb_lt, kb_li, kb_ls, ex_some, Bool.not_false]
  by_cases h : lo ≤ v
  · simp only [decide_eq_true h, Bool.true_and] at q ⊢
    exact .here q
  · simp only [decide_eq_false h, Bool.false_and] at q ⊢
    exact .here q
def inB (lo hi : Int) (xs : List Int) : Bool := xs.all fun v => decide (lo ≤ v) && decide (v ≤ hi)
def sp_are_ints : DSp := fun ds S Q => ∃ (xs : List Int) (lo hi : Int), ds = [eI xs, .int lo, .int hi] ∧ xs.length ≤ sizeLine ∧ Q (.bl (inB lo hi xs)) S
theorem pure_are_ints : ∀ ds S Q, sp_are_ints ds S Q → t_are_ints sp_is_int (DeN Q) (startD N_are_ints ds) S := by
  rintro ds S Q ⟨xs, lo, hi, rfl, hl, q⟩
  simp only [t_are_ints, dSeq, dNext, dRet, dRetN, dIfS, dAsg, dAsgG, dDrop, dPar2, dPar3, dAug, dAugS, dFor, dOp, dVar, dC, dTest, dChain, dAnd, dOr, dNot, dAndV, dOrV, dNotV, dIf, dTup, dLst, dNil, dCons, dStar, dCB, dCall, dFrz, dSl, dNoPart, dPart, dBM, dRev, dNeg, dIsi, dListRg, dTupRg, dRg1, dRg2, dLc, dIt, dEnum, dZip2, dZip3, dEnZ, dRng1, dRng2, dYes, gN, gT, gsNil, gsCons, gSb, oI, oI0, oAdd, oMulA, oSub, oFdiv, oMod, oPow, oLt, oLe, oGt, oGe, oEq, oNe, oIsN, oNotN, oIsB, oNotB, oIx, oSl, oLen, oSum, oAll, oAny, oAbs, o1I, o2I, oMin2, oMax2, oMin, oMax, oMinL, oMaxL, oInt, oBool, oList, oTuple, oSorted, oSortedT, oSortedD, dSortSet, dDNew, dDOne, oDGet, oDIn, oDSet, keyOD, oIn, oAddI, oGet, oSet, oAppend, oExtend, oPop, oPopAt, oIndexL, oIndexT, oInsert, oRemove, dTupX, dBMX, dLenSet, D.isNon, newL, Sto.seq, Sto.list, Sto.lsts, Sto.itOf, Sto.trk, Sto.now, startD, wipeD, D.tyN, List.map_cons, List.map_nil, List.cons_append, List.nil_append, List.length_cons, List.length_nil, List.getElem?_cons_zero, List.getElem?_cons_succ, List.set_cons_zero, List.set_cons_succ, List.replicate, Nat.sub_self, Nat.reduceSub, Nat.reduceAdd, Nat.zero_add, kb_ii, kb_ib, kb_it, kb_is, kb_bi, kb_bb, kb_bt, kb_bs, kb_tt, kb_ti, kb_ts, kb_ss, kb_si, kb_st, kb_nt, kb_ni, kb_ns, kb_lt, kb_li, kb_ls, ex_some, eI]
  refine lc_mapE xs D.int (fun v => .bl (decide (lo ≤ v) && decide (v ≤ hi))) (fun _ _ => trivial) hl (fun v hv S' e N M h => ?_) ?_
  · simp only [dSeq, dNext, dRet, dRetN, dIfS, dAsg, dAsgG, dDrop, dPar2, dPar3, dAug, dAugS, dFor, dOp, dVar, dC, dTest, dChain, dAnd, dOr, dNot, dAndV, dOrV, dNotV, dIf, dTup, dLst, dNil, dCons, dStar, dCB, dCall, dFrz, dSl, dNoPart, dPart, dBM, dRev, dNeg, dIsi, dListRg, dTupRg, dRg1, dRg2, dLc, dIt, dEnum, dZip2, dZip3, dEnZ, dRng1, dRng2, dYes, gN, gT, gsNil, gsCons, gSb, oI, oI0, oAdd, oMulA, oSub, oFdiv, oMod, oPow, oLt, oLe, oGt, oGe, oEq, oNe, oIsN, oNotN, oIsB, oNotB, oIx, oSl, oLen, oSum, oAll, oAny, oAbs, o1I, o2I, oMin2, oMax2, oMin, oMax, oMinL, oMaxL, oInt, oBool, oList, oTuple, oSorted, oSortedT, oSortedD, dSortSet, dDNew, dDOne, oDGet, oDIn, oDSet, keyOD, oIn, oAddI, oGet, oSet, oAppend, oExtend, oPop, oPopAt, oIndexL, oIndexT, oInsert, oRemove, dTupX, dBMX, dLenSet, D.isNon, newL, Sto.seq, Sto.list, Sto.lsts, Sto.itOf, Sto.trk, Sto.now, startD, wipeD, D.tyN, List.map_cons, List.map_nil, List.cons_append, List.nil_append, List.length_cons, List.length_nil, List.getElem?_cons_zero, List.getElem?_cons_succ, List.set_cons_zero, List.set_cons_succ, List.replicate, Nat.sub_self, Nat.reduceSub, Nat.reduceAdd, Nat.zero_add, kb_ii, kb_ib, kb_it, kb_is, kb_bi, kb_bb, kb_bt, kb_bs, kb_tt, kb_ti, kb_ts, kb_ss, kb_si, kb_st, kb_nt, kb_ni, kb_ns, kb_lt, kb_li, kb_ls, ex_some]
    exact ⟨v, lo, hi, rfl, h⟩
  · simp only [dSeq, dNext, dRet, dRetN, dIfS, dAsg, dAsgG, dDrop, dPar2, dPar3, dAug, dAugS, dFor, dOp, dVar, dC, dTest, dChain, dAnd, dOr, dNot, dAndV, dOrV, dNotV, dIf, dTup, dLst, dNil, dCons, dStar, dCB, dCall, dFrz, dSl, dNoPart, dPart, dBM, dRev, dNeg, dIsi, dListRg, dTupRg, dRg1, dRg2, dLc, dIt, dEnum, dZip2, dZip3, dEnZ, dRng1, dRng2, dYes, gN, gT, gsNil, gsCons, gSb, oI, oI0, oAdd, oMulA, oSub, oFdiv, oMod, oPow, oLt, oLe, oGt, oGe, oEq, oNe, oIsN, oNotN, oIsB, oNotB, oIx, oSl, oLen, oSum, oAll, oAny, oAbs, o1I, o2I, oMin2, oMax2, oMin, oMax, oMinL, oMaxL, oInt, oBool, oList, oTuple, oSorted, oSortedT, oSortedD, dSortSet, dDNew, dDOne, oDGet, oDIn, oDSet, keyOD, oIn, oAddI, oGet, oSet, oAppend, oExtend, oPop, oPopAt, oIndexL, oIndexT, oInsert, oRemove, dTupX, dBMX, dLenSet, D.isNon, newL, Sto.seq, Sto.list, Sto.lsts, Sto.itOf, Sto.trk, Sto.now, startD, wipeD, D.tyN, List.map_cons, List.map_nil, List.cons_append, List.nil_append, List.length_cons, List.length_nil, List.getElem?_cons_zero, List.getElem?_cons_succ, List.set_cons_zero, List.set_cons_succ, List.replicate, Nat.sub_self, Nat.reduceSub, Nat.reduceAdd, Nat.zero_add, kb_ii, kb_ib, kb_it, kb_is, kb_bi, kb_bb, kb_bt, kb_bs, kb_tt, kb_ti, kb_ts, kb_ss, kb_si, kb_st, kb_nt, kb_ni, kb_ns, kb_lt, kb_li, kb_ls, ex_some]
    refine ⟨xs.map fun v => decide (lo ≤ v) && decide (v ≤ hi), by rw [List.map_map]; rfl, .here ?_⟩
    unfold inB at q
    rw [List.all_map]
    exact q
def sp__law_pot : DSp := fun ds S Q => ∃ (ns : List Int) (pl : Nat), ds = [.fz (ns.map .int), .int (pl : Nat)] ∧ pl ≤ 1000 ∧ ∀ p o, S p = none → PotO 0 o → Q (.ref p) (S.up p o)
theorem pure__law_pot : ∀ ds S Q, sp__law_pot ds S Q → t__law_pot (DeN Q) (startD N__law_pot ds) S := by
  rintro ds S Q ⟨ns, pl, rfl, hpl, q⟩
  have key : ∀ cell : Int, ∀ ρ : DEnv, ρ = [some (.fz (ns.map D.int)), some (.int (pl : Nat)), some (.int cell), none, none] →
      (dSeq (dAsg 3 (dOp (oMulA false) (dOp oMod (dCB oInt (dCons (dCB oAbs (dCons (dVar 2) dNil)) dNil)) (dOp oPow (dOp oPow (dC (.int 10)) (dC (.int 60))) (dC (.int 5)))) (dCB oInt (dCons (dOp oGe (dCB oAbs (dCons (dVar 2) dNil)) (dOp oPow (dC (.int 10)) (dC (.int 18)))) dNil))))
  (dSeq (dAsg 4 (dOp oMod (dCB oInt (dCons (dVar 2) dNil)) (dC (.int 2305843009213693951))))
  (dRet (dLst true (dCons (dVar 3) (dCons (dOp oMod (dCB oInt (dCons (dOp (oAdd false) (dOp (oAdd false) (dOp (oMulA false) (dVar 4) (dC (.int 72161))) (dOp (oMulA false) (dOp (oMulA false) (dC (.int 10853)) (dVar 1)) (dVar 1))) (dC (.int 2843))) dNil)) (dC (.int 2305843009213693921))) (dCons (dC (.int 0)) dNil))))))) (DeN Q) ρ S := by
    rintro cell ρ rfl
    simp only [dSeq, dNext, dRet, dRetN, dIfS, dAsg, dAsgG, dDrop, dPar2, dPar3, dAug, dAugS, dFor, dOp, dVar, dC, dTest, dChain, dAnd, dOr, dNot, dAndV, dOrV, dNotV, dIf, dTup, dLst, dNil, dCons, dStar, dCB, dCall, dFrz, dSl, dNoPart, dPart, dBM, dRev, dNeg, dIsi, dListRg, dTupRg, dRg1, dRg2, dLc, dIt, dEnum, dZip2, dZip3, dEnZ, dRng1, dRng2, dYes, gN, gT, gsNil, gsCons, gSb, oI, oI0, oAdd, oMulA, oSub, oFdiv, oMod, oPow, oLt, oLe, oGt, oGe, oEq, oNe, oIsN, oNotN, oIsB, oNotB, oIx, oSl, oLen, oSum, oAll, oAny, oAbs, o1I, o2I, oMin2, oMax2, oMin, oMax, oMinL, oMaxL, oInt, oBool, oList, oTuple, oSorted, oSortedT, oSortedD, dSortSet, dDNew, dDOne, oDGet, oDIn, oDSet, keyOD, oIn, oAddI, oGet, oSet, oAppend, oExtend, oPop, oPopAt, oIndexL, oIndexT, oInsert, oRemove, dTupX, dBMX, dLenSet, D.isNon, newL, Sto.seq, Sto.list, Sto.lsts, Sto.itOf, Sto.trk, Sto.now, startD, wipeD, D.tyN, List.map_cons, List.map_nil, List.cons_append, List.nil_append, List.length_cons, List.length_nil, List.getElem?_cons_zero, List.getElem?_cons_succ, List.set_cons_zero, List.set_cons_succ, List.replicate, Nat.sub_self, Nat.reduceSub, Nat.reduceAdd, Nat.zero_add, kb_ii, kb_ib, kb_it, kb_is, kb_bi, kb_bb, kb_bt, kb_bs, kb_tt, kb_ti, kb_ts, kb_ss, kb_si, kb_st, kb_nt, kb_ni, kb_ns, kb_lt, kb_li, kb_ls, ex_some]
    have hb : ∀ g : Bool, (if g = true then (1 : Int) else 0).natAbs ≤ 1 := fun g => by cases g <;> decide
    have hpos : (0 : Int) < (10 ^ Int.toNat 60) ^ Int.toNat 5 := by decide +kernel
    generalize hM : ((10 : Int) ^ Int.toNat 60) ^ Int.toNat 5 = M at hpos ⊢
    have hMs : M < 2 ^ 1000 := by rw [← hM]; decide +kernel
    have a1 := Int.emod_nonneg (if cell < 0 then -cell else cell) (Int.ne_of_gt hpos)
    have a2 := Int.emod_lt_of_pos (if cell < 0 then -cell else cell) hpos
    have s1 := Int.emod_nonneg cell (show (2305843009213693951 : Int) ≠ 0 by decide)
    have s2 := Int.emod_lt_of_pos cell (show (0 : Int) < 2305843009213693951 by decide)
    have pp : ((10853 * (pl : Int)) * (pl : Int)).natAbs ≤ 10853 * 1000 * 1000 := by
      rw [Int.natAbs_mul, Int.natAbs_mul]
      exact Nat.mul_le_mul (Nat.mul_le_mul (by decide) (by omega)) (by omega)
    refine ⟨⟨by decide, by decide, by decide +kernel⟩, ⟨by decide, by decide, by decide +kernel⟩, hpos, ⟨by decide, by decide, by decide +kernel⟩, ?_, by decide, ?_, ?_, ?_, by decide, ?_, ?_⟩
    · exact ⟨Nat.lt_of_lt_of_le (show _ < M.toNat by omega) (by omega), Nat.lt_of_le_of_lt (hb _) (by decide +kernel)⟩
    · exact cmul_small (n := 2305843009213693951) (m := 72161) (by omega) (by decide) (by decide +kernel) (by decide +kernel)
    · exact cmul_small (n := 10853) (m := 1000) (by decide) (by omega) (by decide +kernel) (by decide +kernel)
    · exact cmul_small (n := 10853000) (m := 1000) (by omega) (by omega) (by decide +kernel) (by decide +kernel)
    · exact small (by omega)
    · intro p hp
      refine .here (q p _ hp ⟨_, _, _, rfl, ?_, ?_, ?_, by decide, by decide⟩)
      · refine Int.mul_nonneg a1 ?_
        repeat' split
        all_goals first | decide | omega
      · exact Int.emod_nonneg _ (by decide)
      · exact Int.lt_trans (Int.emod_lt_of_pos _ (by decide)) (by decide)
  simp only [t__law_pot]
  have fin := fun cell => key cell _ rfl
  show dIf _ _ _ _ S _
  by_cases h : (pl : Int) < ((ns.map D.int).length : Nat)
  · have hi : atI (ns.map D.int) (pl : Int) = some (.int (ns.getD pl 0)) := by
      have := ix_int (xs := ns) (i := (pl : Int)) (by omega) (by rw [List.length_map] at h; omega)
      rw [Int.toNat_natCast] at this; exact this
    simp only [dSeq, dNext, dRet, dRetN, dIfS, dAsg, dAsgG, dDrop, dPar2, dPar3, dAug, dAugS, dFor, dOp, dVar, dC, dTest, dChain, dAnd, dOr, dNot, dAndV, dOrV, dNotV, dIf, dTup, dLst, dNil, dCons, dStar, dCB, dCall, dFrz, dSl, dNoPart, dPart, dBM, dRev, dNeg, dIsi, dListRg, dTupRg, dRg1, dRg2, dLc, dIt, dEnum, dZip2, dZip3, dEnZ, dRng1, dRng2, dYes, gN, gT, gsNil, gsCons, gSb, oI, oI0, oAdd, oMulA, oSub, oFdiv, oMod, oPow, oLt, oLe, oGt, oGe, oEq, oNe, oIsN, oNotN, oIsB, oNotB, oIx, oSl, oLen, oSum, oAll, oAny, oAbs, o1I, o2I, oMin2, oMax2, oMin, oMax, oMinL, oMaxL, oInt, oBool, oList, oTuple, oSorted, oSortedT, oSortedD, dSortSet, dDNew, dDOne, oDGet, oDIn, oDSet, keyOD, oIn, oAddI, oGet, oSet, oAppend, oExtend, oPop, oPopAt, oIndexL, oIndexT, oInsert, oRemove, dTupX, dBMX, dLenSet, D.isNon, newL, Sto.seq, Sto.list, Sto.lsts, Sto.itOf, Sto.trk, Sto.now, startD, wipeD, D.tyN, List.map_cons, List.map_nil, List.cons_append, List.nil_append, List.length_cons, List.length_nil, List.getElem?_cons_zero, List.getElem?_cons_succ, List.set_cons_zero, List.set_cons_succ, List.replicate, Nat.sub_self, Nat.reduceSub, Nat.reduceAdd, Nat.zero_add, kb_ii, kb_ib, kb_it, kb_is, kb_bi, kb_bb, kb_bt, kb_bs, kb_tt, kb_ti, kb_ts, kb_ss, kb_si, kb_st, kb_nt, kb_ni, kb_ns, kb_lt, kb_li, kb_ls, ex_some, decide_eq_true h, hi]
    have := fin (ns.getD pl 0)
    simp only [dSeq, dNext, dRet, dRetN, dIfS, dAsg, dAsgG, dDrop, dPar2, dPar3, dAug, dAugS, dFor, dOp, dVar, dC, dTest, dChain, dAnd, dOr, dNot, dAndV, dOrV, dNotV, dIf, dTup, dLst, dNil, dCons, dStar, dCB, dCall, dFrz, dSl, dNoPart, dPart, dBM, dRev, dNeg, dIsi, dListRg, dTupRg, dRg1, dRg2, dLc, dIt, dEnum, dZip2, dZip3, dEnZ, dRng1, dRng2, dYes, gN, gT, gsNil, gsCons, gSb, oI, oI0, oAdd, oMulA, oSub, oFdiv, oMod, oPow, oLt, oLe, oGt, oGe, oEq, oNe, oIsN, oNotN, oIsB, oNotB, oIx, oSl, oLen, oSum, oAll, oAny, oAbs, o1I, o2I, oMin2, oMax2, oMin, oMax, oMinL, oMaxL, oInt, oBool, oList, oTuple, oSorted, oSortedT, oSortedD, dSortSet, dDNew, dDOne, oDGet, oDIn, oDSet, keyOD, oIn, oAddI, oGet, oSet, oAppend, oExtend, oPop, oPopAt, oIndexL, oIndexT, oInsert, oRemove, dTupX, dBMX, dLenSet, D.isNon, newL, Sto.seq, Sto.list, Sto.lsts, Sto.itOf, Sto.trk, Sto.now, startD, wipeD, D.tyN, List.map_cons, List.map_nil, List.cons_append, List.nil_append, List.length_cons, List.length_nil, List.getElem?_cons_zero, List.getElem?_cons_succ, List.set_cons_zero, List.set_cons_succ, List.replicate, Nat.sub_self, Nat.reduceSub, Nat.reduceAdd, Nat.zero_add, kb_ii, kb_ib, kb_it, kb_is, kb_bi, kb_bb, kb_bt, kb_bs, kb_tt, kb_ti, kb_ts, kb_ss, kb_si, kb_st, kb_nt, kb_ni, kb_ns, kb_lt, kb_li, kb_ls, ex_some] at this
    exact this
  · simp only [dSeq, dNext, dRet, dRetN, dIfS, dAsg, dAsgG, dDrop, dPar2, dPar3, dAug, dAugS, dFor, dOp, dVar, dC, dTest, dChain, dAnd, dOr, dNot, dAndV, dOrV, dNotV, dIf, dTup, dLst, dNil, dCons, dStar, dCB, dCall, dFrz, dSl, dNoPart, dPart, dBM, dRev, dNeg, dIsi, dListRg, dTupRg, dRg1, dRg2, dLc, dIt, dEnum, dZip2, dZip3, dEnZ, dRng1, dRng2, dYes, gN, gT, gsNil, gsCons, gSb, oI, oI0, oAdd, oMulA, oSub, oFdiv, oMod, oPow, oLt, oLe, oGt, oGe, oEq, oNe, oIsN, oNotN, oIsB, oNotB, oIx, oSl, oLen, oSum, oAll, oAny, oAbs, o1I, o2I, oMin2, oMax2, oMin, oMax, oMinL, oMaxL, oInt, oBool, oList, oTuple, oSorted, oSortedT, oSortedD, dSortSet, dDNew, dDOne, oDGet, oDIn, oDSet, keyOD, oIn, oAddI, oGet, oSet, oAppend, oExtend, oPop, oPopAt, oIndexL, oIndexT, oInsert, oRemove, dTupX, dBMX, dLenSet, D.isNon, newL, Sto.seq, Sto.list, Sto.lsts, Sto.itOf, Sto.trk, Sto.now, startD, wipeD, D.tyN, List.map_cons, List.map_nil, List.cons_append, List.nil_append, List.length_cons, List.length_nil, List.getElem?_cons_zero, List.getElem?_cons_succ, List.set_cons_zero, List.set_cons_succ, List.replicate, Nat.sub_self, Nat.reduceSub, Nat.reduceAdd, Nat.zero_add, kb_ii, kb_ib, kb_it, kb_is, kb_bi, kb_bb, kb_bt, kb_bs, kb_tt, kb_ti, kb_ts, kb_ss, kb_si, kb_st, kb_nt, kb_ni, kb_ns, kb_lt, kb_li, kb_ls, ex_some, decide_eq_false h, cut_one]
    refine ⟨ns.take 1, rfl, by decide, cmul_small (n := 4639) (m := 1000) (by decide) (by omega) (by decide +kernel) (by decide +kernel), ?_⟩
    have := fin ((ns.take 1).sum % 1000211 + 4639 * (pl : Int) + 3163)
    simp only [dSeq, dNext, dRet, dRetN, dIfS, dAsg, dAsgG, dDrop, dPar2, dPar3, dAug, dAugS, dFor, dOp, dVar, dC, dTest, dChain, dAnd, dOr, dNot, dAndV, dOrV, dNotV, dIf, dTup, dLst, dNil, dCons, dStar, dCB, dCall, dFrz, dSl, dNoPart, dPart, dBM, dRev, dNeg, dIsi, dListRg, dTupRg, dRg1, dRg2, dLc, dIt, dEnum, dZip2, dZip3, dEnZ, dRng1, dRng2, dYes, gN, gT, gsNil, gsCons, gSb, oI, oI0, oAdd, oMulA, oSub, oFdiv, oMod, oPow, oLt, oLe, oGt, oGe, oEq, oNe, oIsN, oNotN, oIsB, oNotB, oIx, oSl, oLen, oSum, oAll, oAny, oAbs, o1I, o2I, oMin2, oMax2, oMin, oMax, oMinL, oMaxL, oInt, oBool, oList, oTuple, oSorted, oSortedT, oSortedD, dSortSet, dDNew, dDOne, oDGet, oDIn, oDSet, keyOD, oIn, oAddI, oGet, oSet, oAppend, oExtend, oPop, oPopAt, oIndexL, oIndexT, oInsert, oRemove, dTupX, dBMX, dLenSet, D.isNon, newL, Sto.seq, Sto.list, Sto.lsts, Sto.itOf, Sto.trk, Sto.now, startD, wipeD, D.tyN, List.map_cons, List.map_nil, List.cons_append, List.nil_append, List.length_cons, List.length_nil, List.getElem?_cons_zero, List.getElem?_cons_succ, List.set_cons_zero, List.set_cons_succ, List.replicate, Nat.sub_self, Nat.reduceSub, Nat.reduceAdd, Nat.zero_add, kb_ii, kb_ib, kb_it, kb_is, kb_bi, kb_bb, kb_bt, kb_bs, kb_tt, kb_ti, kb_ts, kb_ss, kb_si, kb_st, kb_nt, kb_ni, kb_ns, kb_lt, kb_li, kb_ls, ex_some] at this
    exact this
def sp__law_take : DSp := fun ds S Q => ∃ (p : Addr) (n : Int) (b : Nat) (o : MO), ds = [.ref p, .int n] ∧ 0 < n ∧ n < 1000000 ∧ S p = some o ∧ PotO b o ∧ b ≤ 1000000 ∧ ∀ k o', 0 ≤ k → k < n → PotO (b + 1) o' → Q (.int k) (S.up p o')
theorem pure__law_take : ∀ ds S Q, sp__law_take ds S Q → t__law_take (DeN Q) (startD N__law_take ds) S := by
  rintro ds S Q ⟨p, n, b, o, rfl, hn, hn2, hS, ⟨own, small_, c, rfl, h1, h2, h3, h4, h5⟩, hb, q⟩
  have i0 : ∀ x y z : Int, atI [D.int x, D.int y, D.int z] 0 = some (.int x) := fun _ _ _ => rfl
  have i1 : ∀ x y z : Int, atI [D.int x, D.int y, D.int z] 1 = some (.int y) := fun _ _ _ => rfl
  have i2 : ∀ x y z : Int, atI [D.int x, D.int y, D.int z] 2 = some (.int z) := fun _ _ _ => rfl
  simp only [t__law_take, dSeq, dNext, dRet, dRetN, dIfS, dAsg, dAsgG, dDrop, dPar2, dPar3, dAug, dAugS, dFor, dOp, dVar, dC, dTest, dChain, dAnd, dOr, dNot, dAndV, dOrV, dNotV, dIf, dTup, dLst, dNil, dCons, dStar, dCB, dCall, dFrz, dSl, dNoPart, dPart, dBM, dRev, dNeg, dIsi, dListRg, dTupRg, dRg1, dRg2, dLc, dIt, dEnum, dZip2, dZip3, dEnZ, dRng1, dRng2, dYes, gN, gT, gsNil, gsCons, gSb, oI, oI0, oAdd, oMulA, oSub, oFdiv, oMod, oPow, oLt, oLe, oGt, oGe, oEq, oNe, oIsN, oNotN, oIsB, oNotB, oIx, oSl, oLen, oSum, oAll, oAny, oAbs, o1I, o2I, oMin2, oMax2, oMin, oMax, oMinL, oMaxL, oInt, oBool, oList, oTuple, oSorted, oSortedT, oSortedD, dSortSet, dDNew, dDOne, oDGet, oDIn, oDSet, keyOD, oIn, oAddI, oGet, oSet, oAppend, oExtend, oPop, oPopAt, oIndexL, oIndexT, oInsert, oRemove, dTupX, dBMX, dLenSet, D.isNon, newL, Sto.seq, Sto.list, Sto.lsts, Sto.itOf, Sto.trk, Sto.now, startD, wipeD, D.tyN, List.map_cons, List.map_nil, List.cons_append, List.nil_append, List.length_cons, List.length_nil, List.getElem?_cons_zero, List.getElem?_cons_succ, List.set_cons_zero, List.set_cons_succ, List.replicate, Nat.sub_self, Nat.reduceSub, Nat.reduceAdd, Nat.zero_add, kb_ii, kb_ib, kb_it, kb_is, kb_bi, kb_bb, kb_bt, kb_bs, kb_tt, kb_ti, kb_ts, kb_ss, kb_si, kb_st, kb_nt, kb_ni, kb_ns, kb_lt, kb_li, kb_ls, ex_some, hS, i0]
  by_cases ho : 0 < own
  · simp only [decide_eq_true ho, hS, i0, dSeq, dNext, dRet, dRetN, dIfS, dAsg, dAsgG, dDrop, dPar2, dPar3, dAug, dAugS, dFor, dOp, dVar, dC, dTest, dChain, dAnd, dOr, dNot, dAndV, dOrV, dNotV, dIf, dTup, dLst, dNil, dCons, dStar, dCB, dCall, dFrz, dSl, dNoPart, dPart, dBM, dRev, dNeg, dIsi, dListRg, dTupRg, dRg1, dRg2, dLc, dIt, dEnum, dZip2, dZip3, dEnZ, dRng1, dRng2, dYes, gN, gT, gsNil, gsCons, gSb, oI, oI0, oAdd, oMulA, oSub, oFdiv, oMod, oPow, oLt, oLe, oGt, oGe, oEq, oNe, oIsN, oNotN, oIsB, oNotB, oIx, oSl, oLen, oSum, oAll, oAny, oAbs, o1I, o2I, oMin2, oMax2, oMin, oMax, oMinL, oMaxL, oInt, oBool, oList, oTuple, oSorted, oSortedT, oSortedD, dSortSet, dDNew, dDOne, oDGet, oDIn, oDSet, keyOD, oIn, oAddI, oGet, oSet, oAppend, oExtend, oPop, oPopAt, oIndexL, oIndexT, oInsert, oRemove, dTupX, dBMX, dLenSet, D.isNon, newL, Sto.seq, Sto.list, Sto.lsts, Sto.itOf, Sto.trk, Sto.now, startD, wipeD, D.tyN, List.map_cons, List.map_nil, List.cons_append, List.nil_append, List.length_cons, List.length_nil, List.getElem?_cons_zero, List.getElem?_cons_succ, List.set_cons_zero, List.set_cons_succ, List.replicate, Nat.sub_self, Nat.reduceSub, Nat.reduceAdd, Nat.zero_add, kb_ii, kb_ib, kb_it, kb_is, kb_bi, kb_bb, kb_bt, kb_bs, kb_tt, kb_ti, kb_ts, kb_ss, kb_si, kb_st, kb_nt, kb_ni, kb_ns, kb_lt, kb_li, kb_ls, ex_some]
    refine ⟨hn, ⟨hn, by omega⟩, 0, rfl, ?_⟩
    simp only [dSeq, dNext, dRet, dRetN, dIfS, dAsg, dAsgG, dDrop, dPar2, dPar3, dAug, dAugS, dFor, dOp, dVar, dC, dTest, dChain, dAnd, dOr, dNot, dAndV, dOrV, dNotV, dIf, dTup, dLst, dNil, dCons, dStar, dCB, dCall, dFrz, dSl, dNoPart, dPart, dBM, dRev, dNeg, dIsi, dListRg, dTupRg, dRg1, dRg2, dLc, dIt, dEnum, dZip2, dZip3, dEnZ, dRng1, dRng2, dYes, gN, gT, gsNil, gsCons, gSb, oI, oI0, oAdd, oMulA, oSub, oFdiv, oMod, oPow, oLt, oLe, oGt, oGe, oEq, oNe, oIsN, oNotN, oIsB, oNotB, oIx, oSl, oLen, oSum, oAll, oAny, oAbs, o1I, o2I, oMin2, oMax2, oMin, oMax, oMinL, oMaxL, oInt, oBool, oList, oTuple, oSorted, oSortedT, oSortedD, dSortSet, dDNew, dDOne, oDGet, oDIn, oDSet, keyOD, oIn, oAddI, oGet, oSet, oAppend, oExtend, oPop, oPopAt, oIndexL, oIndexT, oInsert, oRemove, dTupX, dBMX, dLenSet, D.isNon, newL, Sto.seq, Sto.list, Sto.lsts, Sto.itOf, Sto.trk, Sto.now, startD, wipeD, D.tyN, List.map_cons, List.map_nil, List.cons_append, List.nil_append, List.length_cons, List.length_nil, List.getElem?_cons_zero, List.getElem?_cons_succ, List.set_cons_zero, List.set_cons_succ, List.replicate, Nat.sub_self, Nat.reduceSub, Nat.reduceAdd, Nat.zero_add, kb_ii, kb_ib, kb_it, kb_is, kb_bi, kb_bb, kb_bt, kb_bs, kb_tt, kb_ti, kb_ts, kb_ss, kb_si, kb_st, kb_nt, kb_ni, kb_ns, kb_lt, kb_li, kb_ls, ex_some]
    refine .here (q _ _ (Int.emod_nonneg _ (by omega)) (Int.emod_lt_of_pos _ hn) ⟨_, _, _, rfl, Int.ediv_nonneg h1 (by omega), h2, h3, h4, by omega⟩)
  · simp only [decide_eq_false ho, i2, dSeq, dNext, dRet, dRetN, dIfS, dAsg, dAsgG, dDrop, dPar2, dPar3, dAug, dAugS, dFor, dOp, dVar, dC, dTest, dChain, dAnd, dOr, dNot, dAndV, dOrV, dNotV, dIf, dTup, dLst, dNil, dCons, dStar, dCB, dCall, dFrz, dSl, dNoPart, dPart, dBM, dRev, dNeg, dIsi, dListRg, dTupRg, dRg1, dRg2, dLc, dIt, dEnum, dZip2, dZip3, dEnZ, dRng1, dRng2, dYes, gN, gT, gsNil, gsCons, gSb, oI, oI0, oAdd, oMulA, oSub, oFdiv, oMod, oPow, oLt, oLe, oGt, oGe, oEq, oNe, oIsN, oNotN, oIsB, oNotB, oIx, oSl, oLen, oSum, oAll, oAny, oAbs, o1I, o2I, oMin2, oMax2, oMin, oMax, oMinL, oMaxL, oInt, oBool, oList, oTuple, oSorted, oSortedT, oSortedD, dSortSet, dDNew, dDOne, oDGet, oDIn, oDSet, keyOD, oIn, oAddI, oGet, oSet, oAppend, oExtend, oPop, oPopAt, oIndexL, oIndexT, oInsert, oRemove, dTupX, dBMX, dLenSet, D.isNon, newL, Sto.seq, Sto.list, Sto.lsts, Sto.itOf, Sto.trk, Sto.now, startD, wipeD, D.tyN, List.map_cons, List.map_nil, List.cons_append, List.nil_append, List.length_cons, List.length_nil, List.getElem?_cons_zero, List.getElem?_cons_succ, List.set_cons_zero, List.set_cons_succ, List.replicate, Nat.sub_self, Nat.reduceSub, Nat.reduceAdd, Nat.zero_add, kb_ii, kb_ib, kb_it, kb_is, kb_bi, kb_bb, kb_bt, kb_bs, kb_tt, kb_ti, kb_ts, kb_ss, kb_si, kb_st, kb_nt, kb_ni, kb_ns, kb_lt, kb_li, kb_ls, ex_some]
    refine ⟨2, rfl, ?_⟩
    simp only [Sto.up_same, dSeq, dNext, dRet, dRetN, dIfS, dAsg, dAsgG, dDrop, dPar2, dPar3, dAug, dAugS, dFor, dOp, dVar, dC, dTest, dChain, dAnd, dOr, dNot, dAndV, dOrV, dNotV, dIf, dTup, dLst, dNil, dCons, dStar, dCB, dCall, dFrz, dSl, dNoPart, dPart, dBM, dRev, dNeg, dIsi, dListRg, dTupRg, dRg1, dRg2, dLc, dIt, dEnum, dZip2, dZip3, dEnZ, dRng1, dRng2, dYes, gN, gT, gsNil, gsCons, gSb, oI, oI0, oAdd, oMulA, oSub, oFdiv, oMod, oPow, oLt, oLe, oGt, oGe, oEq, oNe, oIsN, oNotN, oIsB, oNotB, oIx, oSl, oLen, oSum, oAll, oAny, oAbs, o1I, o2I, oMin2, oMax2, oMin, oMax, oMinL, oMaxL, oInt, oBool, oList, oTuple, oSorted, oSortedT, oSortedD, dSortSet, dDNew, dDOne, oDGet, oDIn, oDSet, keyOD, oIn, oAddI, oGet, oSet, oAppend, oExtend, oPop, oPopAt, oIndexL, oIndexT, oInsert, oRemove, dTupX, dBMX, dLenSet, D.isNon, newL, Sto.seq, Sto.list, Sto.lsts, Sto.itOf, Sto.trk, Sto.now, startD, wipeD, D.tyN, List.map_cons, List.map_nil, List.cons_append, List.nil_append, List.length_cons, List.length_nil, List.getElem?_cons_zero, List.getElem?_cons_succ, List.set_cons_zero, List.set_cons_succ, List.replicate, Nat.sub_self, Nat.reduceSub, Nat.reduceAdd, Nat.zero_add, kb_ii, kb_ib, kb_it, kb_is, kb_bi, kb_bb, kb_bt, kb_bs, kb_tt, kb_ti, kb_ts, kb_ss, kb_si, kb_st, kb_nt, kb_ni, kb_ns, kb_lt, kb_li, kb_ls, ex_some, i2, i1]
    refine ⟨small (by omega), by decide, ?_⟩
    have hm0 := Int.emod_nonneg (c + 1) (show (5 : Int) ≠ 0 by decide)
    have hm1 := Int.emod_lt_of_pos (c + 1) (show (0 : Int) < 5 by decide)
    have hpr : ∃ P : Int, 0 < P ∧ P ≤ 2147483647 ∧ atI [D.int 2147483647, D.int 2147483629, D.int 2147483587, D.int 2147483579, D.int 2147483563] ((c + 1) % 5) = some (.int P) := by
      have : (c + 1) % 5 = 0 ∨ (c + 1) % 5 = 1 ∨ (c + 1) % 5 = 2 ∨ (c + 1) % 5 = 3 ∨ (c + 1) % 5 = 4 := by omega
      rcases this with e | e | e | e | e <;> rw [e]
      · exact ⟨2147483647, by decide, by decide, rfl⟩
      · exact ⟨2147483629, by decide, by decide, rfl⟩
      · exact ⟨2147483587, by decide, by decide, rfl⟩
      · exact ⟨2147483579, by decide, by decide, rfl⟩
      · exact ⟨2147483563, by decide, by decide, rfl⟩
    obtain ⟨P, hP0, hP1, hP⟩ := hpr
    have cc : ((95257 * (c + 1)) * (c + 1)).natAbs ≤ 95257 * 1000001 * 1000001 := by
      rw [Int.natAbs_mul, Int.natAbs_mul]
      exact Nat.mul_le_mul (Nat.mul_le_mul (by decide) (by omega)) (by omega)
    simp only [hP, Sto.up_same, i2, i1, dSeq, dNext, dRet, dRetN, dIfS, dAsg, dAsgG, dDrop, dPar2, dPar3, dAug, dAugS, dFor, dOp, dVar, dC, dTest, dChain, dAnd, dOr, dNot, dAndV, dOrV, dNotV, dIf, dTup, dLst, dNil, dCons, dStar, dCB, dCall, dFrz, dSl, dNoPart, dPart, dBM, dRev, dNeg, dIsi, dListRg, dTupRg, dRg1, dRg2, dLc, dIt, dEnum, dZip2, dZip3, dEnZ, dRng1, dRng2, dYes, gN, gT, gsNil, gsCons, gSb, oI, oI0, oAdd, oMulA, oSub, oFdiv, oMod, oPow, oLt, oLe, oGt, oGe, oEq, oNe, oIsN, oNotN, oIsB, oNotB, oIx, oSl, oLen, oSum, oAll, oAny, oAbs, o1I, o2I, oMin2, oMax2, oMin, oMax, oMinL, oMaxL, oInt, oBool, oList, oTuple, oSorted, oSortedT, oSortedD, dSortSet, dDNew, dDOne, oDGet, oDIn, oDSet, keyOD, oIn, oAddI, oGet, oSet, oAppend, oExtend, oPop, oPopAt, oIndexL, oIndexT, oInsert, oRemove, dTupX, dBMX, dLenSet, D.isNon, newL, Sto.seq, Sto.list, Sto.lsts, Sto.itOf, Sto.trk, Sto.now, startD, wipeD, D.tyN, List.map_cons, List.map_nil, List.cons_append, List.nil_append, List.length_cons, List.length_nil, List.getElem?_cons_zero, List.getElem?_cons_succ, List.set_cons_zero, List.set_cons_succ, List.replicate, Nat.sub_self, Nat.reduceSub, Nat.reduceAdd, Nat.zero_add, kb_ii, kb_ib, kb_it, kb_is, kb_bi, kb_bb, kb_bt, kb_bs, kb_tt, kb_ti, kb_ts, kb_ss, kb_si, kb_st, kb_nt, kb_ni, kb_ns, kb_lt, kb_li, kb_ls, ex_some]
    generalize hX : ((small_ + 95257 * (c + 1) * (c + 1) + 3163 : Int)) ^ Int.toNat 3 = X
    have m0 := Int.emod_nonneg X (Int.ne_of_gt hP0)
    have m1 := Int.emod_lt_of_pos X hP0
    have k0 := Int.emod_nonneg (X % P) (show (13441 : Int) ≠ 0 by decide)
    have k1 := Int.emod_lt_of_pos (X % P) (show (0 : Int) < 13441 by decide)
    refine ⟨cmul_small (n := 95257) (m := 1000001) (by decide) (by omega) (by decide +kernel) (by decide +kernel), cmul_small (n := 95257 * 1000001) (m := 1000001) (by omega) (by omega) (by decide +kernel) (by decide +kernel),
      ⟨by decide, by decide, Nat.lt_of_le_of_lt (show _ ≤ 2 ^ 70 by omega) (by decide +kernel)⟩, hP0, by decide,
      cmul_small (n := 419) (m := 1000001) (by decide) (by omega) (by decide +kernel) (by decide +kernel), cmul_small (n := 2147483647) (m := 2 ^ 40) (by omega) (by omega) (by decide +kernel) (by decide +kernel), by decide, ⟨by decide, by decide⟩, hn, ?_⟩
    refine .here (q _ _ (Int.emod_nonneg _ (by omega)) (Int.emod_lt_of_pos _ hn) ⟨own, small_, c + 1, rfl, h1, h2, h3, by omega, by omega⟩)
def sp__law_cells : DSp := fun ds S Q => ∃ (ns : List Int), ds = [.fz (ns.map .int), .int 2] ∧ ns.length ≤ 1000 ∧ ∀ n : Nat, n ≤ 2 → Q (.lst ((List.range n).map fun (i : Nat) => .int ((0 : Int) + (i : Nat)))) S
theorem pure__law_cells : ∀ ds S Q, sp__law_cells ds S Q → t__law_cells (DeN Q) (startD N__law_cells ds) S := by
  rintro ds S Q ⟨ns, rfl, hl, q⟩
  simp only [t__law_cells, dSeq, dNext, dRet, dRetN, dIfS, dAsg, dAsgG, dDrop, dPar2, dPar3, dAug, dAugS, dFor, dOp, dVar, dC, dTest, dChain, dAnd, dOr, dNot, dAndV, dOrV, dNotV, dIf, dTup, dLst, dNil, dCons, dStar, dCB, dCall, dFrz, dSl, dNoPart, dPart, dBM, dRev, dNeg, dIsi, dListRg, dTupRg, dRg1, dRg2, dLc, dIt, dEnum, dZip2, dZip3, dEnZ, dRng1, dRng2, dYes, gN, gT, gsNil, gsCons, gSb, oI, oI0, oAdd, oMulA, oSub, oFdiv, oMod, oPow, oLt, oLe, oGt, oGe, oEq, oNe, oIsN, oNotN, oIsB, oNotB, oIx, oSl, oLen, oSum, oAll, oAny, oAbs, o1I, o2I, oMin2, oMax2, oMin, oMax, oMinL, oMaxL, oInt, oBool, oList, oTuple, oSorted, oSortedT, oSortedD, dSortSet, dDNew, dDOne, oDGet, oDIn, oDSet, keyOD, oIn, oAddI, oGet, oSet, oAppend, oExtend, oPop, oPopAt, oIndexL, oIndexT, oInsert, oRemove, dTupX, dBMX, dLenSet, D.isNon, newL, Sto.seq, Sto.list, Sto.lsts, Sto.itOf, Sto.trk, Sto.now, startD, wipeD, D.tyN, List.map_cons, List.map_nil, List.cons_append, List.nil_append, List.length_cons, List.length_nil, List.getElem?_cons_zero, List.getElem?_cons_succ, List.set_cons_zero, List.set_cons_succ, List.replicate, Nat.sub_self, Nat.reduceSub, Nat.reduceAdd, Nat.zero_add, kb_ii, kb_ib, kb_it, kb_is, kb_bi, kb_bb, kb_bt, kb_bs, kb_tt, kb_ti, kb_ts, kb_ss, kb_si, kb_st, kb_nt, kb_ni, kb_ns, kb_lt, kb_li, kb_ls, ex_some]
  have key : ∀ k : Int, 0 ≤ k → k ≤ 2 → RgOk 0 k ∧ FzQ Q (.lst (rgD 0 k)) S := fun k h0 h1 => by
    refine ⟨.of_le (by decide) (by omega) (by decide) h0, .here ?_⟩
    unfold rgD
    rw [show (k - 0).toNat = k.toNat by omega]
    exact q k.toNat (by omega)
  by_cases h1 : (((ns.map D.int).length : Nat) : Int) < 2
  · simp only [if_pos h1]
    by_cases h2 : (((ns.map D.int).length : Nat) : Int) > 1
    · simp only [if_pos h2]; exact key _ (by omega) (by omega)
    · simp only [if_neg h2]; exact key 1 (by decide) (by decide)
  · simp only [if_neg h1]
    have : (2 : Int) > 1 := by decide
    simp only [if_pos this]; exact key 2 (by decide) (by decide)
end L47
namespace L47
open PySem PySem.Spec PySem.W PyProof.Rows L2 PL
/-! ### gates and ways -/
structure Gate where
  a : Int
  b : Int
  c : Int
deriving Inhabited
def eG (g : Gate) : D := .tup [.int g.a, .int g.b, .int g.c]
def gt (G : List Gate) (i : Nat) : Gate := G.getD i ⟨0, 0, 0⟩
def at0 (c : List Int) (i : Nat) : Int := c.getD i 0
theorem at0_mem {c : List Int} {i : Nat} (h : i < c.length) : at0 c i ∈ c := by
  unfold at0; rw [List.getD_eq_getElem?_getD, List.getElem?_eq_getElem h]; exact List.getElem_mem h
theorem gt_mem {G : List Gate} {i : Nat} (h : i < G.length) : gt G i ∈ G := by
  unfold gt; rw [List.getD_eq_getElem?_getD, List.getElem?_eq_getElem h]; exact List.getElem_mem h
theorem ix_at0 {c : List Int} {i : Nat} (h : i < c.length) : atI (c.map D.int) ((i : Nat) : Int) = some (.int (at0 c i)) := by
  rw [ix_int (by omega) (by omega), Int.toNat_natCast]; rfl
theorem ix_gt {G : List Gate} {i : Nat} (h : i < G.length) : atI (G.map eG) ((i : Nat) : Int) = some (eG (gt G i)) := by
  rw [atI_map, atI_nn ⟨0, 0, 0⟩ (by omega) (by omega), Int.toNat_natCast]; rfl
theorem at0_set {c : List Int} {i j : Nat} {x : Int} (h : i < c.length) : at0 (c.set i x) j = if j = i then x else at0 c j := by
  unfold at0
  rw [List.getD_eq_getElem?_getD, List.getD_eq_getElem?_getD]
  by_cases e : j = i
  · subst e; rw [if_pos rfl, List.getElem?_set_self h]; rfl
  · rw [if_neg e, List.getElem?_set_ne (Ne.symm e)]
abbrev Ent := Int × Option (Nat × Int)
def encW : Option (Nat × Int) → D
  | none => .non
  | some (i, w) => .tup [.int (i : Nat), .int w]
def encE (E : List Ent) : KD := E.map fun e => (.inl e.1, encW e.2)
def rm (E : List Ent) : List Int := E.map (·.1)
def look (E : List Ent) (r : Int) : Option (Option (Nat × Int)) := (E.find? fun e => decide (e.1 = r)).map (·.2)
theorem val_enc (E : List Ent) (r : Int) : valD (encE E) (.inl r) = (look E r).map encW := by
  induction E with
  | nil => rfl
  | cons e E ih =>
    by_cases h : e.1 = r
    · have e1 : valD (encE (e :: E)) (.inl r) = some (encW e.2) := valD_pos (p := (.inl e.1, encW e.2)) (by rw [h])
      have e2 : look (e :: E) r = some e.2 := by simp [look, List.find?_cons, h]
      rw [e1, e2]; rfl
    · have e1 : valD (encE (e :: E)) (.inl r) = valD (encE E) (.inl r) := valD_neg (p := (.inl e.1, encW e.2)) (by intro z; exact h (Sum.inl.inj z))
      have e2 : look (e :: E) r = look E r := by simp [look, List.find?_cons, h]
      rw [e1, e2, ih]
theorem look_some {E : List Ent} {r : Int} : (look E r).isSome = true ↔ r ∈ rm E := by
  unfold look rm
  rw [Option.isSome_map, List.find?_isSome]
  constructor
  · rintro ⟨x, hx, h⟩; exact List.mem_map.mpr ⟨x, hx, of_decide_eq_true h⟩
  · intro h; obtain ⟨x, hx, rfl⟩ := List.mem_map.mp h; exact ⟨x, hx, by simp⟩
theorem val_isSome (E : List Ent) (r : Int) : (valD (encE E) (.inl r)).isSome = decide (r ∈ rm E) := by
  rw [val_enc, Option.isSome_map]
  by_cases h : r ∈ rm E
  · rw [decide_eq_true h]; exact look_some.mpr h
  · rw [decide_eq_false h]
    cases e : look E r with
    | none => rfl
    | some x => exact absurd (look_some.mp (by rw [e]; rfl)) h
theorem put_enc {E : List Ent} {r : Int} {i : Nat} {w : Int} (h : r ∉ rm E) : putD (encE E) (.inl r) (.tup [.int (i : Nat), .int w]) = encE (E ++ [(r, some (i, w))]) := by
  rw [putD_new]
  · unfold encE; rw [List.map_append]; rfl
  · have := val_isSome E r
    rw [decide_eq_false h] at this
    cases e : valD (encE E) (.inl r) with
    | none => rfl
    | some x => rw [e] at this; cases this
/-- r is got at through gate i -/
def Way (G : List Gate) (U : List Int) (X : List Int) (r : Int) (i : Nat) (w : Int) : Prop :=
  i < G.length ∧ ((w = 1 ∧ (gt G i).b = r ∧ (gt G i).a ∈ X ∧ at0 U i < (gt G i).c) ∨ (w = -1 ∧ (gt G i).a = r ∧ (gt G i).b ∈ X ∧ 0 < at0 U i))
inductive Tree (G : List Gate) (U : List Int) (s : Int) : List Ent → Prop
  | root : Tree G U s [(s, none)]
  | grow {E : List Ent} {r : Int} {i : Nat} {w : Int} : Tree G U s E → r ∉ rm E → Way G U (rm E) r i w → Tree G U s (E ++ [(r, some (i, w))])
theorem rm_app (E F : List Ent) : rm (E ++ F) = rm E ++ rm F := List.map_append
theorem Tree.nd {G : List Gate} {U : List Int} {s : Int} {E : List Ent} (t : Tree G U s E) : (rm E).Nodup := by
  induction t with
  | root => simp [rm]
  | grow t hr hw ih =>
    rw [rm_app, List.nodup_append]
    exact ⟨ih, by simp [rm], fun a ha b hb e => by
      have : b = _ := List.mem_singleton.mp hb
      subst this; subst e; exact hr ha⟩
theorem Tree.start {G : List Gate} {U : List Int} {s : Int} {E : List Ent} (t : Tree G U s E) : s ∈ rm E := by
  induction t with
  | root => simp [rm]
  | grow t hr hw ih => rw [rm_app]; exact List.mem_append_left _ ih
structure GG (R : Int) (G : List Gate) : Prop where
  r : ∀ g ∈ G, (0 ≤ g.a ∧ g.a < R) ∧ (0 ≤ g.b ∧ g.b < R) ∧ g.a ≠ g.b
  c : ∀ g ∈ G, 0 ≤ g.c ∧ g.c ≤ 1000000
  n : G.length ≤ 200
  R : 2 ≤ R ∧ R ≤ 40
theorem Tree.rooms {G : List Gate} {U : List Int} {s R : Int} {E : List Ent} (t : Tree G U s E) (g : GG R G) (hs : 0 ≤ s ∧ s < R) : ∀ x ∈ rm E, 0 ≤ x ∧ x < R := by
  induction t with
  | root => intro x hx; rw [List.mem_singleton.mp hx]; exact hs
  | grow t hr hw ih =>
    intro x hx
    rw [rm_app] at hx
    rcases List.mem_append.mp hx with hx | hx
    · exact ih x hx
    · have : x = _ := List.mem_singleton.mp hx
      subst this
      obtain ⟨hi, h | h⟩ := hw
      · have := g.r _ (gt_mem hi); rw [← h.2.1]; exact this.2.1
      · have := g.r _ (gt_mem hi); rw [← h.2.1]; exact this.1
/-- few unlike numbers -/
theorem nd_few : ∀ (n : Nat) {l : List Int}, l.Nodup → (∀ x ∈ l, 0 ≤ x ∧ x < n) → l.length ≤ n
  | 0, l, _, h => by
    cases l with
    | nil => exact Nat.le_refl _
    | cons a l => have := h a List.mem_cons_self; omega
  | n + 1, l, hd, h => by
    have h1 : (l.erase (n : Int)).length ≤ n := nd_few n (hd.erase _) fun x hx => by
      have h2 := h x (List.mem_of_mem_erase hx)
      have h3 : x ≠ (n : Int) := fun z => by
        rw [z] at hx
        exact (List.Nodup.not_mem_erase hd) hx
      omega
    by_cases hm : (n : Int) ∈ l
    · have h4 := List.length_erase_of_mem hm
      have := List.length_pos_of_mem hm
      omega
    · rw [List.erase_of_not_mem hm] at h1; omega
/-- all is looked at from x -/
def Done (G : List Gate) (U : List Int) (X : List Int) (x : Int) (k : Nat) : Prop := ∀ i, i < k → ((gt G i).a = x → at0 U i < (gt G i).c → (gt G i).b ∈ X) ∧ ((gt G i).b = x → 0 < at0 U i → (gt G i).a ∈ X)
theorem Done.up {G : List Gate} {U X Y : List Int} {x : Int} {k : Nat} (d : Done G U X x k) (h : ∀ z ∈ X, z ∈ Y) : Done G U Y x k := fun i hi => ⟨fun a b => h _ ((d i hi).1 a b), fun a b => h _ ((d i hi).2 a b)⟩
structure Ways (G : List Gate) (U : List Int) (s : Int) (E : List Ent) : Prop where
  tree : Tree G U s E
  done : ∀ x ∈ rm E, Done G U (rm E) x G.length
theorem whileG {θ : TTD} {τ : TSD} {De : EndsD} {ρ : DEnv} {S : Sto} (h : ∀ v : TSD, v = τ → dWhile θ v De ρ S) : dWhile θ τ De ρ S := h τ rfl
theorem up_swap {S : Sto} {a b : Addr} {x y z : MO} (h : b ≠ a) : ((S.up a x).up b y).up a z = (S.up a z).up b y := by
  funext c
  by_cases ha : c = a
  · subst ha; rw [Sto.up_same, Sto.up_ne (Ne.symm h), Sto.up_same]
  · rw [Sto.up_ne ha]
    by_cases hb : c = b
    · subst hb; rw [Sto.up_same, Sto.up_same]
    · rw [Sto.up_ne hb, Sto.up_ne hb, Sto.up_ne ha, Sto.up_ne ha]
def sp_told_ways : DSp := fun ds S Q => ∃ (gd : D) (G : List Gate) (pu : Addr) (U : List Int) (s R : Int), ds = [gd, .ref pu, .int s] ∧ (gd = .tup (G.map eG) ∨ gd = .lst (G.map eG)) ∧ S pu = some (.lst (U.map D.int)) ∧ U.length = G.length ∧ GG R G ∧ (0 ≤ s ∧ s < R) ∧
  ∀ E p, Ways G U s E → S p = none → Q (.ref p) (S.up p (.dK (encE E)))
theorem pure_told_ways : ∀ ds S Q, sp_told_ways ds S Q → t_told_ways (DeN Q) (startD N_told_ways ds) S := by
  rintro ds S0 Q ⟨gd, G, pu, U, s, R, rfl, hgd, hpu, hU, g, hs, q⟩
  have hit : ∀ S : Sto, S.itOf gd = some ⟨G.map eG, fun _ => True⟩ := fun S => by rcases hgd with rfl | rfl <;> rfl
  have hn := g.n
  have hR := g.R
  unfold t_told_ways
  refine seqG fun v1 hv1 => ?_
  simp only [dSeq, dNext, dRet, dRetN, dIfS, dAsg, dAsgG, dDrop, dPar2, dPar3, dAug, dAugS, dFor, dOp, dVar, dC, dTest, dChain, dAnd, dOr, dNot, dAndV, dOrV, dNotV, dIf, dTup, dLst, dNil, dCons, dStar, dCB, dCall, dFrz, dSl, dNoPart, dPart, dBM, dRev, dNeg, dIsi, dListRg, dTupRg, dRg1, dRg2, dLc, dIt, dEnum, dZip2, dZip3, dEnZ, dRng1, dRng2, dYes, gN, gT, gsNil, gsCons, gSb, oI, oI0, oAdd, oMulA, oSub, oFdiv, oMod, oPow, oLt, oLe, oGt, oGe, oEq, oNe, oIsN, oNotN, oIsB, oNotB, oIx, oSl, oLen, oSum, oAll, oAny, oAbs, o1I, o2I, oMin2, oMax2, oMin, oMax, oMinL, oMaxL, oInt, oBool, oList, oTuple, oSorted, oSortedT, oSortedD, dSortSet, dDNew, dDOne, oDGet, oDIn, oDSet, keyOD, oIn, oAddI, oGet, oSet, oAppend, oExtend, oPop, oPopAt, oIndexL, oIndexT, oInsert, oRemove, dTupX, dBMX, dLenSet, newL, startD, wipeD, D.tyN, List.map_cons, List.map_nil, List.cons_append, List.nil_append, List.length_cons, List.length_nil, List.getElem?_cons_zero, List.getElem?_cons_succ, List.set_cons_zero, List.set_cons_succ, List.replicate, Nat.sub_self, Nat.reduceSub, Nat.reduceAdd, Nat.zero_add, kb_ii, kb_ib, kb_it, kb_is, kb_bi, kb_bb, kb_bt, kb_bs, kb_tt, kb_ti, kb_ts, kb_ss, kb_si, kb_st, kb_nt, kb_ni, kb_ns, kb_lt, kb_li, kb_ls, ex_some, seq_tup, seq_tpx, itOf_tpx, seq_lst, seq_fz, list_lst, lsts_lst, lsts_fz, itOf_tup, itOf_lst, itOf_fz, now_int, now_bl, now_non, now_str, now_tup, now_lst, isNon_non, isNon_int, isNon_tup, isNon_ref, isNon_lst, isNon_str, isNon_bl]
  intro pf hpf
  refine ⟨Sto.up_same, small (by decide), fun pw hpw => ?_⟩
  have hwf : pw ≠ pf := fun z => by subst z; rw [Sto.up_same] at hpw; cases hpw
  have hpw0 : S0 pw = none := by
    rw [Sto.up_ne hwf, Sto.up_ne hwf] at hpw; exact hpw
  have huf : pu ≠ pf := ne_of_in hpu hpf
  have huw : pu ≠ pw := ne_of_in hpu hpw0
  rw [Sto.up_up]
  obtain ⟨Rn, hRn⟩ : ∃ Rn : Nat, R = (Rn : Nat) := ⟨R.toNat, by omega⟩
  subst hv1
  refine seqG fun v2 hv2 => ?_
  refine whileG fun τ hτ => ?_
  refine ⟨fun n ρ S => ∃ o5 o6 o7 o8 o9 P W E, ρ = [some gd, some (.ref pu), some (.int s), some (.ref pf), some (.ref pw), o5, o6, o7, o8, o9] ∧ S = (S0.up pf (.dK (encE E))).up pw (.lst (W.map D.int)) ∧ Tree G U s E ∧ rm E = P ++ W ∧ (∀ x ∈ P, Done G U (rm E) x G.length) ∧ n + P.length = Rn,
    ⟨Rn, none, none, none, none, none, [], [s], [(s, none)], rfl, rfl, .root, rfl, by simp, rfl⟩, ?_⟩
  rintro n ρ S ⟨o5, o6, o7, o8, o9, P, W, E, rfl, rfl, ht, hrm, hP, hn2⟩
  have hEl : E.length ≤ Rn := by
    have := nd_few Rn ht.nd fun x hx => by have := ht.rooms g hs x hx; omega
    unfold rm at this; rwa [List.length_map] at this
  have hPW : P.length + W.length = E.length := by
    have := congrArg List.length hrm
    unfold rm at this
    rw [List.length_map, List.length_append] at this
    omega
  have hSw : ((S0.up pf (.dK (encE E))).up pw (.lst (W.map D.int))) pw = some (.lst (W.map D.int)) := Sto.up_same
  simp only [dSeq, dNext, dRet, dRetN, dIfS, dAsg, dAsgG, dDrop, dPar2, dPar3, dAug, dAugS, dFor, dOp, dVar, dC, dTest, dChain, dAnd, dOr, dNot, dAndV, dOrV, dNotV, dIf, dTup, dLst, dNil, dCons, dStar, dCB, dCall, dFrz, dSl, dNoPart, dPart, dBM, dRev, dNeg, dIsi, dListRg, dTupRg, dRg1, dRg2, dLc, dIt, dEnum, dZip2, dZip3, dEnZ, dRng1, dRng2, dYes, gN, gT, gsNil, gsCons, gSb, oI, oI0, oAdd, oMulA, oSub, oFdiv, oMod, oPow, oLt, oLe, oGt, oGe, oEq, oNe, oIsN, oNotN, oIsB, oNotB, oIx, oSl, oLen, oSum, oAll, oAny, oAbs, o1I, o2I, oMin2, oMax2, oMin, oMax, oMinL, oMaxL, oInt, oBool, oList, oTuple, oSorted, oSortedT, oSortedD, dSortSet, dDNew, dDOne, oDGet, oDIn, oDSet, keyOD, oIn, oAddI, oGet, oSet, oAppend, oExtend, oPop, oPopAt, oIndexL, oIndexT, oInsert, oRemove, dTupX, dBMX, dLenSet, newL, startD, wipeD, D.tyN, List.map_cons, List.map_nil, List.cons_append, List.nil_append, List.length_cons, List.length_nil, List.getElem?_cons_zero, List.getElem?_cons_succ, List.set_cons_zero, List.set_cons_succ, List.replicate, Nat.sub_self, Nat.reduceSub, Nat.reduceAdd, Nat.zero_add, kb_ii, kb_ib, kb_it, kb_is, kb_bi, kb_bb, kb_bt, kb_bs, kb_tt, kb_ti, kb_ts, kb_ss, kb_si, kb_st, kb_nt, kb_ni, kb_ns, kb_lt, kb_li, kb_ls, ex_some, seq_tup, seq_tpx, itOf_tpx, seq_lst, seq_fz, list_lst, lsts_lst, lsts_fz, itOf_tup, itOf_lst, itOf_fz, now_int, now_bl, now_non, now_str, now_tup, now_lst, isNon_non, isNon_int, isNon_tup, isNon_ref, isNon_lst, isNon_str, isNon_bl, now_ref hSw]
  refine ⟨Nat.zero_le _, ⟨by rw [okn_lst]; exact okn_ints, rfl⟩, ?_⟩
  rw [eqD_nil]
  cases W with
  | nil =>
    simp only [List.map_nil, List.isEmpty_nil, Bool.not_true]
    show v2 _ _ _
    subst hv2
    simp only [dSeq, dNext, dRet, dRetN, dIfS, dAsg, dAsgG, dDrop, dPar2, dPar3, dAug, dAugS, dFor, dOp, dVar, dC, dTest, dChain, dAnd, dOr, dNot, dAndV, dOrV, dNotV, dIf, dTup, dLst, dNil, dCons, dStar, dCB, dCall, dFrz, dSl, dNoPart, dPart, dBM, dRev, dNeg, dIsi, dListRg, dTupRg, dRg1, dRg2, dLc, dIt, dEnum, dZip2, dZip3, dEnZ, dRng1, dRng2, dYes, gN, gT, gsNil, gsCons, gSb, oI, oI0, oAdd, oMulA, oSub, oFdiv, oMod, oPow, oLt, oLe, oGt, oGe, oEq, oNe, oIsN, oNotN, oIsB, oNotB, oIx, oSl, oLen, oSum, oAll, oAny, oAbs, o1I, o2I, oMin2, oMax2, oMin, oMax, oMinL, oMaxL, oInt, oBool, oList, oTuple, oSorted, oSortedT, oSortedD, dSortSet, dDNew, dDOne, oDGet, oDIn, oDSet, keyOD, oIn, oAddI, oGet, oSet, oAppend, oExtend, oPop, oPopAt, oIndexL, oIndexT, oInsert, oRemove, dTupX, dBMX, dLenSet, newL, startD, wipeD, D.tyN, List.map_cons, List.map_nil, List.cons_append, List.nil_append, List.length_cons, List.length_nil, List.getElem?_cons_zero, List.getElem?_cons_succ, List.set_cons_zero, List.set_cons_succ, List.replicate, Nat.sub_self, Nat.reduceSub, Nat.reduceAdd, Nat.zero_add, kb_ii, kb_ib, kb_it, kb_is, kb_bi, kb_bb, kb_bt, kb_bs, kb_tt, kb_ti, kb_ts, kb_ss, kb_si, kb_st, kb_nt, kb_ni, kb_ns, kb_lt, kb_li, kb_ls, ex_some, seq_tup, seq_tpx, itOf_tpx, seq_lst, seq_fz, list_lst, lsts_lst, lsts_fz, itOf_tup, itOf_lst, itOf_fz, now_int, now_bl, now_non, now_str, now_tup, now_lst, isNon_non, isNon_int, isNon_tup, isNon_ref, isNon_lst, isNon_str, isNon_bl]
    rw [List.append_nil] at hrm
    refine FzQ.ext (S := S0.up pf (.dK (encE E))) (fun a u h => ?_) (q E pf ⟨ht, by rw [hrm]; exact fun x hx => by have := hP x hx; rwa [hrm] at this⟩ hpf)
    rw [Sto.up_ne (fun z => by subst z; rw [Sto.up_ne hwf, hpw0] at h; cases h)]
    exact h
  | cons here W =>
    simp only [List.map_cons, List.isEmpty_cons, Bool.not_false]
    rw [List.map_cons] at hSw
    subst hτ
    refine seqG fun v3 hv3 => ?_
    simp only [dSeq, dNext, dRet, dRetN, dIfS, dAsg, dAsgG, dDrop, dPar2, dPar3, dAug, dAugS, dFor, dOp, dVar, dC, dTest, dChain, dAnd, dOr, dNot, dAndV, dOrV, dNotV, dIf, dTup, dLst, dNil, dCons, dStar, dCB, dCall, dFrz, dSl, dNoPart, dPart, dBM, dRev, dNeg, dIsi, dListRg, dTupRg, dRg1, dRg2, dLc, dIt, dEnum, dZip2, dZip3, dEnZ, dRng1, dRng2, dYes, gN, gT, gsNil, gsCons, gSb, oI, oI0, oAdd, oMulA, oSub, oFdiv, oMod, oPow, oLt, oLe, oGt, oGe, oEq, oNe, oIsN, oNotN, oIsB, oNotB, oIx, oSl, oLen, oSum, oAll, oAny, oAbs, o1I, o2I, oMin2, oMax2, oMin, oMax, oMinL, oMaxL, oInt, oBool, oList, oTuple, oSorted, oSortedT, oSortedD, dSortSet, dDNew, dDOne, oDGet, oDIn, oDSet, keyOD, oIn, oAddI, oGet, oSet, oAppend, oExtend, oPop, oPopAt, oIndexL, oIndexT, oInsert, oRemove, dTupX, dBMX, dLenSet, newL, startD, wipeD, D.tyN, List.map_cons, List.map_nil, List.cons_append, List.nil_append, List.length_cons, List.length_nil, List.getElem?_cons_zero, List.getElem?_cons_succ, List.set_cons_zero, List.set_cons_succ, List.replicate, Nat.sub_self, Nat.reduceSub, Nat.reduceAdd, Nat.zero_add, kb_ii, kb_ib, kb_it, kb_is, kb_bi, kb_bb, kb_bt, kb_bs, kb_tt, kb_ti, kb_ts, kb_ss, kb_si, kb_st, kb_nt, kb_ni, kb_ns, kb_lt, kb_li, kb_ls, ex_some, seq_tup, seq_tpx, itOf_tpx, seq_lst, seq_fz, list_lst, lsts_lst, lsts_fz, itOf_tup, itOf_lst, itOf_fz, now_int, now_bl, now_non, now_str, now_tup, now_lst, isNon_non, isNon_int, isNon_tup, isNon_ref, isNon_lst, isNon_str, isNon_bl, trk_ref hSw, list_ref hSw]
    refine ⟨⟨_, rfl⟩, small (by simp; rw [List.length_cons] at hPW; omega), 0, .int here, by rw [ixN_nn (by decide) (by simp)]; rfl, rfl, ?_⟩
    rw [Sto.up_up]
    show v3 _ _ ((S0.up pf (.dK (encE E))).up pw (.lst (W.map D.int)))
    rw [List.length_cons] at hPW
    subst hv3
    refine forG fun τ2 hτ2 => ?_
    simp only [dSeq, dNext, dRet, dRetN, dIfS, dAsg, dAsgG, dDrop, dPar2, dPar3, dAug, dAugS, dFor, dOp, dVar, dC, dTest, dChain, dAnd, dOr, dNot, dAndV, dOrV, dNotV, dIf, dTup, dLst, dNil, dCons, dStar, dCB, dCall, dFrz, dSl, dNoPart, dPart, dBM, dRev, dNeg, dIsi, dListRg, dTupRg, dRg1, dRg2, dLc, dIt, dEnum, dZip2, dZip3, dEnZ, dRng1, dRng2, dYes, gN, gT, gsNil, gsCons, gSb, oI, oI0, oAdd, oMulA, oSub, oFdiv, oMod, oPow, oLt, oLe, oGt, oGe, oEq, oNe, oIsN, oNotN, oIsB, oNotB, oIx, oSl, oLen, oSum, oAll, oAny, oAbs, o1I, o2I, oMin2, oMax2, oMin, oMax, oMinL, oMaxL, oInt, oBool, oList, oTuple, oSorted, oSortedT, oSortedD, dSortSet, dDNew, dDOne, oDGet, oDIn, oDSet, keyOD, oIn, oAddI, oGet, oSet, oAppend, oExtend, oPop, oPopAt, oIndexL, oIndexT, oInsert, oRemove, dTupX, dBMX, dLenSet, newL, startD, wipeD, D.tyN, List.map_cons, List.map_nil, List.cons_append, List.nil_append, List.length_cons, List.length_nil, List.getElem?_cons_zero, List.getElem?_cons_succ, List.set_cons_zero, List.set_cons_succ, List.replicate, Nat.sub_self, Nat.reduceSub, Nat.reduceAdd, Nat.zero_add, kb_ii, kb_ib, kb_it, kb_is, kb_bi, kb_bb, kb_bt, kb_bs, kb_tt, kb_ti, kb_ts, kb_ss, kb_si, kb_st, kb_nt, kb_ni, kb_ns, kb_lt, kb_li, kb_ls, ex_some, seq_tup, seq_tpx, itOf_tpx, seq_lst, seq_fz, list_lst, lsts_lst, lsts_fz, itOf_tup, itOf_lst, itOf_fz, now_int, now_bl, now_non, now_str, now_tup, now_lst, isNon_non, isNon_int, isNon_tup, isNon_ref, isNon_lst, isNon_str, isNon_bl, hit]
    refine ⟨trivial, ?_⟩
    rw [enum_map]
    refine loopD_invE (α := Gate × Nat) (fun z => D.tup [.int ((z.2 : Nat) : Int), eG z.1]) (fun xs ρ S' => ∃ o6 o7 o8 o9 W' E' k, ρ = [some gd, some (.ref pu), some (.int s), some (.ref pf), some (.ref pw), some (.int here), o6, o7, o8, o9] ∧ xs = (G.zipIdx 0).drop k ∧ k ≤ G.length ∧ S' = (S0.up pf (.dK (encE E'))).up pw (.lst (W'.map D.int)) ∧ Tree G U s E' ∧ rm E' = P ++ here :: W' ∧ (∀ x ∈ P, Done G U (rm E') x G.length) ∧ Done G U (rm E') here k) ?_ ?_ _ _ _
      ⟨o6, o7, o8, o9, W, E, 0, rfl, rfl, Nat.zero_le _, rfl, ht, hrm, hP, fun i hi => absurd hi (by omega)⟩ trivial
    · rintro a xs ρ S' ⟨o6, o7, o8, o9, W', E', k, rfl, hx, hk, rfl, ht', hrm', hP', hd'⟩ _ M hM
      obtain ⟨hi, ea, er⟩ := drop_at hx
      rw [List.length_zipIdx] at hi
      have eak : a = (gt G k, k) := by
        rw [ea, List.getElem_zipIdx]
        unfold gt
        rw [List.getD_eq_getElem?_getD, List.getElem?_eq_getElem hi]; simp
      subst eak
      have hgk := gt_mem hi
      have gr := g.r _ hgk
      generalize hgg : gt G k = gk at gr hgk ⊢
      have hUk : k < U.length := by omega
      subst hτ2
      simp only [gN, gT, gsCons, gsNil, List.set_cons_zero, List.set_cons_succ, eG]
      refine ⟨rfl, rfl, ?_⟩
      refine seqG fun v4 hv4 => ?_
      have szE : ∀ E1 : List Ent, Tree G U s E1 → (encE E1).length < sizeLine := fun E1 t1 => by
        have := nd_few Rn t1.nd fun x hx => by have := t1.rooms g hs x hx; omega
        unfold rm at this
        rw [List.length_map] at this
        unfold encE
        rw [List.length_map, sizeLine_eq]; omega
      have szW : ∀ (E1 : List Ent) (W1 : List Int), Tree G U s E1 → rm E1 = P ++ here :: W1 → (W1.map D.int).length < sizeLine := fun E1 W1 t1 e1 => by
        have := nd_few Rn t1.nd fun x hx => by have := t1.rooms g hs x hx; omega
        rw [e1, List.length_append, List.length_cons] at this
        rw [List.length_map, sizeLine_eq]; omega
      have facts : ∀ (E1 : List Ent) (W1 : List Int), ((S0.up pf (.dK (encE E1))).up pw (.lst (W1.map D.int))) pf = some (.dK (encE E1)) ∧ ((S0.up pf (.dK (encE E1))).up pw (.lst (W1.map D.int))) pw = some (.lst (W1.map D.int)) ∧ ((S0.up pf (.dK (encE E1))).up pw (.lst (W1.map D.int))) pu = some (.lst (U.map D.int)) := fun E1 W1 =>
        ⟨by rw [Sto.up_ne (Ne.symm hwf)]; exact Sto.up_same, Sto.up_same, by rw [Sto.up_ne huw, Sto.up_ne huf]; exact hpu⟩
      have key : ∀ (De : EndsD), De.nx = M → ∀ (E1 : List Ent) (W1 : List Int), Tree G U s E1 → rm E1 = P ++ here :: W1 → (∀ z ∈ rm E', z ∈ rm E1) → (gk.a = here → at0 U k < gk.c → gk.b ∈ rm E1) →
          v4 De [some gd, some (.ref pu), some (.int s), some (.ref pf), some (.ref pw), some (.int here), some (.int (k : Nat)), some (.int gk.a), some (.int gk.b), some (.int gk.c)] ((S0.up pf (.dK (encE E1))).up pw (.lst (W1.map D.int))) := by
        intro De hDe E1 W1 ht1 hrm1 hsub hfst
        obtain ⟨f1, f2, f3⟩ := facts E1 W1
        have fin : ∀ (E2 : List Ent) (W2 : List Int), Tree G U s E2 → rm E2 = P ++ here :: W2 → (∀ z ∈ rm E1, z ∈ rm E2) → (gk.b = here → 0 < at0 U k → gk.a ∈ rm E2) →
            M [some gd, some (.ref pu), some (.int s), some (.ref pf), some (.ref pw), some (.int here), some (.int (k : Nat)), some (.int gk.a), some (.int gk.b), some (.int gk.c)] ((S0.up pf (.dK (encE E2))).up pw (.lst (W2.map D.int))) := fun E2 W2 ht2 hrm2 hsub2 hsnd =>
          hM _ _ trivial ⟨_, _, _, _, W2, E2, k + 1, rfl, er, hi, rfl, ht2, hrm2, fun x hx => (hP' x hx).up fun z hz => hsub2 z (hsub z hz), fun i hik => by
            by_cases e : i = k
            · subst e
              rw [hgg]
              exact ⟨fun h1 h2 => hsub2 _ (hfst h1 h2), hsnd⟩
            · exact (hd'.up fun z hz => hsub2 z (hsub z hz)) i (by omega)⟩
        subst hv4
        simp only [dSeq, dNext, dRet, dRetN, dIfS, dAsg, dAsgG, dDrop, dPar2, dPar3, dAug, dAugS, dFor, dOp, dVar, dC, dTest, dChain, dAnd, dOr, dNot, dAndV, dOrV, dNotV, dIf, dTup, dLst, dNil, dCons, dStar, dCB, dCall, dFrz, dSl, dNoPart, dPart, dBM, dRev, dNeg, dIsi, dListRg, dTupRg, dRg1, dRg2, dLc, dIt, dEnum, dZip2, dZip3, dEnZ, dRng1, dRng2, dYes, gN, gT, gsNil, gsCons, gSb, oI, oI0, oAdd, oMulA, oSub, oFdiv, oMod, oPow, oLt, oLe, oGt, oGe, oEq, oNe, oIsN, oNotN, oIsB, oNotB, oIx, oSl, oLen, oSum, oAll, oAny, oAbs, o1I, o2I, oMin2, oMax2, oMin, oMax, oMinL, oMaxL, oInt, oBool, oList, oTuple, oSorted, oSortedT, oSortedD, dSortSet, dDNew, dDOne, oDGet, oDIn, oDSet, keyOD, oIn, oAddI, oGet, oSet, oAppend, oExtend, oPop, oPopAt, oIndexL, oIndexT, oInsert, oRemove, dTupX, dBMX, dLenSet, newL, startD, wipeD, D.tyN, List.map_cons, List.map_nil, List.cons_append, List.nil_append, List.length_cons, List.length_nil, List.getElem?_cons_zero, List.getElem?_cons_succ, List.set_cons_zero, List.set_cons_succ, List.replicate, Nat.sub_self, Nat.reduceSub, Nat.reduceAdd, Nat.zero_add, kb_ii, kb_ib, kb_it, kb_is, kb_bi, kb_bb, kb_bt, kb_bs, kb_tt, kb_ti, kb_ts, kb_ss, kb_si, kb_st, kb_nt, kb_ni, kb_ns, kb_lt, kb_li, kb_ls, ex_some, seq_tup, seq_tpx, itOf_tpx, seq_lst, seq_fz, list_lst, lsts_lst, lsts_fz, itOf_tup, itOf_lst, itOf_fz, now_int, now_bl, now_non, now_str, now_tup, now_lst, isNon_non, isNon_int, isNon_tup, isNon_ref, isNon_lst, isNon_str, isNon_bl, dk_ref f1, seq_ref f3, ix_at0 hUk, trk_ref f2, list_ref f2, val_isSome]
        refine ⟨⟨okn_int, okn_int⟩, ?_⟩
        rw [eqD_int, hDe]
        by_cases c1 : gk.b = here
        · rw [decide_eq_true c1]
          simp only [if_true]
          by_cases c2 : gk.a ∈ rm E1
          · rw [decide_eq_true c2]
            exact fin E1 W1 ht1 hrm1 (fun _ h => h) fun _ _ => c2
          · rw [decide_eq_false c2]
            simp only [Bool.not_false]
            by_cases c3 : 0 < at0 U k
            · rw [decide_eq_true c3]
              simp only []
              rw [put_enc c2, up_swap hwf]
              obtain ⟨f4, f5, f6⟩ := facts (E1 ++ [(gk.a, some (k, -1))]) W1
              simp only [trk_ref f5, list_ref f5]
              have ht2 : Tree G U s (E1 ++ [(gk.a, some (k, -1))]) := .grow ht1 c2 ⟨hi, .inr ⟨rfl, by rw [hgg], by rw [hgg, c1, hrm1]; simp, c3⟩⟩
              have hrm2 : rm (E1 ++ [(gk.a, some (k, -1))]) = P ++ here :: (W1 ++ [gk.a]) := by rw [rm_app, hrm1, List.append_assoc]; rfl
              refine ⟨small (by decide), szE E1 ht1, ⟨_, rfl⟩, szW E1 W1 ht1 hrm1, ?_⟩
              have := fin _ (W1 ++ [gk.a]) ht2 hrm2 (fun z hz => by rw [rm_app]; exact List.mem_append_left _ hz) fun _ _ => by rw [rm_app]; simp [rm]
              rw [List.map_append] at this
              rw [Sto.up_up]
              exact this
            · rw [decide_eq_false c3]
              exact fin E1 W1 ht1 hrm1 (fun _ h => h) fun _ h => absurd h c3
        · rw [decide_eq_false c1]
          exact fin E1 W1 ht1 hrm1 (fun _ h => h) fun h _ => absurd h c1
      obtain ⟨f1, f2, f3⟩ := facts E' W'
      simp only [dSeq, dNext, dRet, dRetN, dIfS, dAsg, dAsgG, dDrop, dPar2, dPar3, dAug, dAugS, dFor, dOp, dVar, dC, dTest, dChain, dAnd, dOr, dNot, dAndV, dOrV, dNotV, dIf, dTup, dLst, dNil, dCons, dStar, dCB, dCall, dFrz, dSl, dNoPart, dPart, dBM, dRev, dNeg, dIsi, dListRg, dTupRg, dRg1, dRg2, dLc, dIt, dEnum, dZip2, dZip3, dEnZ, dRng1, dRng2, dYes, gN, gT, gsNil, gsCons, gSb, oI, oI0, oAdd, oMulA, oSub, oFdiv, oMod, oPow, oLt, oLe, oGt, oGe, oEq, oNe, oIsN, oNotN, oIsB, oNotB, oIx, oSl, oLen, oSum, oAll, oAny, oAbs, o1I, o2I, oMin2, oMax2, oMin, oMax, oMinL, oMaxL, oInt, oBool, oList, oTuple, oSorted, oSortedT, oSortedD, dSortSet, dDNew, dDOne, oDGet, oDIn, oDSet, keyOD, oIn, oAddI, oGet, oSet, oAppend, oExtend, oPop, oPopAt, oIndexL, oIndexT, oInsert, oRemove, dTupX, dBMX, dLenSet, newL, startD, wipeD, D.tyN, List.map_cons, List.map_nil, List.cons_append, List.nil_append, List.length_cons, List.length_nil, List.getElem?_cons_zero, List.getElem?_cons_succ, List.set_cons_zero, List.set_cons_succ, List.replicate, Nat.sub_self, Nat.reduceSub, Nat.reduceAdd, Nat.zero_add, kb_ii, kb_ib, kb_it, kb_is, kb_bi, kb_bb, kb_bt, kb_bs, kb_tt, kb_ti, kb_ts, kb_ss, kb_si, kb_st, kb_nt, kb_ni, kb_ns, kb_lt, kb_li, kb_ls, ex_some, seq_tup, seq_tpx, itOf_tpx, seq_lst, seq_fz, list_lst, lsts_lst, lsts_fz, itOf_tup, itOf_lst, itOf_fz, now_int, now_bl, now_non, now_str, now_tup, now_lst, isNon_non, isNon_int, isNon_tup, isNon_ref, isNon_lst, isNon_str, isNon_bl, dk_ref f1, seq_ref f3, ix_at0 hUk, trk_ref f2, list_ref f2, val_isSome]
      refine ⟨⟨okn_int, okn_int⟩, ?_⟩
      rw [eqD_int]
      by_cases c1 : gk.a = here
      · rw [decide_eq_true c1]
        simp only [if_true]
        by_cases c2 : gk.b ∈ rm E'
        · rw [decide_eq_true c2]
          exact key _ rfl E' W' ht' hrm' (fun _ h => h) fun _ _ => c2
        · rw [decide_eq_false c2]
          simp only [Bool.not_false]
          by_cases c3 : at0 U k < gk.c
          · rw [decide_eq_true c3]
            simp only []
            rw [put_enc c2, up_swap hwf]
            obtain ⟨f4, f5, f6⟩ := facts (E' ++ [(gk.b, some (k, 1))]) W'
            simp only [trk_ref f5, list_ref f5]
            have ht2 : Tree G U s (E' ++ [(gk.b, some (k, 1))]) := .grow ht' c2 ⟨hi, .inl ⟨rfl, by rw [hgg], by rw [hgg, c1, hrm']; simp, by rw [hgg]; exact c3⟩⟩
            have hrm2 : rm (E' ++ [(gk.b, some (k, 1))]) = P ++ here :: (W' ++ [gk.b]) := by rw [rm_app, hrm', List.append_assoc]; rfl
            refine ⟨small (by decide), szE E' ht', ⟨_, rfl⟩, szW E' W' ht' hrm', ?_⟩
            rw [Sto.up_up, show W'.map D.int ++ [D.int gk.b] = (W' ++ [gk.b]).map D.int by rw [List.map_append]; rfl]
            exact key _ rfl _ (W' ++ [gk.b]) ht2 hrm2 (fun z hz => by rw [rm_app]; exact List.mem_append_left _ hz) fun _ _ => by rw [rm_app]; simp [rm]
          · rw [decide_eq_false c3]
            exact key _ rfl E' W' ht' hrm' (fun _ h => h) fun _ h => absurd h c3
      · rw [decide_eq_false c1]
        exact key _ rfl E' W' ht' hrm' (fun _ h => h) fun h _ => absurd h c1
    · rintro ρ S' ⟨o6, o7, o8, o9, W', E', k, rfl, hx, hk, rfl, ht', hrm', hP', hd'⟩
      have hk2 : k = G.length := by
        have := congrArg List.length hx
        rw [List.length_drop, List.length_zipIdx, List.length_nil] at this
        omega
      subst hk2
      have hEl' : E'.length ≤ Rn := by
        have := nd_few Rn ht'.nd fun x hx => by have := ht'.rooms g hs x hx; omega
        unfold rm at this; rwa [List.length_map] at this
      have hlen : P.length + (W'.length + 1) = E'.length := by
        have := congrArg List.length hrm'
        unfold rm at this
        rw [List.length_map, List.length_append, List.length_cons] at this
        omega
      refine ⟨n - 1, by omega, _, _, _, _, _, P ++ [here], W', E', rfl, rfl, ht', by rw [hrm', List.append_assoc]; rfl, fun x hx => ?_, by rw [List.length_append]; simp; omega⟩
      rcases List.mem_append.mp hx with hx | hx
      · exact hP' x hx
      · rw [List.mem_singleton.mp hx]; exact hd'
end L47
namespace L47
open PySem PySem.Spec PySem.W PyProof.Rows L2 PL
/-! ### sums by places -/
def sI : Nat → (Nat → Int) → Int
  | 0, _ => 0
  | n + 1, f => sI n f + f n
theorem sI_congr {f h : Nat → Int} : ∀ {n : Nat}, (∀ i, i < n → f i = h i) → sI n f = sI n h
  | 0, _ => rfl
  | n + 1, e => by rw [sI, sI, sI_congr fun i hi => e i (by omega), e n (by omega)]
theorem sI_add (f h : Nat → Int) : ∀ n, sI n (fun i => f i + h i) = sI n f + sI n h
  | 0 => rfl
  | n + 1 => by rw [sI, sI, sI, sI_add f h n]; omega
theorem sI_sub (f h : Nat → Int) : ∀ n, sI n (fun i => f i - h i) = sI n f - sI n h
  | 0 => rfl
  | n + 1 => by rw [sI, sI, sI, sI_sub f h n]; omega
theorem sI_mul (c : Int) (f : Nat → Int) : ∀ n, sI n (fun i => c * f i) = c * sI n f
  | 0 => by simp [sI]
  | n + 1 => by rw [sI, sI, sI_mul c f n, Int.mul_add]
theorem sI_le {f h : Nat → Int} : ∀ {n : Nat}, (∀ i, i < n → f i ≤ h i) → sI n f ≤ sI n h
  | 0, _ => Int.le_refl _
  | n + 1, e => by
    have := sI_le (n := n) fun i hi => e i (by omega)
    have := e n (by omega)
    rw [sI, sI]; omega
theorem sI_nil : ∀ {n : Nat}, sI n (fun _ => 0) = 0
  | 0 => rfl
  | n + 1 => by rw [sI, sI_nil]; rfl
theorem sI_nn {f : Nat → Int} {n : Nat} (h : ∀ i, i < n → 0 ≤ f i) : 0 ≤ sI n f := by
  have := sI_le (f := fun _ => 0) (h := f) h
  rw [sI_nil] at this; exact this
theorem sI_zero {f : Nat → Int} : ∀ {n : Nat}, (∀ i, i < n → 0 ≤ f i) → sI n f ≤ 0 → ∀ i, i < n → f i = 0
  | 0, _, _, i, hi => absurd hi (by omega)
  | n + 1, h, e, i, hi => by
    have h1 := sI_nn (n := n) fun i hi => h i (by omega)
    have h2 := h n (by omega)
    rw [sI] at e
    by_cases q : i = n
    · rw [q]; omega
    · exact sI_zero (n := n) (fun i hi => h i (by omega)) (by omega) i (by omega)
theorem sI_upd {f h : Nat → Int} {k : Nat} : ∀ {n : Nat}, k < n → (∀ i, i < n → i ≠ k → f i = h i) → sI n f = sI n h + (f k - h k)
  | 0, hk, _ => absurd hk (by omega)
  | n + 1, hk, e => by
    rw [sI, sI]
    by_cases q : k = n
    · subst q
      rw [sI_congr fun i hi => e i (by omega) (by omega)]; omega
    · rw [sI_upd (n := n) (by omega) fun i hi hne => e i (by omega) hne, e n (by omega) (Ne.symm q)]; omega
theorem sum_range (p : Nat → Bool) (f : Nat → Int) : ∀ n : Nat, (((List.range n).filter p).map f).sum = sI n fun i => if p i then f i else 0
  | 0 => rfl
  | n + 1 => by
    rw [List.range_succ, List.filter_append, List.map_append, List.sum_append, sum_range p f n, sI]
    congr 1
    cases h : p n with
    | true => rw [List.filter_cons_of_pos (by rw [h]), List.filter_nil]; simp
    | false => rw [List.filter_cons_of_neg (by rw [h]; exact Bool.false_ne_true), List.filter_nil]; simp
/-! ### what goes out of a room, cuts -/
def out (G : List Gate) (U : List Int) (r : Int) : Int := (sI G.length fun i => if (gt G i).a = r then at0 U i else 0) - sI G.length fun i => if (gt G i).b = r then at0 U i else 0
def cap (G : List Gate) (S : Int → Bool) : Int := sI G.length fun i => if S (gt G i).a && !S (gt G i).b then (gt G i).c else 0
theorem zip_range {G : List Gate} {U : List Int} (h : U.length = G.length) : List.zip G U = (List.range G.length).map fun i => (gt G i, at0 U i) := by
  apply List.ext_getElem?
  intro i
  rw [List.getElem?_map]
  by_cases hi : i < G.length
  · rw [List.getElem?_range hi]
    show _ = some (gt G i, at0 U i)
    rw [List.getElem?_zip_eq_some]
    unfold gt at0
    rw [List.getD_eq_getElem?_getD, List.getD_eq_getElem?_getD, List.getElem?_eq_getElem hi, List.getElem?_eq_getElem (show i < U.length by omega)]
    exact ⟨rfl, rfl⟩
  · rw [List.getElem?_eq_none (by rw [List.length_zip]; omega), List.getElem?_eq_none (by rw [List.length_range]; omega)]; rfl
theorem all_range (G : List Gate) : G = (List.range G.length).map (gt G) := by
  apply List.ext_getElem?
  intro i
  rw [List.getElem?_map]
  by_cases hi : i < G.length
  · rw [List.getElem?_range hi, List.getElem?_eq_getElem hi]
    unfold gt
    rw [Option.map_some, List.getD_eq_getElem?_getD, List.getElem?_eq_getElem hi]; rfl
  · rw [List.getElem?_eq_none (by omega), List.getElem?_eq_none (by rw [List.length_range]; omega)]; rfl
def sp_told_out : DSp := fun ds S Q => ∃ (G : List Gate) (ud : D) (U : List Int) (r : Int), ds = [.tup (G.map eG), ud, .int r] ∧ (ud = .tup (U.map D.int) ∨ ∃ pu, ud = .ref pu ∧ S pu = some (.lst (U.map D.int))) ∧ U.length = G.length ∧ G.length ≤ 1000 ∧ Q (.int (out G U r)) S
theorem pure_told_out : ∀ ds S Q, sp_told_out ds S Q → t_told_out (DeN Q) (startD N_told_out ds) S := by
  rintro ds S Q ⟨G, ud, U, r, rfl, hud, hU, hn, q⟩
  obtain ⟨okU, hok, hit⟩ : ∃ okU : Sto → Prop, (∀ S', Ext S S' → okU S') ∧ S.itOf ud = some ⟨U.map D.int, okU⟩ := by
    rcases hud with rfl | ⟨pu, rfl, hpu⟩
    · exact ⟨fun _ => True, fun _ _ => trivial, rfl⟩
    · exact ⟨_, fun S' e => e _ _ hpu, itOf_ref hpu⟩
  unfold t_told_out
  refine seqG fun v1 hv1 => ?_
  simp only [dSeq, dNext, dRet, dRetN, dIfS, dAsg, dAsgG, dDrop, dPar2, dPar3, dAug, dAugS, dFor, dOp, dVar, dC, dTest, dChain, dAnd, dOr, dNot, dAndV, dOrV, dNotV, dIf, dTup, dLst, dNil, dCons, dStar, dCB, dCall, dFrz, dSl, dNoPart, dPart, dBM, dRev, dNeg, dIsi, dListRg, dTupRg, dRg1, dRg2, dLc, dIt, dEnum, dZip2, dZip3, dEnZ, dRng1, dRng2, dYes, gN, gT, gsNil, gsCons, gSb, oI, oI0, oAdd, oMulA, oSub, oFdiv, oMod, oPow, oLt, oLe, oGt, oGe, oEq, oNe, oIsN, oNotN, oIsB, oNotB, oIx, oSl, oLen, oSum, oAll, oAny, oAbs, o1I, o2I, oMin2, oMax2, oMin, oMax, oMinL, oMaxL, oInt, oBool, oList, oTuple, oSorted, oSortedT, oSortedD, dSortSet, dDNew, dDOne, oDGet, oDIn, oDSet, keyOD, oIn, oAddI, oGet, oSet, oAppend, oExtend, oPop, oPopAt, oIndexL, oIndexT, oInsert, oRemove, dTupX, dBMX, dLenSet, newL, startD, wipeD, D.tyN, List.map_cons, List.map_nil, List.cons_append, List.nil_append, List.length_cons, List.length_nil, List.getElem?_cons_zero, List.getElem?_cons_succ, List.set_cons_zero, List.set_cons_succ, List.replicate, Nat.sub_self, Nat.reduceSub, Nat.reduceAdd, Nat.zero_add, kb_ii, kb_ib, kb_it, kb_is, kb_bi, kb_bb, kb_bt, kb_bs, kb_tt, kb_ti, kb_ts, kb_ss, kb_si, kb_st, kb_nt, kb_ni, kb_ns, kb_lt, kb_li, kb_ls, ex_some, seq_tup, seq_tpx, itOf_tpx, seq_lst, seq_fz, list_lst, lsts_lst, lsts_fz, itOf_tup, itOf_lst, itOf_fz, now_int, now_bl, now_non, now_str, now_tup, now_lst, isNon_non, isNon_int, isNon_tup, isNon_ref, isNon_lst, isNon_str, isNon_bl, hit]
  rw [zip_map2 eG D.int, zip_range hU, List.map_map]
  refine lc_mapK (ok := fun S' => True ∧ okU S') (List.range G.length) _ (fun i => decide ((gt G i).a = r)) (fun i => .int (at0 U i)) (fun S' e => ⟨trivial, hok S' e⟩) (small (by rw [List.length_range]; omega)) (fun i hi S' e N M g1 g2 => ?_) ?_
  · simp only [Function.comp, dSeq, dNext, dRet, dRetN, dIfS, dAsg, dAsgG, dDrop, dPar2, dPar3, dAug, dAugS, dFor, dOp, dVar, dC, dTest, dChain, dAnd, dOr, dNot, dAndV, dOrV, dNotV, dIf, dTup, dLst, dNil, dCons, dStar, dCB, dCall, dFrz, dSl, dNoPart, dPart, dBM, dRev, dNeg, dIsi, dListRg, dTupRg, dRg1, dRg2, dLc, dIt, dEnum, dZip2, dZip3, dEnZ, dRng1, dRng2, dYes, gN, gT, gsNil, gsCons, gSb, oI, oI0, oAdd, oMulA, oSub, oFdiv, oMod, oPow, oLt, oLe, oGt, oGe, oEq, oNe, oIsN, oNotN, oIsB, oNotB, oIx, oSl, oLen, oSum, oAll, oAny, oAbs, o1I, o2I, oMin2, oMax2, oMin, oMax, oMinL, oMaxL, oInt, oBool, oList, oTuple, oSorted, oSortedT, oSortedD, dSortSet, dDNew, dDOne, oDGet, oDIn, oDSet, keyOD, oIn, oAddI, oGet, oSet, oAppend, oExtend, oPop, oPopAt, oIndexL, oIndexT, oInsert, oRemove, dTupX, dBMX, dLenSet, newL, startD, wipeD, D.tyN, List.map_cons, List.map_nil, List.cons_append, List.nil_append, List.length_cons, List.length_nil, List.getElem?_cons_zero, List.getElem?_cons_succ, List.set_cons_zero, List.set_cons_succ, List.replicate, Nat.sub_self, Nat.reduceSub, Nat.reduceAdd, Nat.zero_add, kb_ii, kb_ib, kb_it, kb_is, kb_bi, kb_bb, kb_bt, kb_bs, kb_tt, kb_ti, kb_ts, kb_ss, kb_si, kb_st, kb_nt, kb_ni, kb_ns, kb_lt, kb_li, kb_ls, ex_some, seq_tup, seq_tpx, itOf_tpx, seq_lst, seq_fz, list_lst, lsts_lst, lsts_fz, itOf_tup, itOf_lst, itOf_fz, now_int, now_bl, now_non, now_str, now_tup, now_lst, isNon_non, isNon_int, isNon_tup, isNon_ref, isNon_lst, isNon_str, isNon_bl, eG]
    refine ⟨trivial, trivial, ⟨okn_int, okn_int⟩, ?_⟩
    rw [eqD_int]
    by_cases h : (gt G i).a = r
    · rw [decide_eq_true h] at *; exact g1 rfl
    · rw [decide_eq_false h] at *; exact g2 rfl
  simp only [dSeq, dNext, dRet, dRetN, dIfS, dAsg, dAsgG, dDrop, dPar2, dPar3, dAug, dAugS, dFor, dOp, dVar, dC, dTest, dChain, dAnd, dOr, dNot, dAndV, dOrV, dNotV, dIf, dTup, dLst, dNil, dCons, dStar, dCB, dCall, dFrz, dSl, dNoPart, dPart, dBM, dRev, dNeg, dIsi, dListRg, dTupRg, dRg1, dRg2, dLc, dIt, dEnum, dZip2, dZip3, dEnZ, dRng1, dRng2, dYes, gN, gT, gsNil, gsCons, gSb, oI, oI0, oAdd, oMulA, oSub, oFdiv, oMod, oPow, oLt, oLe, oGt, oGe, oEq, oNe, oIsN, oNotN, oIsB, oNotB, oIx, oSl, oLen, oSum, oAll, oAny, oAbs, o1I, o2I, oMin2, oMax2, oMin, oMax, oMinL, oMaxL, oInt, oBool, oList, oTuple, oSorted, oSortedT, oSortedD, dSortSet, dDNew, dDOne, oDGet, oDIn, oDSet, keyOD, oIn, oAddI, oGet, oSet, oAppend, oExtend, oPop, oPopAt, oIndexL, oIndexT, oInsert, oRemove, dTupX, dBMX, dLenSet, newL, startD, wipeD, D.tyN, List.map_cons, List.map_nil, List.cons_append, List.nil_append, List.length_cons, List.length_nil, List.getElem?_cons_zero, List.getElem?_cons_succ, List.set_cons_zero, List.set_cons_succ, List.replicate, Nat.sub_self, Nat.reduceSub, Nat.reduceAdd, Nat.zero_add, kb_ii, kb_ib, kb_it, kb_is, kb_bi, kb_bb, kb_bt, kb_bs, kb_tt, kb_ti, kb_ts, kb_ss, kb_si, kb_st, kb_nt, kb_ni, kb_ns, kb_lt, kb_li, kb_ls, ex_some, seq_tup, seq_tpx, itOf_tpx, seq_lst, seq_fz, list_lst, lsts_lst, lsts_fz, itOf_tup, itOf_lst, itOf_fz, now_int, now_bl, now_non, now_str, now_tup, now_lst, isNon_non, isNon_int, isNon_tup, isNon_ref, isNon_lst, isNon_str, isNon_bl]
  refine ⟨((List.range G.length).filter fun i => decide ((gt G i).a = r)).map (at0 U), by rw [List.map_map]; rfl, ?_⟩
  subst hv1
  simp only [dSeq, dNext, dRet, dRetN, dIfS, dAsg, dAsgG, dDrop, dPar2, dPar3, dAug, dAugS, dFor, dOp, dVar, dC, dTest, dChain, dAnd, dOr, dNot, dAndV, dOrV, dNotV, dIf, dTup, dLst, dNil, dCons, dStar, dCB, dCall, dFrz, dSl, dNoPart, dPart, dBM, dRev, dNeg, dIsi, dListRg, dTupRg, dRg1, dRg2, dLc, dIt, dEnum, dZip2, dZip3, dEnZ, dRng1, dRng2, dYes, gN, gT, gsNil, gsCons, gSb, oI, oI0, oAdd, oMulA, oSub, oFdiv, oMod, oPow, oLt, oLe, oGt, oGe, oEq, oNe, oIsN, oNotN, oIsB, oNotB, oIx, oSl, oLen, oSum, oAll, oAny, oAbs, o1I, o2I, oMin2, oMax2, oMin, oMax, oMinL, oMaxL, oInt, oBool, oList, oTuple, oSorted, oSortedT, oSortedD, dSortSet, dDNew, dDOne, oDGet, oDIn, oDSet, keyOD, oIn, oAddI, oGet, oSet, oAppend, oExtend, oPop, oPopAt, oIndexL, oIndexT, oInsert, oRemove, dTupX, dBMX, dLenSet, newL, startD, wipeD, D.tyN, List.map_cons, List.map_nil, List.cons_append, List.nil_append, List.length_cons, List.length_nil, List.getElem?_cons_zero, List.getElem?_cons_succ, List.set_cons_zero, List.set_cons_succ, List.replicate, Nat.sub_self, Nat.reduceSub, Nat.reduceAdd, Nat.zero_add, kb_ii, kb_ib, kb_it, kb_is, kb_bi, kb_bb, kb_bt, kb_bs, kb_tt, kb_ti, kb_ts, kb_ss, kb_si, kb_st, kb_nt, kb_ni, kb_ns, kb_lt, kb_li, kb_ls, ex_some, seq_tup, seq_tpx, itOf_tpx, seq_lst, seq_fz, list_lst, lsts_lst, lsts_fz, itOf_tup, itOf_lst, itOf_fz, now_int, now_bl, now_non, now_str, now_tup, now_lst, isNon_non, isNon_int, isNon_tup, isNon_ref, isNon_lst, isNon_str, isNon_bl, hit]
  rw [zip_map2 eG D.int, zip_range hU, List.map_map]
  refine lc_mapK (ok := fun S' => True ∧ okU S') (List.range G.length) _ (fun i => decide ((gt G i).b = r)) (fun i => .int (at0 U i)) (fun S' e => ⟨trivial, hok S' e⟩) (small (by rw [List.length_range]; omega)) (fun i hi S' e N M g1 g2 => ?_) ?_
  · simp only [Function.comp, dSeq, dNext, dRet, dRetN, dIfS, dAsg, dAsgG, dDrop, dPar2, dPar3, dAug, dAugS, dFor, dOp, dVar, dC, dTest, dChain, dAnd, dOr, dNot, dAndV, dOrV, dNotV, dIf, dTup, dLst, dNil, dCons, dStar, dCB, dCall, dFrz, dSl, dNoPart, dPart, dBM, dRev, dNeg, dIsi, dListRg, dTupRg, dRg1, dRg2, dLc, dIt, dEnum, dZip2, dZip3, dEnZ, dRng1, dRng2, dYes, gN, gT, gsNil, gsCons, gSb, oI, oI0, oAdd, oMulA, oSub, oFdiv, oMod, oPow, oLt, oLe, oGt, oGe, oEq, oNe, oIsN, oNotN, oIsB, oNotB, oIx, oSl, oLen, oSum, oAll, oAny, oAbs, o1I, o2I, oMin2, oMax2, oMin, oMax, oMinL, oMaxL, oInt, oBool, oList, oTuple, oSorted, oSortedT, oSortedD, dSortSet, dDNew, dDOne, oDGet, oDIn, oDSet, keyOD, oIn, oAddI, oGet, oSet, oAppend, oExtend, oPop, oPopAt, oIndexL, oIndexT, oInsert, oRemove, dTupX, dBMX, dLenSet, newL, startD, wipeD, D.tyN, List.map_cons, List.map_nil, List.cons_append, List.nil_append, List.length_cons, List.length_nil, List.getElem?_cons_zero, List.getElem?_cons_succ, List.set_cons_zero, List.set_cons_succ, List.replicate, Nat.sub_self, Nat.reduceSub, Nat.reduceAdd, Nat.zero_add, kb_ii, kb_ib, kb_it, kb_is, kb_bi, kb_bb, kb_bt, kb_bs, kb_tt, kb_ti, kb_ts, kb_ss, kb_si, kb_st, kb_nt, kb_ni, kb_ns, kb_lt, kb_li, kb_ls, ex_some, seq_tup, seq_tpx, itOf_tpx, seq_lst, seq_fz, list_lst, lsts_lst, lsts_fz, itOf_tup, itOf_lst, itOf_fz, now_int, now_bl, now_non, now_str, now_tup, now_lst, isNon_non, isNon_int, isNon_tup, isNon_ref, isNon_lst, isNon_str, isNon_bl, eG]
    refine ⟨trivial, trivial, ⟨okn_int, okn_int⟩, ?_⟩
    rw [eqD_int]
    by_cases h : (gt G i).b = r
    · rw [decide_eq_true h] at *; exact g1 rfl
    · rw [decide_eq_false h] at *; exact g2 rfl
  simp only [dSeq, dNext, dRet, dRetN, dIfS, dAsg, dAsgG, dDrop, dPar2, dPar3, dAug, dAugS, dFor, dOp, dVar, dC, dTest, dChain, dAnd, dOr, dNot, dAndV, dOrV, dNotV, dIf, dTup, dLst, dNil, dCons, dStar, dCB, dCall, dFrz, dSl, dNoPart, dPart, dBM, dRev, dNeg, dIsi, dListRg, dTupRg, dRg1, dRg2, dLc, dIt, dEnum, dZip2, dZip3, dEnZ, dRng1, dRng2, dYes, gN, gT, gsNil, gsCons, gSb, oI, oI0, oAdd, oMulA, oSub, oFdiv, oMod, oPow, oLt, oLe, oGt, oGe, oEq, oNe, oIsN, oNotN, oIsB, oNotB, oIx, oSl, oLen, oSum, oAll, oAny, oAbs, o1I, o2I, oMin2, oMax2, oMin, oMax, oMinL, oMaxL, oInt, oBool, oList, oTuple, oSorted, oSortedT, oSortedD, dSortSet, dDNew, dDOne, oDGet, oDIn, oDSet, keyOD, oIn, oAddI, oGet, oSet, oAppend, oExtend, oPop, oPopAt, oIndexL, oIndexT, oInsert, oRemove, dTupX, dBMX, dLenSet, newL, startD, wipeD, D.tyN, List.map_cons, List.map_nil, List.cons_append, List.nil_append, List.length_cons, List.length_nil, List.getElem?_cons_zero, List.getElem?_cons_succ, List.set_cons_zero, List.set_cons_succ, List.replicate, Nat.sub_self, Nat.reduceSub, Nat.reduceAdd, Nat.zero_add, kb_ii, kb_ib, kb_it, kb_is, kb_bi, kb_bb, kb_bt, kb_bs, kb_tt, kb_ti, kb_ts, kb_ss, kb_si, kb_st, kb_nt, kb_ni, kb_ns, kb_lt, kb_li, kb_ls, ex_some, seq_tup, seq_tpx, itOf_tpx, seq_lst, seq_fz, list_lst, lsts_lst, lsts_fz, itOf_tup, itOf_lst, itOf_fz, now_int, now_bl, now_non, now_str, now_tup, now_lst, isNon_non, isNon_int, isNon_tup, isNon_ref, isNon_lst, isNon_str, isNon_bl]
  refine ⟨((List.range G.length).filter fun i => decide ((gt G i).b = r)).map (at0 U), by rw [List.map_map]; rfl, .here ?_⟩
  rw [sum_range, sum_range]
  have e1 : ∀ i, (if decide ((gt G i).a = r) = true then at0 U i else 0) = if (gt G i).a = r then at0 U i else 0 := fun i => by simp
  have e2 : ∀ i, (if decide ((gt G i).b = r) = true then at0 U i else 0) = if (gt G i).b = r then at0 U i else 0 := fun i => by simp
  simp only [e1, e2]
  exact q
def mem_ (cut : List Int) (x : Int) : Bool := decide (x ∈ cut)
theorem any_mem {cut : List Int} {z : Int} : ((cut.map D.int).any fun y => eqD y (.int z)) = decide (z ∈ cut) := by
  induction cut with
  | nil => rfl
  | cons a cut ih =>
    rw [List.map_cons, List.any_cons, ih, eqD_int]
    by_cases h : a = z
    · subst h; simp
    · simp [h, Ne.symm h, eq_comm]
def sp_told_cut : DSp := fun ds S Q => ∃ (G : List Gate) (cut : List Int), ds = [.tup (G.map eG), .tup (cut.map D.int)] ∧ G.length ≤ 1000 ∧ Q (.int (cap G (mem_ cut))) S
theorem pure_told_cut : ∀ ds S Q, sp_told_cut ds S Q → t_told_cut (DeN Q) (startD N_told_cut ds) S := by
  rintro ds S Q ⟨G, cut, rfl, hn, q⟩
  simp only [t_told_cut, dSeq, dNext, dRet, dRetN, dIfS, dAsg, dAsgG, dDrop, dPar2, dPar3, dAug, dAugS, dFor, dOp, dVar, dC, dTest, dChain, dAnd, dOr, dNot, dAndV, dOrV, dNotV, dIf, dTup, dLst, dNil, dCons, dStar, dCB, dCall, dFrz, dSl, dNoPart, dPart, dBM, dRev, dNeg, dIsi, dListRg, dTupRg, dRg1, dRg2, dLc, dIt, dEnum, dZip2, dZip3, dEnZ, dRng1, dRng2, dYes, gN, gT, gsNil, gsCons, gSb, oI, oI0, oAdd, oMulA, oSub, oFdiv, oMod, oPow, oLt, oLe, oGt, oGe, oEq, oNe, oIsN, oNotN, oIsB, oNotB, oIx, oSl, oLen, oSum, oAll, oAny, oAbs, o1I, o2I, oMin2, oMax2, oMin, oMax, oMinL, oMaxL, oInt, oBool, oList, oTuple, oSorted, oSortedT, oSortedD, dSortSet, dDNew, dDOne, oDGet, oDIn, oDSet, keyOD, oIn, oAddI, oGet, oSet, oAppend, oExtend, oPop, oPopAt, oIndexL, oIndexT, oInsert, oRemove, dTupX, dBMX, dLenSet, newL, startD, wipeD, D.tyN, List.map_cons, List.map_nil, List.cons_append, List.nil_append, List.length_cons, List.length_nil, List.getElem?_cons_zero, List.getElem?_cons_succ, List.set_cons_zero, List.set_cons_succ, List.replicate, Nat.sub_self, Nat.reduceSub, Nat.reduceAdd, Nat.zero_add, kb_ii, kb_ib, kb_it, kb_is, kb_bi, kb_bb, kb_bt, kb_bs, kb_tt, kb_ti, kb_ts, kb_ss, kb_si, kb_st, kb_nt, kb_ni, kb_ns, kb_lt, kb_li, kb_ls, ex_some, seq_tup, seq_tpx, itOf_tpx, seq_lst, seq_fz, list_lst, lsts_lst, lsts_fz, itOf_tup, itOf_lst, itOf_fz, now_int, now_bl, now_non, now_str, now_tup, now_lst, isNon_non, isNon_int, isNon_tup, isNon_ref, isNon_lst, isNon_str, isNon_bl]
  have eGr : G.map eG = (List.range G.length).map fun i => eG (gt G i) := by
    conv => lhs; rw [all_range G]
    rw [List.map_map]; rfl
  rw [eGr]
  refine lc_mapK (List.range G.length) (fun i => eG (gt G i)) (fun i => mem_ cut (gt G i).a && !mem_ cut (gt G i).b) (fun i => .int (gt G i).c) (fun _ _ => trivial) (small (by rw [List.length_range]; omega)) (fun i hi S' e N M g1 g2 => ?_) ?_
  · simp only [dSeq, dNext, dRet, dRetN, dIfS, dAsg, dAsgG, dDrop, dPar2, dPar3, dAug, dAugS, dFor, dOp, dVar, dC, dTest, dChain, dAnd, dOr, dNot, dAndV, dOrV, dNotV, dIf, dTup, dLst, dNil, dCons, dStar, dCB, dCall, dFrz, dSl, dNoPart, dPart, dBM, dRev, dNeg, dIsi, dListRg, dTupRg, dRg1, dRg2, dLc, dIt, dEnum, dZip2, dZip3, dEnZ, dRng1, dRng2, dYes, gN, gT, gsNil, gsCons, gSb, oI, oI0, oAdd, oMulA, oSub, oFdiv, oMod, oPow, oLt, oLe, oGt, oGe, oEq, oNe, oIsN, oNotN, oIsB, oNotB, oIx, oSl, oLen, oSum, oAll, oAny, oAbs, o1I, o2I, oMin2, oMax2, oMin, oMax, oMinL, oMaxL, oInt, oBool, oList, oTuple, oSorted, oSortedT, oSortedD, dSortSet, dDNew, dDOne, oDGet, oDIn, oDSet, keyOD, oIn, oAddI, oGet, oSet, oAppend, oExtend, oPop, oPopAt, oIndexL, oIndexT, oInsert, oRemove, dTupX, dBMX, dLenSet, newL, startD, wipeD, D.tyN, List.map_cons, List.map_nil, List.cons_append, List.nil_append, List.length_cons, List.length_nil, List.getElem?_cons_zero, List.getElem?_cons_succ, List.set_cons_zero, List.set_cons_succ, List.replicate, Nat.sub_self, Nat.reduceSub, Nat.reduceAdd, Nat.zero_add, kb_ii, kb_ib, kb_it, kb_is, kb_bi, kb_bb, kb_bt, kb_bs, kb_tt, kb_ti, kb_ts, kb_ss, kb_si, kb_st, kb_nt, kb_ni, kb_ns, kb_lt, kb_li, kb_ls, ex_some, seq_tup, seq_tpx, itOf_tpx, seq_lst, seq_fz, list_lst, lsts_lst, lsts_fz, itOf_tup, itOf_lst, itOf_fz, now_int, now_bl, now_non, now_str, now_tup, now_lst, isNon_non, isNon_int, isNon_tup, isNon_ref, isNon_lst, isNon_str, isNon_bl, eG]
    refine ⟨trivial, ⟨okn_int, okn_ints⟩, ?_⟩
    rw [any_mem]
    unfold mem_ at g1 g2
    by_cases h : (gt G i).a ∈ cut
    · rw [decide_eq_true h] at *
      refine ⟨⟨okn_int, okn_ints⟩, ?_⟩
      rw [any_mem]
      by_cases h2 : (gt G i).b ∈ cut
      · rw [decide_eq_true h2] at *
        exact g2 rfl
      · rw [decide_eq_false h2] at *
        exact g1 rfl
    · rw [decide_eq_false h] at *
      exact g2 rfl
  simp only [dSeq, dNext, dRet, dRetN, dIfS, dAsg, dAsgG, dDrop, dPar2, dPar3, dAug, dAugS, dFor, dOp, dVar, dC, dTest, dChain, dAnd, dOr, dNot, dAndV, dOrV, dNotV, dIf, dTup, dLst, dNil, dCons, dStar, dCB, dCall, dFrz, dSl, dNoPart, dPart, dBM, dRev, dNeg, dIsi, dListRg, dTupRg, dRg1, dRg2, dLc, dIt, dEnum, dZip2, dZip3, dEnZ, dRng1, dRng2, dYes, gN, gT, gsNil, gsCons, gSb, oI, oI0, oAdd, oMulA, oSub, oFdiv, oMod, oPow, oLt, oLe, oGt, oGe, oEq, oNe, oIsN, oNotN, oIsB, oNotB, oIx, oSl, oLen, oSum, oAll, oAny, oAbs, o1I, o2I, oMin2, oMax2, oMin, oMax, oMinL, oMaxL, oInt, oBool, oList, oTuple, oSorted, oSortedT, oSortedD, dSortSet, dDNew, dDOne, oDGet, oDIn, oDSet, keyOD, oIn, oAddI, oGet, oSet, oAppend, oExtend, oPop, oPopAt, oIndexL, oIndexT, oInsert, oRemove, dTupX, dBMX, dLenSet, newL, startD, wipeD, D.tyN, List.map_cons, List.map_nil, List.cons_append, List.nil_append, List.length_cons, List.length_nil, List.getElem?_cons_zero, List.getElem?_cons_succ, List.set_cons_zero, List.set_cons_succ, List.replicate, Nat.sub_self, Nat.reduceSub, Nat.reduceAdd, Nat.zero_add, kb_ii, kb_ib, kb_it, kb_is, kb_bi, kb_bb, kb_bt, kb_bs, kb_tt, kb_ti, kb_ts, kb_ss, kb_si, kb_st, kb_nt, kb_ni, kb_ns, kb_lt, kb_li, kb_ls, ex_some, seq_tup, seq_tpx, itOf_tpx, seq_lst, seq_fz, list_lst, lsts_lst, lsts_fz, itOf_tup, itOf_lst, itOf_fz, now_int, now_bl, now_non, now_str, now_tup, now_lst, isNon_non, isNon_int, isNon_tup, isNon_ref, isNon_lst, isNon_str, isNon_bl]
  refine ⟨((List.range G.length).filter fun i => mem_ cut (gt G i).a && !mem_ cut (gt G i).b).map fun i => (gt G i).c, by rw [List.map_map]; rfl, .here ?_⟩
  rw [sum_range]
  exact q
end L47
namespace L47
open PySem PySem.Spec PySem.W PyProof.Rows L2 PL
theorem sI_swap (F : Nat → Nat → Int) (n : Nat) : ∀ m, sI m (fun x => sI n (fun i => F x i)) = sI n (fun i => sI m (fun x => F x i))
  | 0 => by show (0 : Int) = sI n (fun _ => 0); rw [sI_nil]
  | m + 1 => by
    show sI m (fun x => sI n (fun i => F x i)) + sI n (fun i => F m i) = sI n (fun i => sI m (fun x => F x i) + F m i)
    rw [sI_swap F n m, sI_add]
theorem sI_one {f : Nat → Int} {k n : Nat} (hk : k < n) (h : ∀ i, i < n → i ≠ k → f i = 0) : sI n f = f k := by
  have := sI_upd (f := f) (h := fun _ => 0) hk h
  rw [sI_nil] at this
  omega
structure Flow (G : List Gate) (U : List Int) (s t : Int) : Prop where
  len : U.length = G.length
  cap : ∀ i, i < G.length → 0 ≤ at0 U i ∧ at0 U i ≤ (gt G i).c
  bal : ∀ r, r ≠ s → r ≠ t → out G U r = 0
theorem rooms_sum {G : List Gate} {U : List Int} {R : Int} {Rn : Nat} (g : GG R G) (hR : R = Rn) (S : Int → Bool) :
    sI Rn (fun x => if S (x : Int) then out G U x else 0) = sI G.length fun i => (if S (gt G i).a then at0 U i else 0) - (if S (gt G i).b then at0 U i else 0) := by
  have key : ∀ (e : Nat → Int), (∀ i, i < G.length → 0 ≤ e i ∧ e i < R) → sI Rn (fun x => if S (x : Int) then (sI G.length fun i => if e i = (x : Int) then at0 U i else 0) else 0) = sI G.length fun i => if S (e i) then at0 U i else 0 := fun e he => by
    have h1 : sI Rn (fun x => if S (x : Int) then (sI G.length fun i => if e i = (x : Int) then at0 U i else 0) else 0) = sI Rn (fun x => sI G.length fun i => if S (x : Int) then (if e i = (x : Int) then at0 U i else 0) else 0) := sI_congr fun x _ => by
      by_cases hx : S (x : Int) = true
      · simp only [hx, if_true]
      · simp only [hx]; exact (sI_nil (n := G.length)).symm
    rw [h1, sI_swap]
    refine sI_congr fun i hi => ?_
    obtain ⟨k, hk⟩ : ∃ k : Nat, e i = (k : Nat) := ⟨(e i).toNat, by have := he i hi; omega⟩
    rw [sI_one (k := k) (by have := he i hi; omega) fun x _ hx => ?_]
    · rw [hk]; simp
    · rw [if_neg (show ¬ e i = (x : Int) by omega)]; simp
  unfold out
  have h2 : ∀ x : Nat, (if S (x : Int) then (sI G.length fun i => if (gt G i).a = (x : Int) then at0 U i else 0) - (sI G.length fun i => if (gt G i).b = (x : Int) then at0 U i else 0) else 0)
      = (if S (x : Int) then (sI G.length fun i => if (gt G i).a = (x : Int) then at0 U i else 0) else 0) - (if S (x : Int) then (sI G.length fun i => if (gt G i).b = (x : Int) then at0 U i else 0) else 0) := fun x => by
    split <;> simp
  simp only [h2]
  rw [sI_sub, key _ fun i hi => (g.r _ (gt_mem hi)).1, key _ fun i hi => (g.r _ (gt_mem hi)).2.1, sI_sub]
theorem flow_cut {G : List Gate} {U : List Int} {s t R : Int} (f : Flow G U s t) (g : GG R G) (hs : 0 ≤ s ∧ s < R) {S : Int → Bool} (h1 : S s = true) (h2 : S t = false) :
    cap G S - out G U s = sI G.length fun i => (if S (gt G i).a && !S (gt G i).b then (gt G i).c - at0 U i else 0) + (if S (gt G i).b && !S (gt G i).a then at0 U i else 0) := by
  obtain ⟨Rn, hRn⟩ : ∃ Rn : Nat, R = (Rn : Nat) := ⟨R.toNat, by have := g.R; omega⟩
  obtain ⟨k, hk⟩ : ∃ k : Nat, s = (k : Nat) := ⟨s.toNat, by omega⟩
  have e := rooms_sum (U := U) g hRn S
  rw [sI_one (k := k) (by omega) fun x _ hx => ?_, ← hk, h1, if_pos rfl] at e
  · rw [e]
    unfold cap
    rw [← sI_sub]
    refine sI_congr fun i _ => ?_
    cases S (gt G i).a <;> cases S (gt G i).b <;> simp
  · by_cases hxs : S (x : Int) = true
    · rw [if_pos hxs]
      refine f.bal _ (by omega) fun z => ?_
      rw [z, h2] at hxs; cases hxs
    · rw [if_neg hxs]
theorem flow_nn {G : List Gate} {U : List Int} {s t : Int} (f : Flow G U s t) (S : Int → Bool) : ∀ i, i < G.length → 0 ≤ (if S (gt G i).a && !S (gt G i).b then (gt G i).c - at0 U i else 0) + (if S (gt G i).b && !S (gt G i).a then at0 U i else 0) := fun i hi => by
  have := f.cap i hi
  cases S (gt G i).a <;> cases S (gt G i).b <;> simp <;> omega
theorem flow_le {G : List Gate} {U : List Int} {s t R : Int} (f : Flow G U s t) (g : GG R G) (hs : 0 ≤ s ∧ s < R) {S : Int → Bool} (h1 : S s = true) (h2 : S t = false) : out G U s ≤ cap G S := by
  have := flow_cut f g hs h1 h2
  have := sI_nn (flow_nn f S)
  omega
/-- nothing leads out of S any more -/
def Shut (G : List Gate) (U : List Int) (S : Int → Bool) : Prop := ∀ i, i < G.length → (S (gt G i).a = true → at0 U i < (gt G i).c → S (gt G i).b = true) ∧ (S (gt G i).b = true → 0 < at0 U i → S (gt G i).a = true)
theorem flow_shut {G : List Gate} {U : List Int} {s t R : Int} (f : Flow G U s t) (g : GG R G) (hs : 0 ≤ s ∧ s < R) {S : Int → Bool} (h1 : S s = true) (h2 : S t = false) : out G U s = cap G S ↔ Shut G U S := by
  have e := flow_cut f g hs h1 h2
  have nn := flow_nn f S
  constructor
  · intro he i hi
    have h0 := sI_zero nn (by omega) i hi
    have hc := f.cap i hi
    constructor
    · intro ha hlt
      cases hb : S (gt G i).b with
      | true => rfl
      | false => rw [ha, hb] at h0; simp at h0; omega
    · intro hb hlt
      cases ha : S (gt G i).a with
      | true => rfl
      | false => rw [ha, hb] at h0; simp at h0; omega
  · intro h
    have : sI G.length (fun i => (if S (gt G i).a && !S (gt G i).b then (gt G i).c - at0 U i else 0) + (if S (gt G i).b && !S (gt G i).a then at0 U i else 0)) = 0 := by
      rw [sI_congr (h := fun _ => 0) fun i hi => ?_, sI_nil]
      have hc := f.cap i hi
      have := h i hi
      cases ha : S (gt G i).a with
      | true =>
        cases hb : S (gt G i).b with
        | true => rfl
        | false =>
          have : ¬ at0 U i < (gt G i).c := fun z => by have := this.1 ha z; rw [hb] at this; cases this
          simp; omega
      | false =>
        cases hb : S (gt G i).b with
        | true =>
          have : ¬ 0 < at0 U i := fun z => by have := this.2 hb z; rw [ha] at this; cases this
          simp; omega
        | false => rfl
    omega
theorem Tree.sub {G : List Gate} {U : List Int} {s : Int} {E : List Ent} (t : Tree G U s E) {S : Int → Bool} (hs : S s = true) (h : Shut G U S) : ∀ x ∈ rm E, S x = true := by
  induction t with
  | root => intro x hx; rw [List.mem_singleton.mp hx]; exact hs
  | grow t hr hw ih =>
    intro x hx
    rw [rm_app] at hx
    rcases List.mem_append.mp hx with hx | hx
    · exact ih x hx
    · have : x = _ := List.mem_singleton.mp hx
      subst this
      obtain ⟨hi, ⟨_, hb, ha, hlt⟩ | ⟨_, ha, hb, hlt⟩⟩ := hw
      · rw [← hb]; exact (h _ hi).1 (ih _ ha) hlt
      · rw [← ha]; exact (h _ hi).2 (ih _ hb) hlt
theorem mem_iff {cut : List Int} {x : Int} : mem_ cut x = true ↔ x ∈ cut := by unfold mem_; exact decide_eq_true_iff
theorem Ways.shut {G : List Gate} {U : List Int} {s : Int} {E : List Ent} (w : Ways G U s E) : Shut G U (mem_ (rm E)) := fun i hi =>
  ⟨fun h1 h2 => mem_iff.mpr ((w.done _ (mem_iff.mp h1) i hi).1 rfl h2), fun h1 h2 => mem_iff.mpr ((w.done _ (mem_iff.mp h1) i hi).2 rfl h2)⟩
/-- the least cut -/
structure IsMin (R : Int) (G : List Gate) (v : Int) : Prop where
  ex : ∃ S : Int → Bool, S 0 = true ∧ S (R - 1) = false ∧ cap G S = v
  le : ∀ S : Int → Bool, S 0 = true → S (R - 1) = false → v ≤ cap G S
theorem IsMin.uniq {R : Int} {G : List Gate} {v v' : Int} (h : IsMin R G v) (h' : IsMin R G v') : v = v' := by
  obtain ⟨S, a, b, c⟩ := h.ex
  obtain ⟨S', a', b', c'⟩ := h'.ex
  have := h.le S' a' b'
  have := h'.le S a b
  omega
/-- a greatest flow, and what is got at then -/
structure Full (R : Int) (G : List Gate) (U : List Int) (E : List Ent) : Prop where
  flow : Flow G U 0 (R - 1)
  ways : Ways G U 0 E
  goal : R - 1 ∉ rm E
theorem Full.cut {R : Int} {G : List Gate} {U : List Int} {E : List Ent} (f : Full R G U E) (g : GG R G) : out G U 0 = L47.cap G (mem_ (rm E)) := by
  have := g.R
  refine (flow_shut f.flow g (by omega) (mem_iff.mpr f.ways.tree.start) ?_).mpr f.ways.shut
  cases h : mem_ (rm E) (R - 1) with
  | false => rfl
  | true => exact absurd (mem_iff.mp h) f.goal
theorem mem_false {cut : List Int} {x : Int} (h : x ∉ cut) : mem_ cut x = false := by unfold mem_; exact decide_eq_false h
theorem Full.min {R : Int} {G : List Gate} {U : List Int} {E : List Ent} (f : Full R G U E) (g : GG R G) : IsMin R G (out G U 0) := by
  have := g.R
  exact ⟨⟨_, mem_iff.mpr f.ways.tree.start, mem_false f.goal, (f.cut g).symm⟩, fun S h1 h2 => flow_le f.flow g (by omega) h1 h2⟩
/-- what is got at lies in each least cut, and only that -/
theorem Full.ahead {R : Int} {G : List Gate} {U : List Int} {E : List Ent} (f : Full R G U E) (g : GG R G) (x : Int) : x ∈ rm E ↔ ∀ S : Int → Bool, S 0 = true → S (R - 1) = false → L47.cap G S = out G U 0 → S x = true := by
  have hR := g.R
  constructor
  · intro hx S h1 h2 he
    exact f.ways.tree.sub h1 ((flow_shut f.flow g (by omega) h1 h2).mp he.symm) x hx
  · intro h
    exact mem_iff.mp (h _ (mem_iff.mpr f.ways.tree.start) (mem_false f.goal) (f.cut g).symm)
def rev1 (G : List Gate) : List Gate := G.map fun g => ⟨g.b, g.a, g.c⟩
theorem gt_map (f : Gate → Gate) {G : List Gate} {i : Nat} (h : i < G.length) : gt (G.map f) i = f (gt G i) := by
  unfold gt
  rw [List.getD_eq_getElem?_getD, List.getD_eq_getElem?_getD, List.getElem?_map, List.getElem?_eq_getElem h]; rfl
theorem GG.rev1 {R : Int} {G : List Gate} (g : GG R G) : GG R (rev1 G) := ⟨fun x hx => by
    obtain ⟨y, hy, rfl⟩ := List.mem_map.mp hx
    have := g.r y hy
    exact ⟨this.2.1, this.1, Ne.symm this.2.2⟩, fun x hx => by
    obtain ⟨y, hy, rfl⟩ := List.mem_map.mp hx
    exact g.c y hy, by unfold L47.rev1; rw [List.length_map]; exact g.n, g.R⟩
/-- from behind: what leads to the goal lies outside each least cut, and only that -/
theorem Full.back {R : Int} {G : List Gate} {U : List Int} {E B : List Ent} (f : Full R G U E) (g : GG R G) (w : Ways (L47.rev1 G) U (R - 1) B) (x : Int) :
    x ∈ rm B ↔ ∀ S : Int → Bool, S 0 = true → S (R - 1) = false → L47.cap G S = out G U 0 → S x = false := by
  have hR := g.R
  have hlen : (L47.rev1 G).length = G.length := List.length_map ..
  -- shut from behind
  have flip : ∀ S : Int → Bool, Shut G U S ↔ Shut (L47.rev1 G) U fun z => !S z := fun S => by
    unfold Shut
    rw [hlen]
    refine forall_congr' fun i => forall_congr' fun hi => ?_
    unfold L47.rev1
    rw [gt_map _ hi]
    simp only [Bool.not_eq_true']
    constructor
    · rintro ⟨h1, h2⟩
      refine ⟨fun hb hlt => ?_, fun ha hlt => ?_⟩
      · cases ha : S (gt G i).a with
        | false => rfl
        | true => rw [h1 ha hlt] at hb; cases hb
      · cases hb : S (gt G i).b with
        | false => rfl
        | true => rw [h2 hb hlt] at ha; cases ha
    · rintro ⟨h1, h2⟩
      refine ⟨fun ha hlt => ?_, fun hb hlt => ?_⟩
      · cases hb : S (gt G i).b with
        | true => rfl
        | false => rw [h1 hb hlt] at ha; cases ha
      · cases ha : S (gt G i).a with
        | true => rfl
        | false => rw [h2 ha hlt] at hb; cases hb
  constructor
  · intro hx S h1 h2 he
    have sh := (flip S).mp ((flow_shut f.flow g (by omega) h1 h2).mp he.symm)
    have := w.tree.sub (S := fun z => !S z) (by rw [h2]; rfl) sh x hx
    simpa using this
  · intro h
    have sh : Shut G U fun z => !mem_ (rm B) z := (flip _).mpr (by simpa using w.shut)
    -- the room from which all begins does not lead to the goal
    have h0 : (0 : Int) ∉ rm B := fun z => by
      have sh2 := f.ways.shut
      have := w.tree.sub (S := fun z => !mem_ (rm E) z) (by rw [mem_false f.goal]; rfl) ((flip _).mp sh2) 0 z
      rw [mem_iff.mpr f.ways.tree.start] at this
      cases this
    have s1 : (!mem_ (rm B) 0) = true := by rw [mem_false h0]; rfl
    have s2 : (!mem_ (rm B) (R - 1)) = false := by rw [mem_iff.mpr w.tree.start]; rfl
    have := h (fun z => !mem_ (rm B) z) s1 s2 ((flow_shut f.flow g (by omega) s1 s2).mpr sh).symm
    have : mem_ (rm B) x = true := by simpa using this
    exact mem_iff.mp this
end L47
namespace L47
open PySem PySem.Spec PySem.W PyProof.Rows L2 PL
/-! ### a way from the start to the goal, and more through it -/
def app (δ : Int) : List (Nat × Int) → List Int → List Int
  | [], U => U
  | e :: L, U => app δ L (U.set e.1 (at0 U e.1 + e.2 * δ))
theorem app_snoc (δ : Int) (e : Nat × Int) : ∀ (L : List (Nat × Int)) (U : List Int), app δ (L ++ [e]) U = (app δ L U).set e.1 (at0 (app δ L U) e.1 + e.2 * δ)
  | [], _ => rfl
  | _ :: L, U => app_snoc δ e L _
theorem app_len (δ : Int) : ∀ (L : List (Nat × Int)) (U : List Int), (app δ L U).length = U.length
  | [], _ => rfl
  | e :: L, U => by rw [app, app_len δ L, List.length_set]
def ef (G : List Gate) (r : Int) : List (Nat × Int) → Int
  | [] => 0
  | e :: L => e.2 * ((if (gt G e.1).a = r then 1 else 0) - (if (gt G e.1).b = r then 1 else 0)) + ef G r L
theorem ef_snoc (G : List Gate) (r : Int) (e : Nat × Int) : ∀ L, ef G r (L ++ [e]) = ef G r L + e.2 * ((if (gt G e.1).a = r then 1 else 0) - (if (gt G e.1).b = r then 1 else 0))
  | [] => by show e.2 * _ + 0 = 0 + _; omega
  | _ :: L => by rw [List.cons_append, ef, ef, ef_snoc G r e L]; omega
theorem out_set {G : List Gate} {U : List Int} {i : Nat} (hi : i < G.length) (hU : U.length = G.length) (x : Int) (r : Int) :
    out G (U.set i (at0 U i + x)) r = out G U r + x * ((if (gt G i).a = r then 1 else 0) - (if (gt G i).b = r then 1 else 0)) := by
  have h0 : at0 (U.set i (at0 U i + x)) i = at0 U i + x := by rw [at0_set (by omega), if_pos rfl]
  have h1 : ∀ j, j ≠ i → at0 (U.set i (at0 U i + x)) j = at0 U j := fun j hj => by rw [at0_set (by omega), if_neg hj]
  unfold out
  rw [sI_upd (f := fun j => if (gt G j).a = r then at0 (U.set i (at0 U i + x)) j else 0) (h := fun j => if (gt G j).a = r then at0 U j else 0) hi fun j _ hj => by simp only [h1 j hj],
    sI_upd (f := fun j => if (gt G j).b = r then at0 (U.set i (at0 U i + x)) j else 0) (h := fun j => if (gt G j).b = r then at0 U j else 0) hi fun j _ hj => by simp only [h1 j hj]]
  simp only [h0]
  by_cases ha : (gt G i).a = r <;> by_cases hb : (gt G i).b = r <;> simp [ha, hb] <;> omega
theorem out_app {G : List Gate} (δ r : Int) : ∀ (L : List (Nat × Int)) (U : List Int), U.length = G.length → (∀ e ∈ L, e.1 < G.length) → out G (app δ L U) r = out G U r + δ * ef G r L
  | [], U, _, _ => by rw [app, ef]; omega
  | e :: L, U, hU, h => by
    rw [app, out_app δ r L _ (by rw [List.length_set]; exact hU) fun x hx => h x (List.mem_cons_of_mem _ hx), out_set (h e List.mem_cons_self) hU, ef, Int.mul_add]
    have : e.2 * δ * ((if (gt G e.1).a = r then 1 else 0) - (if (gt G e.1).b = r then 1 else 0)) = δ * (e.2 * ((if (gt G e.1).a = r then 1 else 0) - (if (gt G e.1).b = r then 1 else 0))) := by ac_rfl
    omega
theorem app_out {δ : Int} {j : Nat} : ∀ (L : List (Nat × Int)) (U : List Int), j ∉ L.map (·.1) → (∀ e ∈ L, e.1 < U.length) → at0 (app δ L U) j = at0 U j
  | [], _, _, _ => rfl
  | e :: L, U, h, hl => by
    rw [List.map_cons, List.mem_cons, not_or] at h
    rw [app, app_out L _ h.2 (fun x hx => by rw [List.length_set]; exact hl x (List.mem_cons_of_mem _ hx)), at0_set (hl e List.mem_cons_self), if_neg h.1]
theorem app_in {δ : Int} : ∀ (L : List (Nat × Int)) (U : List Int), (L.map (·.1)).Nodup → (∀ e ∈ L, e.1 < U.length) → ∀ e ∈ L, at0 (app δ L U) e.1 = at0 U e.1 + e.2 * δ
  | x :: L, U, hn, hl, e, he => by
    rw [List.map_cons, List.nodup_cons] at hn
    have hl' : ∀ z ∈ L, z.1 < (U.set x.1 (at0 U x.1 + x.2 * δ)).length := fun z hz => by rw [List.length_set]; exact hl z (List.mem_cons_of_mem _ hz)
    have hx := hl x List.mem_cons_self
    rcases List.mem_cons.mp he with rfl | he
    · rw [app, app_out L _ hn.1 hl', at0_set hx, if_pos rfl]
    · have hne : e.1 ≠ x.1 := fun z => hn.1 (by rw [← z]; exact List.mem_map.mpr ⟨e, he, rfl⟩)
      rw [app, app_in L _ hn.2 hl' e he, at0_set hx, if_neg hne]
/-! ### the tree -/
def ix (E : List Ent) (x : Int) : Nat := (rm E).idxOf x
theorem look_app (E F : List Ent) (x : Int) : look (E ++ F) x = (look E x).or (look F x) := by
  unfold look
  rw [List.find?_append, Option.map_or]
theorem look_none {E : List Ent} {x : Int} (h : x ∉ rm E) : look E x = none := by
  cases e : look E x with
  | none => rfl
  | some o => exact absurd (look_some.mp (by rw [e]; rfl)) h
theorem ix_app {E F : List Ent} {x : Int} (h : x ∈ rm E) : ix (E ++ F) x = ix E x := by
  unfold ix; rw [rm_app, List.idxOf_append, if_pos h]
def par (G : List Gate) (e : Nat × Int) : Int := if e.2 = 1 then (gt G e.1).a else (gt G e.1).b
def chi (G : List Gate) (e : Nat × Int) : Int := if e.2 = 1 then (gt G e.1).b else (gt G e.1).a
theorem Way.up {G : List Gate} {U X Y : List Int} {r : Int} {i : Nat} {w : Int} (h : Way G U X r i w) (hs : ∀ z ∈ X, z ∈ Y) : Way G U Y r i w :=
  ⟨h.1, h.2.imp (fun ⟨a, b, c, d⟩ => ⟨a, b, hs _ c, d⟩) fun ⟨a, b, c, d⟩ => ⟨a, b, hs _ c, d⟩⟩
theorem Tree.at {G : List Gate} {U : List Int} {s : Int} {E : List Ent} (t : Tree G U s E) : ∀ x o, look E x = some o → (o = none → x = s) ∧ ∀ i w, o = some (i, w) → Way G U (rm E) x i w ∧ ix E (par G (i, w)) < ix E x := by
  induction t with
  | root =>
    intro x o h
    by_cases e : s = x
    · subst e
      have : look [(s, (none : Option (Nat × Int)))] s = some none := by simp [look]
      rw [this] at h
      rw [← Option.some.inj h]
      exact ⟨fun _ => rfl, fun i w z => (by cases z)⟩
    · rw [look_none (by simp [rm]; exact fun z => e z.symm)] at h; cases h
  | @grow E r i0 w0 t hr hw ih =>
    intro x o h
    rw [look_app] at h
    by_cases hx : x ∈ rm E
    · have : look (E ++ [(r, some (i0, w0))]) x = look E x := by
        rw [look_app]
        cases e : look E x with
        | none => rw [← Option.not_isSome_iff_eq_none] at e; exact absurd (look_some.mpr hx) e
        | some o => rfl
      rw [← look_app, this] at h
      obtain ⟨h1, h2⟩ := ih x o h
      refine ⟨h1, fun i w e => ?_⟩
      obtain ⟨a, b⟩ := h2 i w e
      have hp : par G (i, w) ∈ rm E := by
        unfold par
        rcases a.2 with ⟨e1, _, e3, _⟩ | ⟨e1, _, e3, _⟩
        · simp only [e1, if_true]; exact e3
        · simp only [e1]; exact e3
      exact ⟨a.up fun z hz => by rw [rm_app]; exact List.mem_append_left _ hz, by rw [ix_app hp, ix_app hx]; exact b⟩
    · rw [look_none hx, Option.none_or] at h
      by_cases e : r = x
      · subst e
        have : look [(r, some (i0, w0))] r = some (some (i0, w0)) := by simp [look]
        rw [this] at h
        rw [← Option.some.inj h]
        refine ⟨fun z => (by cases z), fun i w e => ?_⟩
        obtain ⟨rfl, rfl⟩ := Prod.mk.inj (Option.some.inj e)
        have hp : par G (i0, w0) ∈ rm E := by
          unfold par
          rcases hw.2 with ⟨e1, _, e3, _⟩ | ⟨e1, _, e3, _⟩
          · simp only [e1, if_true]; exact e3
          · simp only [e1]; exact e3
        refine ⟨hw.up fun z hz => by rw [rm_app]; exact List.mem_append_left _ hz, ?_⟩
        rw [ix_app hp]
        have h1 : ix E (par G (i0, w0)) < (rm E).length := List.idxOf_lt_length_iff.mpr hp
        have h2 : ix (E ++ [(r, some (i0, w0))]) r = (rm E).length := by
          unfold ix
          rw [rm_app, List.idxOf_append, if_neg hr]
          simp [rm]
        omega
      · rw [look_none (by simp [rm]; exact fun z => e z.symm)] at h; cases h
structure PathI (G : List Gate) (U : List Int) (E : List Ent) (t h : Int) (L : List (Nat × Int)) : Prop where
  mem : h ∈ rm E
  ok : ∀ e ∈ L, e.1 < G.length ∧ ((e.2 = 1 ∧ at0 U e.1 < (gt G e.1).c) ∨ (e.2 = -1 ∧ 0 < at0 U e.1))
  nd : (L.map (·.1)).Nodup
  eff : ∀ r, ef G r L = (if h = r then 1 else 0) - (if t = r then 1 else 0)
  pos : ∀ e ∈ L, ix E h < ix E (chi G e) ∧ ix E h ≤ ix E (par G e)
theorem path_start {G : List Gate} {U : List Int} {E : List Ent} {t : Int} (h : t ∈ rm E) : PathI G U E t t [] :=
  ⟨h, by simp, .nil, fun r => by rw [ef]; split <;> omega, by simp⟩
theorem PathI.step {G : List Gate} {U : List Int} {E : List Ent} {t h : Int} {L : List (Nat × Int)} (p : PathI G U E t h L) {i : Nat} {w : Int} (hw : Way G U (rm E) h i w) (hp : ix E (par G (i, w)) < ix E h) :
    PathI G U E t (par G (i, w)) (L ++ [(i, w)]) := by
  obtain ⟨hi, hw⟩ := hw
  have hw1 : w = 1 ∨ w = -1 := hw.imp (fun z => z.1) fun z => z.1
  have hch : chi G (i, w) = h := by
    unfold chi
    rcases hw with ⟨e, hb, _⟩ | ⟨e, ha, _⟩
    · simp only [e, if_true]; exact hb
    · simp only [e]; exact ha
  have hpm : par G (i, w) ∈ rm E := by
    unfold par
    rcases hw with ⟨e1, _, e3, _⟩ | ⟨e1, _, e3, _⟩
    · simp only [e1, if_true]; exact e3
    · simp only [e1]; exact e3
  refine ⟨hpm, fun e he => ?_, ?_, fun r => ?_, fun e he => ?_⟩
  · rcases List.mem_append.mp he with he | he
    · exact p.ok e he
    · rw [List.mem_singleton.mp he]
      exact ⟨hi, hw.imp (fun z => ⟨z.1, z.2.2.2⟩) fun z => ⟨z.1, z.2.2.2⟩⟩
  · rw [List.map_append, List.nodup_append]
    refine ⟨p.nd, by simp, fun a ha b hb e => ?_⟩
    have hbi : b = i := List.mem_singleton.mp hb
    obtain ⟨f, hf, rfl⟩ := List.mem_map.mp ha
    have hfi : f.1 = i := e.trans hbi
    obtain ⟨f1, f2⟩ := f
    simp only at hfi
    subst hfi
    obtain ⟨q1, q2⟩ := p.pos _ hf
    have hf2 : f2 = 1 ∨ f2 = -1 := (p.ok _ hf).2.imp (fun z => z.1) fun z => z.1
    by_cases hfw : f2 = w
    · subst hfw; rw [hch] at q1; omega
    · have e1 : chi G (f1, f2) = par G (f1, w) := by
        unfold chi par
        rcases hf2 with rfl | rfl <;> rcases hw1 with rfl | rfl <;> simp_all
      rw [e1] at q1; omega
  · rw [ef_snoc, p.eff r]
    have e2 : w * ((if (gt G i).a = r then 1 else 0) - (if (gt G i).b = r then 1 else 0)) = (if par G (i, w) = r then 1 else 0) - (if h = r then 1 else 0) := by
      rw [← hch]
      unfold chi par
      rcases hw1 with rfl | rfl <;> simp <;> omega
    show _ + w * _ = _
    rw [e2]; omega
  · rcases List.mem_append.mp he with he | he
    · have := p.pos e he; omega
    · rw [List.mem_singleton.mp he, hch]
      exact ⟨hp, Nat.le_refl _⟩
/-- more goes through -/
theorem more_flow {G : List Gate} {U : List Int} {E : List Ent} {s t δ : Int} {L : List (Nat × Int)} (f : Flow G U s t) (p : PathI G U E t s L) (hst : s ≠ t) (hδ : 0 ≤ δ) (hm : ∀ e ∈ L, δ ≤ if e.2 = 1 then (gt G e.1).c - at0 U e.1 else at0 U e.1) :
    Flow G (app δ L U) s t ∧ out G (app δ L U) s = out G U s + δ := by
  have hl : ∀ e ∈ L, e.1 < G.length := fun e he => (p.ok e he).1
  have ho := fun r => out_app (G := G) δ r L U f.len hl
  refine ⟨⟨by rw [app_len]; exact f.len, fun i hi => ?_, fun r h1 h2 => ?_⟩, ?_⟩
  · have hc := f.cap i hi
    by_cases hm2 : i ∈ L.map (·.1)
    · obtain ⟨e, he, rfl⟩ := List.mem_map.mp hm2
      rw [app_in L U p.nd (fun e he => by rw [f.len]; exact hl e he) e he]
      have h3 := hm e he
      rcases (p.ok e he).2 with ⟨e1, _⟩ | ⟨e1, _⟩
      · rw [e1] at h3 ⊢; simp at h3; omega
      · rw [e1] at h3 ⊢; simp at h3; omega
    · rw [app_out L U hm2 fun e he => by rw [f.len]; exact hl e he]
      exact hc
  · rw [ho r, p.eff r, if_neg (Ne.symm h1), if_neg (Ne.symm h2), f.bal r h1 h2]; simp
  · rw [ho s, p.eff s, if_pos rfl, if_neg (Ne.symm hst)]; simp
end L47
namespace L47
open PySem PySem.Spec PySem.W PyProof.Rows L2 PL
theorem at0_rep (n i : Nat) : at0 (List.replicate n (0 : Int)) i = 0 := by
  unfold at0
  rw [List.getD_eq_getElem?_getD, List.getElem?_replicate]
  split <;> rfl
theorem flow_start {G : List Gate} {R s t : Int} (g : GG R G) : Flow G (List.replicate G.length 0) s t := by
  refine ⟨List.length_replicate, fun i hi => by rw [at0_rep]; exact ⟨Int.le_refl _, (g.c _ (gt_mem hi)).1⟩, fun r _ _ => ?_⟩
  unfold out
  have e1 : ∀ i, (if (gt G i).a = r then at0 (List.replicate G.length 0) i else 0) = 0 := fun i => by rw [at0_rep]; simp
  have e2 : ∀ i, (if (gt G i).b = r then at0 (List.replicate G.length 0) i else 0) = 0 := fun i => by rw [at0_rep]; simp
  simp only [e1, e2, sI_nil]
  rfl
theorem out_top {G : List Gate} {U : List Int} {s t : Int} (f : Flow G U s t) : out G U s ≤ sI G.length fun i => if (gt G i).a = s then (gt G i).c else 0 := by
  unfold out
  have h1 : sI G.length (fun i => if (gt G i).a = s then at0 U i else 0) ≤ sI G.length fun i => if (gt G i).a = s then (gt G i).c else 0 := sI_le fun i hi => by
    have := f.cap i hi
    split <;> omega
  have h2 : 0 ≤ sI G.length fun i => if (gt G i).b = s then at0 U i else 0 := sI_nn fun i hi => by
    have := f.cap i hi
    split <;> omega
  omega
def eL (e : Nat × Int) : D := .tup [.int (e.1 : Nat), .int e.2]
def sp_told_flow : DSp := fun ds S Q => ∃ (G : List Gate) (R : Int), ds = [.tup (G.map eG), .int 0, .int (R - 1)] ∧ GG R G ∧
  ∀ U E pu pw, Full R G U E → pu ≠ pw → S pu = none → S pw = none → Q (.tup [.ref pu, .ref pw]) ((S.up pu (.lst (U.map D.int))).up pw (.dK (encE E)))
theorem pure_told_flow : ∀ ds S Q, sp_told_flow ds S Q → t_told_flow sp_told_ways (DeN Q) (startD N_told_flow ds) S := by
  rintro ds S0 Q ⟨G, R, rfl, g, q⟩
  have hn := g.n
  have hR := g.R
  unfold t_told_flow
  refine seqG fun v1 hv1 => ?_
  simp only [dSeq, dNext, dRet, dRetN, dIfS, dAsg, dAsgG, dDrop, dPar2, dPar3, dAug, dAugS, dFor, dOp, dVar, dC, dTest, dChain, dAnd, dOr, dNot, dAndV, dOrV, dNotV, dIf, dTup, dLst, dNil, dCons, dStar, dCB, dCall, dFrz, dSl, dNoPart, dPart, dBM, dRev, dNeg, dIsi, dListRg, dTupRg, dRg1, dRg2, dLc, dIt, dEnum, dZip2, dZip3, dEnZ, dRng1, dRng2, dYes, gN, gT, gsNil, gsCons, gSb, oI, oI0, oAdd, oMulA, oSub, oFdiv, oMod, oPow, oLt, oLe, oGt, oGe, oEq, oNe, oIsN, oNotN, oIsB, oNotB, oIx, oSl, oLen, oSum, oAll, oAny, oAbs, o1I, o2I, oMin2, oMax2, oMin, oMax, oMinL, oMaxL, oInt, oBool, oList, oTuple, oSorted, oSortedT, oSortedD, dSortSet, dDNew, dDOne, oDGet, oDIn, oDSet, keyOD, oIn, oAddI, oGet, oSet, oAppend, oExtend, oPop, oPopAt, oIndexL, oIndexT, oInsert, oRemove, dTupX, dBMX, dLenSet, newL, startD, wipeD, D.tyN, List.map_cons, List.map_nil, List.cons_append, List.nil_append, List.length_cons, List.length_nil, List.getElem?_cons_zero, List.getElem?_cons_succ, List.set_cons_zero, List.set_cons_succ, List.replicate, Nat.sub_self, Nat.reduceSub, Nat.reduceAdd, Nat.zero_add, kb_ii, kb_ib, kb_it, kb_is, kb_bi, kb_bb, kb_bt, kb_bs, kb_tt, kb_ti, kb_ts, kb_ss, kb_si, kb_st, kb_nt, kb_ni, kb_ns, kb_lt, kb_li, kb_ls, ex_some, seq_tup, seq_tpx, itOf_tpx, seq_lst, seq_fz, list_lst, lsts_lst, lsts_fz, itOf_tup, itOf_lst, itOf_fz, now_int, now_bl, now_non, now_str, now_tup, now_lst, isNon_non, isNon_int, isNon_tup, isNon_ref, isNon_lst, isNon_str, isNon_bl, List.length_map]
  refine ⟨small (by decide), ⟨by omega, by omega, by rw [sizeLine_eq]; omega⟩, fun pu hpu => ?_⟩
  rw [Int.toNat_natCast, rep_map D.int]
  subst hv1
  refine whileG fun τ hτ => ?_
  refine ⟨fun n ρ S => ∃ o4 o5 o6 o7 o8 o9 U, ρ = [some (.tup (G.map eG)), some (.int 0), some (.int (R - 1)), some (.ref pu), o4, o5, o6, o7, o8, o9] ∧ Ext S0 S ∧ S pu = some (.lst (U.map D.int)) ∧ Flow G U 0 (R - 1) ∧ n = ((sI G.length fun i => if (gt G i).a = 0 then (gt G i).c else 0) - out G U 0).toNat,
    ⟨_, none, none, none, none, none, none, _, rfl, Ext.up hpu, Sto.up_same, flow_start g, rfl⟩, ?_⟩
  rintro n ρ S ⟨o4, o5, o6, o7, o8, o9, U, rfl, hE, hSu, hf, hnn⟩
  have hU := hf.len
  simp only [dSeq, dNext, dRet, dRetN, dIfS, dAsg, dAsgG, dDrop, dPar2, dPar3, dAug, dAugS, dFor, dOp, dVar, dC, dTest, dChain, dAnd, dOr, dNot, dAndV, dOrV, dNotV, dIf, dTup, dLst, dNil, dCons, dStar, dCB, dCall, dFrz, dSl, dNoPart, dPart, dBM, dRev, dNeg, dIsi, dListRg, dTupRg, dRg1, dRg2, dLc, dIt, dEnum, dZip2, dZip3, dEnZ, dRng1, dRng2, dYes, gN, gT, gsNil, gsCons, gSb, oI, oI0, oAdd, oMulA, oSub, oFdiv, oMod, oPow, oLt, oLe, oGt, oGe, oEq, oNe, oIsN, oNotN, oIsB, oNotB, oIx, oSl, oLen, oSum, oAll, oAny, oAbs, o1I, o2I, oMin2, oMax2, oMin, oMax, oMinL, oMaxL, oInt, oBool, oList, oTuple, oSorted, oSortedT, oSortedD, dSortSet, dDNew, dDOne, oDGet, oDIn, oDSet, keyOD, oIn, oAddI, oGet, oSet, oAppend, oExtend, oPop, oPopAt, oIndexL, oIndexT, oInsert, oRemove, dTupX, dBMX, dLenSet, newL, startD, wipeD, D.tyN, List.map_cons, List.map_nil, List.cons_append, List.nil_append, List.length_cons, List.length_nil, List.getElem?_cons_zero, List.getElem?_cons_succ, List.set_cons_zero, List.set_cons_succ, List.replicate, Nat.sub_self, Nat.reduceSub, Nat.reduceAdd, Nat.zero_add, kb_ii, kb_ib, kb_it, kb_is, kb_bi, kb_bb, kb_bt, kb_bs, kb_tt, kb_ti, kb_ts, kb_ss, kb_si, kb_st, kb_nt, kb_ni, kb_ns, kb_lt, kb_li, kb_ls, ex_some, seq_tup, seq_tpx, itOf_tpx, seq_lst, seq_fz, list_lst, lsts_lst, lsts_fz, itOf_tup, itOf_lst, itOf_fz, now_int, now_bl, now_non, now_str, now_tup, now_lst, isNon_non, isNon_int, isNon_tup, isNon_ref, isNon_lst, isNon_str, isNon_bl]
  subst hτ
  refine seqG fun v2 hv2 => ?_
  simp only [dSeq, dNext, dRet, dRetN, dIfS, dAsg, dAsgG, dDrop, dPar2, dPar3, dAug, dAugS, dFor, dOp, dVar, dC, dTest, dChain, dAnd, dOr, dNot, dAndV, dOrV, dNotV, dIf, dTup, dLst, dNil, dCons, dStar, dCB, dCall, dFrz, dSl, dNoPart, dPart, dBM, dRev, dNeg, dIsi, dListRg, dTupRg, dRg1, dRg2, dLc, dIt, dEnum, dZip2, dZip3, dEnZ, dRng1, dRng2, dYes, gN, gT, gsNil, gsCons, gSb, oI, oI0, oAdd, oMulA, oSub, oFdiv, oMod, oPow, oLt, oLe, oGt, oGe, oEq, oNe, oIsN, oNotN, oIsB, oNotB, oIx, oSl, oLen, oSum, oAll, oAny, oAbs, o1I, o2I, oMin2, oMax2, oMin, oMax, oMinL, oMaxL, oInt, oBool, oList, oTuple, oSorted, oSortedT, oSortedD, dSortSet, dDNew, dDOne, oDGet, oDIn, oDSet, keyOD, oIn, oAddI, oGet, oSet, oAppend, oExtend, oPop, oPopAt, oIndexL, oIndexT, oInsert, oRemove, dTupX, dBMX, dLenSet, newL, startD, wipeD, D.tyN, List.map_cons, List.map_nil, List.cons_append, List.nil_append, List.length_cons, List.length_nil, List.getElem?_cons_zero, List.getElem?_cons_succ, List.set_cons_zero, List.set_cons_succ, List.replicate, Nat.sub_self, Nat.reduceSub, Nat.reduceAdd, Nat.zero_add, kb_ii, kb_ib, kb_it, kb_is, kb_bi, kb_bb, kb_bt, kb_bs, kb_tt, kb_ti, kb_ts, kb_ss, kb_si, kb_st, kb_nt, kb_ni, kb_ns, kb_lt, kb_li, kb_ls, ex_some, seq_tup, seq_tpx, itOf_tpx, seq_lst, seq_fz, list_lst, lsts_lst, lsts_fz, itOf_tup, itOf_lst, itOf_fz, now_int, now_bl, now_non, now_str, now_tup, now_lst, isNon_non, isNon_int, isNon_tup, isNon_ref, isNon_lst, isNon_str, isNon_bl]
  refine ⟨_, G, pu, U, 0, R, rfl, .inl rfl, hSu, hU, g, by omega, fun E pw hw hpw => ?_⟩
  have huw : pu ≠ pw := ne_of_in hSu hpw
  have hSw : (S.up pw (.dK (encE E))) pw = some (.dK (encE E)) := Sto.up_same
  have hSu1 : (S.up pw (.dK (encE E))) pu = some (.lst (U.map D.int)) := by rw [Sto.up_ne huw]; exact hSu
  have hpw0 : S0 pw = none := hE.none hpw
  subst hv2
  refine seqG fun v3 hv3 => ?_
  simp only [dSeq, dNext, dRet, dRetN, dIfS, dAsg, dAsgG, dDrop, dPar2, dPar3, dAug, dAugS, dFor, dOp, dVar, dC, dTest, dChain, dAnd, dOr, dNot, dAndV, dOrV, dNotV, dIf, dTup, dLst, dNil, dCons, dStar, dCB, dCall, dFrz, dSl, dNoPart, dPart, dBM, dRev, dNeg, dIsi, dListRg, dTupRg, dRg1, dRg2, dLc, dIt, dEnum, dZip2, dZip3, dEnZ, dRng1, dRng2, dYes, gN, gT, gsNil, gsCons, gSb, oI, oI0, oAdd, oMulA, oSub, oFdiv, oMod, oPow, oLt, oLe, oGt, oGe, oEq, oNe, oIsN, oNotN, oIsB, oNotB, oIx, oSl, oLen, oSum, oAll, oAny, oAbs, o1I, o2I, oMin2, oMax2, oMin, oMax, oMinL, oMaxL, oInt, oBool, oList, oTuple, oSorted, oSortedT, oSortedD, dSortSet, dDNew, dDOne, oDGet, oDIn, oDSet, keyOD, oIn, oAddI, oGet, oSet, oAppend, oExtend, oPop, oPopAt, oIndexL, oIndexT, oInsert, oRemove, dTupX, dBMX, dLenSet, newL, startD, wipeD, D.tyN, List.map_cons, List.map_nil, List.cons_append, List.nil_append, List.length_cons, List.length_nil, List.getElem?_cons_zero, List.getElem?_cons_succ, List.set_cons_zero, List.set_cons_succ, List.replicate, Nat.sub_self, Nat.reduceSub, Nat.reduceAdd, Nat.zero_add, kb_ii, kb_ib, kb_it, kb_is, kb_bi, kb_bb, kb_bt, kb_bs, kb_tt, kb_ti, kb_ts, kb_ss, kb_si, kb_st, kb_nt, kb_ni, kb_ns, kb_lt, kb_li, kb_ls, ex_some, seq_tup, seq_tpx, itOf_tpx, seq_lst, seq_fz, list_lst, lsts_lst, lsts_fz, itOf_tup, itOf_lst, itOf_fz, now_int, now_bl, now_non, now_str, now_tup, now_lst, isNon_non, isNon_int, isNon_tup, isNon_ref, isNon_lst, isNon_str, isNon_bl, dk_ref hSw, val_isSome, if_true]
  by_cases hg : R - 1 ∈ rm E
  · rw [decide_eq_true hg]
    simp only [Bool.not_true]
    have hE1 : Ext S0 (S.up pw (.dK (encE E))) := hE.set hpw0
    generalize S.up pw (.dK (encE E)) = S1 at hSw hSu1 hE1 ⊢
    subst hv3
    refine seqG fun v4 hv4 => ?_
    simp only [dSeq, dNext, dRet, dRetN, dIfS, dAsg, dAsgG, dDrop, dPar2, dPar3, dAug, dAugS, dFor, dOp, dVar, dC, dTest, dChain, dAnd, dOr, dNot, dAndV, dOrV, dNotV, dIf, dTup, dLst, dNil, dCons, dStar, dCB, dCall, dFrz, dSl, dNoPart, dPart, dBM, dRev, dNeg, dIsi, dListRg, dTupRg, dRg1, dRg2, dLc, dIt, dEnum, dZip2, dZip3, dEnZ, dRng1, dRng2, dYes, gN, gT, gsNil, gsCons, gSb, oI, oI0, oAdd, oMulA, oSub, oFdiv, oMod, oPow, oLt, oLe, oGt, oGe, oEq, oNe, oIsN, oNotN, oIsB, oNotB, oIx, oSl, oLen, oSum, oAll, oAny, oAbs, o1I, o2I, oMin2, oMax2, oMin, oMax, oMinL, oMaxL, oInt, oBool, oList, oTuple, oSorted, oSortedT, oSortedD, dSortSet, dDNew, dDOne, oDGet, oDIn, oDSet, keyOD, oIn, oAddI, oGet, oSet, oAppend, oExtend, oPop, oPopAt, oIndexL, oIndexT, oInsert, oRemove, dTupX, dBMX, dLenSet, newL, startD, wipeD, D.tyN, List.map_cons, List.map_nil, List.cons_append, List.nil_append, List.length_cons, List.length_nil, List.getElem?_cons_zero, List.getElem?_cons_succ, List.set_cons_zero, List.set_cons_succ, List.replicate, Nat.sub_self, Nat.reduceSub, Nat.reduceAdd, Nat.zero_add, kb_ii, kb_ib, kb_it, kb_is, kb_bi, kb_bb, kb_bt, kb_bs, kb_tt, kb_ti, kb_ts, kb_ss, kb_si, kb_st, kb_nt, kb_ni, kb_ns, kb_lt, kb_li, kb_ls, ex_some, seq_tup, seq_tpx, itOf_tpx, seq_lst, seq_fz, list_lst, lsts_lst, lsts_fz, itOf_tup, itOf_lst, itOf_fz, now_int, now_bl, now_non, now_str, now_tup, now_lst, isNon_non, isNon_int, isNon_tup, isNon_ref, isNon_lst, isNon_str, isNon_bl]
    refine ⟨Nat.zero_le _, fun pp hpp => ?_⟩
    have hwp : pw ≠ pp := ne_of_in hSw hpp
    have hup : pu ≠ pp := ne_of_in hSu1 hpp
    have hpp0 : S0 pp = none := hE1.none hpp
    subst hv4
    refine seqG fun v5 hv5 => ?_
    refine whileG fun τ2 hτ2 => ?_
    refine ⟨fun m ρ S' => ∃ o7 o8 h L, ρ = [some (.tup (G.map eG)), some (.int 0), some (.int (R - 1)), some (.ref pu), some (.ref pw), some (.ref pp), some (.int h), o7, o8, o9] ∧ S' = S1.up pp (.lst (L.map eL)) ∧ PathI G U E (R - 1) h L ∧ m = ix E h,
      ⟨_, o7, o8, R - 1, [], rfl, rfl, path_start hg, rfl⟩, ?_⟩
    rintro m ρ S' ⟨o7, o8, h, L, rfl, rfl, hp, rfl⟩
    have f1 : (S1.up pp (.lst (L.map eL))) pp = some (.lst (L.map eL)) := Sto.up_same
    have f2 : (S1.up pp (.lst (L.map eL))) pw = some (.dK (encE E)) := by rw [Sto.up_ne hwp]; exact hSw
    have f3 : (S1.up pp (.lst (L.map eL))) pu = some (.lst (U.map D.int)) := by rw [Sto.up_ne hup]; exact hSu1
    obtain ⟨o, ho⟩ := Option.isSome_iff_exists.mp (look_some.mpr hp.mem)
    obtain ⟨t1, t2⟩ := hw.tree.at h o ho
    have hval : valD (encE E) (.inl h) = some (encW o) := by rw [val_enc, ho]; rfl
    simp only [dSeq, dNext, dRet, dRetN, dIfS, dAsg, dAsgG, dDrop, dPar2, dPar3, dAug, dAugS, dFor, dOp, dVar, dC, dTest, dChain, dAnd, dOr, dNot, dAndV, dOrV, dNotV, dIf, dTup, dLst, dNil, dCons, dStar, dCB, dCall, dFrz, dSl, dNoPart, dPart, dBM, dRev, dNeg, dIsi, dListRg, dTupRg, dRg1, dRg2, dLc, dIt, dEnum, dZip2, dZip3, dEnZ, dRng1, dRng2, dYes, gN, gT, gsNil, gsCons, gSb, oI, oI0, oAdd, oMulA, oSub, oFdiv, oMod, oPow, oLt, oLe, oGt, oGe, oEq, oNe, oIsN, oNotN, oIsB, oNotB, oIx, oSl, oLen, oSum, oAll, oAny, oAbs, o1I, o2I, oMin2, oMax2, oMin, oMax, oMinL, oMaxL, oInt, oBool, oList, oTuple, oSorted, oSortedT, oSortedD, dSortSet, dDNew, dDOne, oDGet, oDIn, oDSet, keyOD, oIn, oAddI, oGet, oSet, oAppend, oExtend, oPop, oPopAt, oIndexL, oIndexT, oInsert, oRemove, dTupX, dBMX, dLenSet, newL, startD, wipeD, D.tyN, List.map_cons, List.map_nil, List.cons_append, List.nil_append, List.length_cons, List.length_nil, List.getElem?_cons_zero, List.getElem?_cons_succ, List.set_cons_zero, List.set_cons_succ, List.replicate, Nat.sub_self, Nat.reduceSub, Nat.reduceAdd, Nat.zero_add, kb_ii, kb_ib, kb_it, kb_is, kb_bi, kb_bb, kb_bt, kb_bs, kb_tt, kb_ti, kb_ts, kb_ss, kb_si, kb_st, kb_nt, kb_ni, kb_ns, kb_lt, kb_li, kb_ls, ex_some, seq_tup, seq_tpx, itOf_tpx, seq_lst, seq_fz, list_lst, lsts_lst, lsts_fz, itOf_tup, itOf_lst, itOf_fz, now_int, now_bl, now_non, now_str, now_tup, now_lst, isNon_non, isNon_int, isNon_tup, isNon_ref, isNon_lst, isNon_str, isNon_bl, dk_ref f2, hval]
    cases o with
    | none =>
      obtain rfl := t1 rfl
      simp only [encW, dSeq, dNext, dRet, dRetN, dIfS, dAsg, dAsgG, dDrop, dPar2, dPar3, dAug, dAugS, dFor, dOp, dVar, dC, dTest, dChain, dAnd, dOr, dNot, dAndV, dOrV, dNotV, dIf, dTup, dLst, dNil, dCons, dStar, dCB, dCall, dFrz, dSl, dNoPart, dPart, dBM, dRev, dNeg, dIsi, dListRg, dTupRg, dRg1, dRg2, dLc, dIt, dEnum, dZip2, dZip3, dEnZ, dRng1, dRng2, dYes, gN, gT, gsNil, gsCons, gSb, oI, oI0, oAdd, oMulA, oSub, oFdiv, oMod, oPow, oLt, oLe, oGt, oGe, oEq, oNe, oIsN, oNotN, oIsB, oNotB, oIx, oSl, oLen, oSum, oAll, oAny, oAbs, o1I, o2I, oMin2, oMax2, oMin, oMax, oMinL, oMaxL, oInt, oBool, oList, oTuple, oSorted, oSortedT, oSortedD, dSortSet, dDNew, dDOne, oDGet, oDIn, oDSet, keyOD, oIn, oAddI, oGet, oSet, oAppend, oExtend, oPop, oPopAt, oIndexL, oIndexT, oInsert, oRemove, dTupX, dBMX, dLenSet, newL, startD, wipeD, D.tyN, List.map_cons, List.map_nil, List.cons_append, List.nil_append, List.length_cons, List.length_nil, List.getElem?_cons_zero, List.getElem?_cons_succ, List.set_cons_zero, List.set_cons_succ, List.replicate, Nat.sub_self, Nat.reduceSub, Nat.reduceAdd, Nat.zero_add, kb_ii, kb_ib, kb_it, kb_is, kb_bi, kb_bb, kb_bt, kb_bs, kb_tt, kb_ti, kb_ts, kb_ss, kb_si, kb_st, kb_nt, kb_ni, kb_ns, kb_lt, kb_li, kb_ls, ex_some, seq_tup, seq_tpx, itOf_tpx, seq_lst, seq_fz, list_lst, lsts_lst, lsts_fz, itOf_tup, itOf_lst, itOf_fz, now_int, now_bl, now_non, now_str, now_tup, now_lst, isNon_non, isNon_int, isNon_tup, isNon_ref, isNon_lst, isNon_str, isNon_bl, Bool.not_true]
      show v5 _ _ _
      have hLne : L ≠ [] := fun z => by
        have := hp.eff 0
        rw [z, ef, if_pos rfl, if_neg (by omega)] at this
        omega
      have hLl : L.length ≤ 200 := by
        have h1 := nd_few G.length (l := L.map fun e => (e.1 : Int)) (by
          have := cast_nd hp.nd
          rw [List.map_map] at this; exact this) fun x hx => by
            obtain ⟨e, he, rfl⟩ := List.mem_map.mp hx
            have := (hp.ok e he).1
            omega
        rw [List.length_map] at h1
        omega
      subst hv5
      refine seqG fun v6 hv6 => ?_
      simp only [dSeq, dNext, dRet, dRetN, dIfS, dAsg, dAsgG, dDrop, dPar2, dPar3, dAug, dAugS, dFor, dOp, dVar, dC, dTest, dChain, dAnd, dOr, dNot, dAndV, dOrV, dNotV, dIf, dTup, dLst, dNil, dCons, dStar, dCB, dCall, dFrz, dSl, dNoPart, dPart, dBM, dRev, dNeg, dIsi, dListRg, dTupRg, dRg1, dRg2, dLc, dIt, dEnum, dZip2, dZip3, dEnZ, dRng1, dRng2, dYes, gN, gT, gsNil, gsCons, gSb, oI, oI0, oAdd, oMulA, oSub, oFdiv, oMod, oPow, oLt, oLe, oGt, oGe, oEq, oNe, oIsN, oNotN, oIsB, oNotB, oIx, oSl, oLen, oSum, oAll, oAny, oAbs, o1I, o2I, oMin2, oMax2, oMin, oMax, oMinL, oMaxL, oInt, oBool, oList, oTuple, oSorted, oSortedT, oSortedD, dSortSet, dDNew, dDOne, oDGet, oDIn, oDSet, keyOD, oIn, oAddI, oGet, oSet, oAppend, oExtend, oPop, oPopAt, oIndexL, oIndexT, oInsert, oRemove, dTupX, dBMX, dLenSet, newL, startD, wipeD, D.tyN, List.map_cons, List.map_nil, List.cons_append, List.nil_append, List.length_cons, List.length_nil, List.getElem?_cons_zero, List.getElem?_cons_succ, List.set_cons_zero, List.set_cons_succ, List.replicate, Nat.sub_self, Nat.reduceSub, Nat.reduceAdd, Nat.zero_add, kb_ii, kb_ib, kb_it, kb_is, kb_bi, kb_bb, kb_bt, kb_bs, kb_tt, kb_ti, kb_ts, kb_ss, kb_si, kb_st, kb_nt, kb_ni, kb_ns, kb_lt, kb_li, kb_ls, ex_some, seq_tup, seq_tpx, itOf_tpx, seq_lst, seq_fz, list_lst, lsts_lst, lsts_fz, itOf_tup, itOf_lst, itOf_fz, now_int, now_bl, now_non, now_str, now_tup, now_lst, isNon_non, isNon_int, isNon_tup, isNon_ref, isNon_lst, isNon_str, isNon_bl, itOf_ref f1]
      refine lc_mapE L eL (fun e => .int (if e.2 = 1 then (gt G e.1).c - at0 U e.1 else at0 U e.1)) (fun S' e => e _ _ f1) (small (by omega)) (fun e he S' ee N' M' hN' => ?_) ?_
      · have hei := (hp.ok e he).1
        have f3' : S' pu = some (.lst (U.map D.int)) := ee _ _ f3
        simp only [eL, dSeq, dNext, dRet, dRetN, dIfS, dAsg, dAsgG, dDrop, dPar2, dPar3, dAug, dAugS, dFor, dOp, dVar, dC, dTest, dChain, dAnd, dOr, dNot, dAndV, dOrV, dNotV, dIf, dTup, dLst, dNil, dCons, dStar, dCB, dCall, dFrz, dSl, dNoPart, dPart, dBM, dRev, dNeg, dIsi, dListRg, dTupRg, dRg1, dRg2, dLc, dIt, dEnum, dZip2, dZip3, dEnZ, dRng1, dRng2, dYes, gN, gT, gsNil, gsCons, gSb, oI, oI0, oAdd, oMulA, oSub, oFdiv, oMod, oPow, oLt, oLe, oGt, oGe, oEq, oNe, oIsN, oNotN, oIsB, oNotB, oIx, oSl, oLen, oSum, oAll, oAny, oAbs, o1I, o2I, oMin2, oMax2, oMin, oMax, oMinL, oMaxL, oInt, oBool, oList, oTuple, oSorted, oSortedT, oSortedD, dSortSet, dDNew, dDOne, oDGet, oDIn, oDSet, keyOD, oIn, oAddI, oGet, oSet, oAppend, oExtend, oPop, oPopAt, oIndexL, oIndexT, oInsert, oRemove, dTupX, dBMX, dLenSet, newL, startD, wipeD, D.tyN, List.map_cons, List.map_nil, List.cons_append, List.nil_append, List.length_cons, List.length_nil, List.getElem?_cons_zero, List.getElem?_cons_succ, List.set_cons_zero, List.set_cons_succ, List.replicate, Nat.sub_self, Nat.reduceSub, Nat.reduceAdd, Nat.zero_add, kb_ii, kb_ib, kb_it, kb_is, kb_bi, kb_bb, kb_bt, kb_bs, kb_tt, kb_ti, kb_ts, kb_ss, kb_si, kb_st, kb_nt, kb_ni, kb_ns, kb_lt, kb_li, kb_ls, ex_some, seq_tup, seq_tpx, itOf_tpx, seq_lst, seq_fz, list_lst, lsts_lst, lsts_fz, itOf_tup, itOf_lst, itOf_fz, now_int, now_bl, now_non, now_str, now_tup, now_lst, isNon_non, isNon_int, isNon_tup, isNon_ref, isNon_lst, isNon_str, isNon_bl, ix_gt hei, eG, a32, seq_ref f3', ix_at0 (show e.1 < U.length by omega)]
        refine ⟨trivial, ⟨okn_int, okn_int⟩, ?_⟩
        rw [eqD_int]
        by_cases h1 : e.2 = 1
        · rw [decide_eq_true h1]
          rw [if_pos h1] at hN'
          exact hN'
        · rw [decide_eq_false h1]
          rw [if_neg h1] at hN'
          exact hN'
      simp only [dSeq, dNext, dRet, dRetN, dIfS, dAsg, dAsgG, dDrop, dPar2, dPar3, dAug, dAugS, dFor, dOp, dVar, dC, dTest, dChain, dAnd, dOr, dNot, dAndV, dOrV, dNotV, dIf, dTup, dLst, dNil, dCons, dStar, dCB, dCall, dFrz, dSl, dNoPart, dPart, dBM, dRev, dNeg, dIsi, dListRg, dTupRg, dRg1, dRg2, dLc, dIt, dEnum, dZip2, dZip3, dEnZ, dRng1, dRng2, dYes, gN, gT, gsNil, gsCons, gSb, oI, oI0, oAdd, oMulA, oSub, oFdiv, oMod, oPow, oLt, oLe, oGt, oGe, oEq, oNe, oIsN, oNotN, oIsB, oNotB, oIx, oSl, oLen, oSum, oAll, oAny, oAbs, o1I, o2I, oMin2, oMax2, oMin, oMax, oMinL, oMaxL, oInt, oBool, oList, oTuple, oSorted, oSortedT, oSortedD, dSortSet, dDNew, dDOne, oDGet, oDIn, oDSet, keyOD, oIn, oAddI, oGet, oSet, oAppend, oExtend, oPop, oPopAt, oIndexL, oIndexT, oInsert, oRemove, dTupX, dBMX, dLenSet, newL, startD, wipeD, D.tyN, List.map_cons, List.map_nil, List.cons_append, List.nil_append, List.length_cons, List.length_nil, List.getElem?_cons_zero, List.getElem?_cons_succ, List.set_cons_zero, List.set_cons_succ, List.replicate, Nat.sub_self, Nat.reduceSub, Nat.reduceAdd, Nat.zero_add, kb_ii, kb_ib, kb_it, kb_is, kb_bi, kb_bb, kb_bt, kb_bs, kb_tt, kb_ti, kb_ts, kb_ss, kb_si, kb_st, kb_nt, kb_ni, kb_ns, kb_lt, kb_li, kb_ls, ex_some, seq_tup, seq_tpx, itOf_tpx, seq_lst, seq_fz, list_lst, lsts_lst, lsts_fz, itOf_tup, itOf_lst, itOf_fz, now_int, now_bl, now_non, now_str, now_tup, now_lst, isNon_non, isNon_int, isNon_tup, isNon_ref, isNon_lst, isNon_str, isNon_bl]
      have eW : L.map (fun e => D.int (if e.2 = 1 then (gt G e.1).c - at0 U e.1 else at0 U e.1)) = (L.map fun e => if e.2 = 1 then (gt G e.1).c - at0 U e.1 else at0 U e.1).map D.int := by rw [List.map_map]; rfl
      rw [eW]
      refine ⟨⟨fun z => hLne (List.map_eq_nil_iff.mp (List.map_eq_nil_iff.mp z)), okn_ints, akin_ints⟩, fun mD hm1 hm2 => ?_⟩
      obtain ⟨δ, hδ, rfl⟩ := mem_int hm1
      have hall : ∀ e ∈ L, δ ≤ if e.2 = 1 then (gt G e.1).c - at0 U e.1 else at0 U e.1 := fun e he => by
        have := hm2 _ (List.mem_map.mpr ⟨_, List.mem_map.mpr ⟨e, he, rfl⟩, rfl⟩)
        rw [ltD_int] at this
        have := of_decide_eq_false this
        omega
      obtain ⟨e0, he0, hδe⟩ := List.mem_map.mp hδ
      have hok0 := hp.ok e0 he0
      have hcap0 := hf.cap e0.1 hok0.1
      have hc0 := g.c _ (gt_mem hok0.1)
      have hδ1 : 1 ≤ δ ∧ δ ≤ 1000000 := by
        rw [← hδe]
        rcases hok0.2 with ⟨a, b⟩ | ⟨a, b⟩
        · rw [if_pos a]; omega
        · rw [if_neg (by omega)]; omega
      obtain ⟨hfl, hout⟩ := more_flow (δ := δ) hf hp (by omega) (by omega) hall
      have htop := out_top hf
      have htop2 := out_top hfl
      subst hv6
      refine forG fun τ3 hτ3 => ?_
      simp only [dSeq, dNext, dRet, dRetN, dIfS, dAsg, dAsgG, dDrop, dPar2, dPar3, dAug, dAugS, dFor, dOp, dVar, dC, dTest, dChain, dAnd, dOr, dNot, dAndV, dOrV, dNotV, dIf, dTup, dLst, dNil, dCons, dStar, dCB, dCall, dFrz, dSl, dNoPart, dPart, dBM, dRev, dNeg, dIsi, dListRg, dTupRg, dRg1, dRg2, dLc, dIt, dEnum, dZip2, dZip3, dEnZ, dRng1, dRng2, dYes, gN, gT, gsNil, gsCons, gSb, oI, oI0, oAdd, oMulA, oSub, oFdiv, oMod, oPow, oLt, oLe, oGt, oGe, oEq, oNe, oIsN, oNotN, oIsB, oNotB, oIx, oSl, oLen, oSum, oAll, oAny, oAbs, o1I, o2I, oMin2, oMax2, oMin, oMax, oMinL, oMaxL, oInt, oBool, oList, oTuple, oSorted, oSortedT, oSortedD, dSortSet, dDNew, dDOne, oDGet, oDIn, oDSet, keyOD, oIn, oAddI, oGet, oSet, oAppend, oExtend, oPop, oPopAt, oIndexL, oIndexT, oInsert, oRemove, dTupX, dBMX, dLenSet, newL, startD, wipeD, D.tyN, List.map_cons, List.map_nil, List.cons_append, List.nil_append, List.length_cons, List.length_nil, List.getElem?_cons_zero, List.getElem?_cons_succ, List.set_cons_zero, List.set_cons_succ, List.replicate, Nat.sub_self, Nat.reduceSub, Nat.reduceAdd, Nat.zero_add, kb_ii, kb_ib, kb_it, kb_is, kb_bi, kb_bb, kb_bt, kb_bs, kb_tt, kb_ti, kb_ts, kb_ss, kb_si, kb_st, kb_nt, kb_ni, kb_ns, kb_lt, kb_li, kb_ls, ex_some, seq_tup, seq_tpx, itOf_tpx, seq_lst, seq_fz, list_lst, lsts_lst, lsts_fz, itOf_tup, itOf_lst, itOf_fz, now_int, now_bl, now_non, now_str, now_tup, now_lst, isNon_non, isNon_int, isNon_tup, isNon_ref, isNon_lst, isNon_str, isNon_bl, itOf_ref f1]
      refine ⟨f1, ?_⟩
      refine loopD_invE (α := Nat × Int) eL (fun xs ρ S' => ∃ o7 o8 L0, ρ = [some (D.tup (G.map eG)), some (.int 0), some (.int (R - 1)), some (.ref pu), some (.ref pw), some (.ref pp), some (.int 0), o7, o8, some (.int δ)] ∧ L0 ++ xs = L ∧ S' = (S1.up pp (.lst (L.map eL))).up pu (.lst ((app δ L0 U).map D.int))) ?_ ?_ _ _ _
        ⟨o7, o8, [], rfl, rfl, by
          funext a
          by_cases e : a = pu
          · subst e; rw [Sto.up_same, f3]; rfl
          · rw [Sto.up_ne e]⟩ f1
      · rintro e xs ρ S' ⟨o7, o8, L0, rfl, hL0, rfl⟩ _ N hN
        have he : e ∈ L := by rw [← hL0]; simp
        have hei := (hp.ok e he).1
        have hlen : (app δ L0 U).length = G.length := by rw [app_len, hU]
        have f4 : ((S1.up pp (.lst (L.map eL))).up pu (.lst ((app δ L0 U).map D.int))) pu = some (.lst ((app δ L0 U).map D.int)) := Sto.up_same
        subst hτ3
        simp only [gN, gT, gsCons, gsNil, eL, List.set_cons_zero, List.set_cons_succ]
        refine ⟨rfl, ?_⟩
        have cm : CMul' e.2 δ := cmul_small (n := 1) (m := 1000000) (by rcases (hp.ok e he).2 with h | h <;> rw [h.1] <;> decide) (by omega) (by decide +kernel) (by decide +kernel)
        simp only [dSeq, dNext, dRet, dRetN, dIfS, dAsg, dAsgG, dDrop, dPar2, dPar3, dAug, dAugS, dFor, dOp, dVar, dC, dTest, dChain, dAnd, dOr, dNot, dAndV, dOrV, dNotV, dIf, dTup, dLst, dNil, dCons, dStar, dCB, dCall, dFrz, dSl, dNoPart, dPart, dBM, dRev, dNeg, dIsi, dListRg, dTupRg, dRg1, dRg2, dLc, dIt, dEnum, dZip2, dZip3, dEnZ, dRng1, dRng2, dYes, gN, gT, gsNil, gsCons, gSb, oI, oI0, oAdd, oMulA, oSub, oFdiv, oMod, oPow, oLt, oLe, oGt, oGe, oEq, oNe, oIsN, oNotN, oIsB, oNotB, oIx, oSl, oLen, oSum, oAll, oAny, oAbs, o1I, o2I, oMin2, oMax2, oMin, oMax, oMinL, oMaxL, oInt, oBool, oList, oTuple, oSorted, oSortedT, oSortedD, dSortSet, dDNew, dDOne, oDGet, oDIn, oDSet, keyOD, oIn, oAddI, oGet, oSet, oAppend, oExtend, oPop, oPopAt, oIndexL, oIndexT, oInsert, oRemove, dTupX, dBMX, dLenSet, newL, startD, wipeD, D.tyN, List.map_cons, List.map_nil, List.cons_append, List.nil_append, List.length_cons, List.length_nil, List.getElem?_cons_zero, List.getElem?_cons_succ, List.set_cons_zero, List.set_cons_succ, List.replicate, Nat.sub_self, Nat.reduceSub, Nat.reduceAdd, Nat.zero_add, kb_ii, kb_ib, kb_it, kb_is, kb_bi, kb_bb, kb_bt, kb_bs, kb_tt, kb_ti, kb_ts, kb_ss, kb_si, kb_st, kb_nt, kb_ni, kb_ns, kb_lt, kb_li, kb_ls, ex_some, seq_tup, seq_tpx, itOf_tpx, seq_lst, seq_fz, list_lst, lsts_lst, lsts_fz, itOf_tup, itOf_lst, itOf_fz, now_int, now_bl, now_non, now_str, now_tup, now_lst, isNon_non, isNon_int, isNon_tup, isNon_ref, isNon_lst, isNon_str, isNon_bl, lsts_ref f4, f4, ix_at0 (show e.1 < (app δ L0 U).length by omega)]
        refine ⟨cm, e.1, by rw [ixN_nn (by omega) (by rw [List.length_map]; omega), Int.toNat_natCast], ?_⟩
        rw [Sto.up_up, ← List.map_set]
        refine hN _ _ ?_ ⟨_, _, L0 ++ [e], rfl, by rw [List.append_assoc]; exact hL0, by rw [app_snoc]⟩
        rw [Sto.up_ne (Ne.symm hup)]; exact Sto.up_same
      · rintro ρ S' ⟨o7, o8, L0, rfl, hL0, rfl⟩
        rw [List.append_nil] at hL0
        subst hL0
        refine ⟨_, ?_, _, _, _, _, _, _, app δ L0 U, rfl, ?_, Sto.up_same, hfl, rfl⟩
        · omega
        · exact (hE1.set hpp0).set hpu
    | some iw =>
      obtain ⟨i, w⟩ := iw
      obtain ⟨hway, hlt⟩ := t2 i w rfl
      simp only [encW, dSeq, dNext, dRet, dRetN, dIfS, dAsg, dAsgG, dDrop, dPar2, dPar3, dAug, dAugS, dFor, dOp, dVar, dC, dTest, dChain, dAnd, dOr, dNot, dAndV, dOrV, dNotV, dIf, dTup, dLst, dNil, dCons, dStar, dCB, dCall, dFrz, dSl, dNoPart, dPart, dBM, dRev, dNeg, dIsi, dListRg, dTupRg, dRg1, dRg2, dLc, dIt, dEnum, dZip2, dZip3, dEnZ, dRng1, dRng2, dYes, gN, gT, gsNil, gsCons, gSb, oI, oI0, oAdd, oMulA, oSub, oFdiv, oMod, oPow, oLt, oLe, oGt, oGe, oEq, oNe, oIsN, oNotN, oIsB, oNotB, oIx, oSl, oLen, oSum, oAll, oAny, oAbs, o1I, o2I, oMin2, oMax2, oMin, oMax, oMinL, oMaxL, oInt, oBool, oList, oTuple, oSorted, oSortedT, oSortedD, dSortSet, dDNew, dDOne, oDGet, oDIn, oDSet, keyOD, oIn, oAddI, oGet, oSet, oAppend, oExtend, oPop, oPopAt, oIndexL, oIndexT, oInsert, oRemove, dTupX, dBMX, dLenSet, newL, startD, wipeD, D.tyN, List.map_cons, List.map_nil, List.cons_append, List.nil_append, List.length_cons, List.length_nil, List.getElem?_cons_zero, List.getElem?_cons_succ, List.set_cons_zero, List.set_cons_succ, List.replicate, Nat.sub_self, Nat.reduceSub, Nat.reduceAdd, Nat.zero_add, kb_ii, kb_ib, kb_it, kb_is, kb_bi, kb_bb, kb_bt, kb_bs, kb_tt, kb_ti, kb_ts, kb_ss, kb_si, kb_st, kb_nt, kb_ni, kb_ns, kb_lt, kb_li, kb_ls, ex_some, seq_tup, seq_tpx, itOf_tpx, seq_lst, seq_fz, list_lst, lsts_lst, lsts_fz, itOf_tup, itOf_lst, itOf_fz, now_int, now_bl, now_non, now_str, now_tup, now_lst, isNon_non, isNon_int, isNon_tup, isNon_ref, isNon_lst, isNon_str, isNon_bl, Bool.not_false]
      subst hτ2
      refine seqG fun v6 hv6 => ?_
      simp only [dSeq, dNext, dRet, dRetN, dIfS, dAsg, dAsgG, dDrop, dPar2, dPar3, dAug, dAugS, dFor, dOp, dVar, dC, dTest, dChain, dAnd, dOr, dNot, dAndV, dOrV, dNotV, dIf, dTup, dLst, dNil, dCons, dStar, dCB, dCall, dFrz, dSl, dNoPart, dPart, dBM, dRev, dNeg, dIsi, dListRg, dTupRg, dRg1, dRg2, dLc, dIt, dEnum, dZip2, dZip3, dEnZ, dRng1, dRng2, dYes, gN, gT, gsNil, gsCons, gSb, oI, oI0, oAdd, oMulA, oSub, oFdiv, oMod, oPow, oLt, oLe, oGt, oGe, oEq, oNe, oIsN, oNotN, oIsB, oNotB, oIx, oSl, oLen, oSum, oAll, oAny, oAbs, o1I, o2I, oMin2, oMax2, oMin, oMax, oMinL, oMaxL, oInt, oBool, oList, oTuple, oSorted, oSortedT, oSortedD, dSortSet, dDNew, dDOne, oDGet, oDIn, oDSet, keyOD, oIn, oAddI, oGet, oSet, oAppend, oExtend, oPop, oPopAt, oIndexL, oIndexT, oInsert, oRemove, dTupX, dBMX, dLenSet, newL, startD, wipeD, D.tyN, List.map_cons, List.map_nil, List.cons_append, List.nil_append, List.length_cons, List.length_nil, List.getElem?_cons_zero, List.getElem?_cons_succ, List.set_cons_zero, List.set_cons_succ, List.replicate, Nat.sub_self, Nat.reduceSub, Nat.reduceAdd, Nat.zero_add, kb_ii, kb_ib, kb_it, kb_is, kb_bi, kb_bb, kb_bt, kb_bs, kb_tt, kb_ti, kb_ts, kb_ss, kb_si, kb_st, kb_nt, kb_ni, kb_ns, kb_lt, kb_li, kb_ls, ex_some, seq_tup, seq_tpx, itOf_tpx, seq_lst, seq_fz, list_lst, lsts_lst, lsts_fz, itOf_tup, itOf_lst, itOf_fz, now_int, now_bl, now_non, now_str, now_tup, now_lst, isNon_non, isNon_int, isNon_tup, isNon_ref, isNon_lst, isNon_str, isNon_bl, dk_ref f2, hval, encW]
      refine ⟨trivial, ?_⟩
      have hw1 : w = 1 ∨ w = -1 := hway.2.imp (fun z => z.1) fun z => z.1
      have hiG := hway.1
      have hst := hp.step hway hlt
      have hLl : L.length ≤ 200 := by
        have h1 := nd_few G.length (l := L.map fun e => (e.1 : Int)) (by
          have := cast_nd hp.nd
          rw [List.map_map] at this; exact this) fun x hx => by
            obtain ⟨e, he, rfl⟩ := List.mem_map.mp hx
            have := (hp.ok e he).1
            omega
        rw [List.length_map] at h1
        omega
      subst hv6
      refine seqG fun v7 hv7 => ?_
      simp only [dSeq, dNext, dRet, dRetN, dIfS, dAsg, dAsgG, dDrop, dPar2, dPar3, dAug, dAugS, dFor, dOp, dVar, dC, dTest, dChain, dAnd, dOr, dNot, dAndV, dOrV, dNotV, dIf, dTup, dLst, dNil, dCons, dStar, dCB, dCall, dFrz, dSl, dNoPart, dPart, dBM, dRev, dNeg, dIsi, dListRg, dTupRg, dRg1, dRg2, dLc, dIt, dEnum, dZip2, dZip3, dEnZ, dRng1, dRng2, dYes, gN, gT, gsNil, gsCons, gSb, oI, oI0, oAdd, oMulA, oSub, oFdiv, oMod, oPow, oLt, oLe, oGt, oGe, oEq, oNe, oIsN, oNotN, oIsB, oNotB, oIx, oSl, oLen, oSum, oAll, oAny, oAbs, o1I, o2I, oMin2, oMax2, oMin, oMax, oMinL, oMaxL, oInt, oBool, oList, oTuple, oSorted, oSortedT, oSortedD, dSortSet, dDNew, dDOne, oDGet, oDIn, oDSet, keyOD, oIn, oAddI, oGet, oSet, oAppend, oExtend, oPop, oPopAt, oIndexL, oIndexT, oInsert, oRemove, dTupX, dBMX, dLenSet, newL, startD, wipeD, D.tyN, List.map_cons, List.map_nil, List.cons_append, List.nil_append, List.length_cons, List.length_nil, List.getElem?_cons_zero, List.getElem?_cons_succ, List.set_cons_zero, List.set_cons_succ, List.replicate, Nat.sub_self, Nat.reduceSub, Nat.reduceAdd, Nat.zero_add, kb_ii, kb_ib, kb_it, kb_is, kb_bi, kb_bb, kb_bt, kb_bs, kb_tt, kb_ti, kb_ts, kb_ss, kb_si, kb_st, kb_nt, kb_ni, kb_ns, kb_lt, kb_li, kb_ls, ex_some, seq_tup, seq_tpx, itOf_tpx, seq_lst, seq_fz, list_lst, lsts_lst, lsts_fz, itOf_tup, itOf_lst, itOf_fz, now_int, now_bl, now_non, now_str, now_tup, now_lst, isNon_non, isNon_int, isNon_tup, isNon_ref, isNon_lst, isNon_str, isNon_bl, list_ref f1, trk_ref f1]
      refine ⟨⟨_, rfl⟩, small (by decide), by rw [List.length_map, sizeLine_eq]; omega, ?_⟩
      rw [Sto.up_up]
      have fin : ∀ o7 o8 : Option D, ∃ m', m' < ix E h ∧ ∃ o7' o8' h' L', [some (D.tup (G.map eG)), some (.int 0), some (.int (R - 1)), some (.ref pu), some (.ref pw), some (.ref pp), some (.int (par G (i, w))), o7, o8, o9] = [some (D.tup (G.map eG)), some (.int 0), some (.int (R - 1)), some (.ref pu), some (.ref pw), some (.ref pp), some (.int h'), o7', o8', o9] ∧ (S1.up pp (.lst (L.map eL ++ [D.tup [.int (i : Nat), .int w]]))) = S1.up pp (.lst (L'.map eL)) ∧ PathI G U E (R - 1) h' L' ∧ m' = ix E h' := fun o7 o8 =>
        ⟨_, hlt, o7, o8, _, L ++ [(i, w)], rfl, by rw [List.map_append]; rfl, hst, rfl⟩
      subst hv7
      simp only [dSeq, dNext, dRet, dRetN, dIfS, dAsg, dAsgG, dDrop, dPar2, dPar3, dAug, dAugS, dFor, dOp, dVar, dC, dTest, dChain, dAnd, dOr, dNot, dAndV, dOrV, dNotV, dIf, dTup, dLst, dNil, dCons, dStar, dCB, dCall, dFrz, dSl, dNoPart, dPart, dBM, dRev, dNeg, dIsi, dListRg, dTupRg, dRg1, dRg2, dLc, dIt, dEnum, dZip2, dZip3, dEnZ, dRng1, dRng2, dYes, gN, gT, gsNil, gsCons, gSb, oI, oI0, oAdd, oMulA, oSub, oFdiv, oMod, oPow, oLt, oLe, oGt, oGe, oEq, oNe, oIsN, oNotN, oIsB, oNotB, oIx, oSl, oLen, oSum, oAll, oAny, oAbs, o1I, o2I, oMin2, oMax2, oMin, oMax, oMinL, oMaxL, oInt, oBool, oList, oTuple, oSorted, oSortedT, oSortedD, dSortSet, dDNew, dDOne, oDGet, oDIn, oDSet, keyOD, oIn, oAddI, oGet, oSet, oAppend, oExtend, oPop, oPopAt, oIndexL, oIndexT, oInsert, oRemove, dTupX, dBMX, dLenSet, newL, startD, wipeD, D.tyN, List.map_cons, List.map_nil, List.cons_append, List.nil_append, List.length_cons, List.length_nil, List.getElem?_cons_zero, List.getElem?_cons_succ, List.set_cons_zero, List.set_cons_succ, List.replicate, Nat.sub_self, Nat.reduceSub, Nat.reduceAdd, Nat.zero_add, kb_ii, kb_ib, kb_it, kb_is, kb_bi, kb_bb, kb_bt, kb_bs, kb_tt, kb_ti, kb_ts, kb_ss, kb_si, kb_st, kb_nt, kb_ni, kb_ns, kb_lt, kb_li, kb_ls, ex_some, seq_tup, seq_tpx, itOf_tpx, seq_lst, seq_fz, list_lst, lsts_lst, lsts_fz, itOf_tup, itOf_lst, itOf_fz, now_int, now_bl, now_non, now_str, now_tup, now_lst, isNon_non, isNon_int, isNon_tup, isNon_ref, isNon_lst, isNon_str, isNon_bl, ix_gt hiG, eG, a20, a30, a31]
      refine ⟨⟨okn_int, okn_int⟩, ?_⟩
      rw [eqD_int]
      have hpar : par G (i, w) = if w = 1 then (gt G i).a else (gt G i).b := rfl
      rcases hw1 with rfl | rfl
      · rw [decide_eq_true rfl]
        rw [hpar, if_pos rfl] at fin
        exact fin _ _
      · rw [decide_eq_false (by decide)]
        rw [hpar, if_neg (by decide)] at fin
        exact fin _ _
  · rw [decide_eq_false hg]
    simp only [Bool.not_false]
    refine ⟨small (by decide), ?_⟩
    refine FzQ.ext (S := (S0.up pu (.lst (U.map D.int))).up pw (.dK (encE E))) (fun a u h => ?_) (q U E pu pw ⟨hf, hw, hg⟩ huw hpu hpw0)
    by_cases e : a = pw
    · subst e; rw [Sto.up_same] at h; rw [hSw]; exact h
    · rw [Sto.up_ne e] at h
      by_cases e2 : a = pu
      · subst e2; rw [Sto.up_same] at h; rw [hSu1]; exact h
      · rw [Sto.up_ne e2] at h
        rw [Sto.up_ne e]; exact hE a u h
end L47
namespace L47
open PySem PySem.Spec PySem.W PyProof.Rows L2 PL
theorem inB_true {lo hi : Int} {xs : List Int} (h : ∀ x ∈ xs, lo ≤ x ∧ x ≤ hi) : inB lo hi xs = true := List.all_eq_true.mpr fun x hx => by
  have := h x hx
  simp [this.1, this.2]
theorem all_true {α : Type} (l : List α) : (l.map fun _ => true).all id = true := by rw [List.all_map]; exact List.all_eq_true.mpr fun _ _ => rfl
def sp_are_gates : DSp := fun ds S Q => ∃ (G : List Gate) (R : Int), ds = [.int R, .tup (G.map eG)] ∧ GG R G ∧ Q (.bl true) S
theorem pure_are_gates : ∀ ds S Q, sp_are_gates ds S Q → t_are_gates sp_are_ints (DeN Q) (startD N_are_gates ds) S := by
  rintro ds S Q ⟨G, R, rfl, g, q⟩
  have hn := g.n
  have hR := g.R
  unfold t_are_gates
  refine seqG fun v1 hv1 => ?_
  simp only [dSeq, dNext, dRet, dRetN, dIfS, dAsg, dAsgG, dDrop, dPar2, dPar3, dAug, dAugS, dFor, dOp, dVar, dC, dTest, dChain, dAnd, dOr, dNot, dAndV, dOrV, dNotV, dIf, dTup, dLst, dNil, dCons, dStar, dCB, dCall, dFrz, dSl, dNoPart, dPart, dBM, dRev, dNeg, dIsi, dListRg, dTupRg, dRg1, dRg2, dLc, dIt, dEnum, dZip2, dZip3, dEnZ, dRng1, dRng2, dYes, gN, gT, gsNil, gsCons, gSb, oI, oI0, oAdd, oMulA, oSub, oFdiv, oMod, oPow, oLt, oLe, oGt, oGe, oEq, oNe, oIsN, oNotN, oIsB, oNotB, oIx, oSl, oLen, oSum, oAll, oAny, oAbs, o1I, o2I, oMin2, oMax2, oMin, oMax, oMinL, oMaxL, oInt, oBool, oList, oTuple, oSorted, oSortedT, oSortedD, dSortSet, dDNew, dDOne, oDGet, oDIn, oDSet, keyOD, oIn, oAddI, oGet, oSet, oAppend, oExtend, oPop, oPopAt, oIndexL, oIndexT, oInsert, oRemove, dTupX, dBMX, dLenSet, newL, startD, wipeD, D.tyN, List.map_cons, List.map_nil, List.cons_append, List.nil_append, List.length_cons, List.length_nil, List.getElem?_cons_zero, List.getElem?_cons_succ, List.set_cons_zero, List.set_cons_succ, List.replicate, Nat.sub_self, Nat.reduceSub, Nat.reduceAdd, Nat.zero_add, kb_ii, kb_ib, kb_it, kb_is, kb_bi, kb_bb, kb_bt, kb_bs, kb_tt, kb_ti, kb_ts, kb_ss, kb_si, kb_st, kb_nt, kb_ni, kb_ns, kb_lt, kb_li, kb_ls, ex_some, seq_tup, seq_tpx, itOf_tpx, seq_lst, seq_fz, list_lst, lsts_lst, lsts_fz, itOf_tup, itOf_lst, itOf_fz, now_int, now_bl, now_non, now_str, now_tup, now_lst, isNon_non, isNon_int, isNon_tup, isNon_ref, isNon_lst, isNon_str, isNon_bl, List.length_map]
  rw [decide_eq_false (by omega)]
  simp only []
  subst hv1
  refine seqG fun v2 hv2 => ?_
  simp only [dSeq, dNext, dRet, dRetN, dIfS, dAsg, dAsgG, dDrop, dPar2, dPar3, dAug, dAugS, dFor, dOp, dVar, dC, dTest, dChain, dAnd, dOr, dNot, dAndV, dOrV, dNotV, dIf, dTup, dLst, dNil, dCons, dStar, dCB, dCall, dFrz, dSl, dNoPart, dPart, dBM, dRev, dNeg, dIsi, dListRg, dTupRg, dRg1, dRg2, dLc, dIt, dEnum, dZip2, dZip3, dEnZ, dRng1, dRng2, dYes, gN, gT, gsNil, gsCons, gSb, oI, oI0, oAdd, oMulA, oSub, oFdiv, oMod, oPow, oLt, oLe, oGt, oGe, oEq, oNe, oIsN, oNotN, oIsB, oNotB, oIx, oSl, oLen, oSum, oAll, oAny, oAbs, o1I, o2I, oMin2, oMax2, oMin, oMax, oMinL, oMaxL, oInt, oBool, oList, oTuple, oSorted, oSortedT, oSortedD, dSortSet, dDNew, dDOne, oDGet, oDIn, oDSet, keyOD, oIn, oAddI, oGet, oSet, oAppend, oExtend, oPop, oPopAt, oIndexL, oIndexT, oInsert, oRemove, dTupX, dBMX, dLenSet, newL, startD, wipeD, D.tyN, List.map_cons, List.map_nil, List.cons_append, List.nil_append, List.length_cons, List.length_nil, List.getElem?_cons_zero, List.getElem?_cons_succ, List.set_cons_zero, List.set_cons_succ, List.replicate, Nat.sub_self, Nat.reduceSub, Nat.reduceAdd, Nat.zero_add, kb_ii, kb_ib, kb_it, kb_is, kb_bi, kb_bb, kb_bt, kb_bs, kb_tt, kb_ti, kb_ts, kb_ss, kb_si, kb_st, kb_nt, kb_ni, kb_ns, kb_lt, kb_li, kb_ls, ex_some, seq_tup, seq_tpx, itOf_tpx, seq_lst, seq_fz, list_lst, lsts_lst, lsts_fz, itOf_tup, itOf_lst, itOf_fz, now_int, now_bl, now_non, now_str, now_tup, now_lst, isNon_non, isNon_int, isNon_tup, isNon_ref, isNon_lst, isNon_str, isNon_bl]
  refine lc_mapE G eG (fun _ => .bl true) (fun _ _ => trivial) (small (by omega)) (fun x hx S' e N M h => ?_) ?_
  · have hr := g.r x hx
    have hc := g.c x hx
    simp only [dSeq, dNext, dRet, dRetN, dIfS, dAsg, dAsgG, dDrop, dPar2, dPar3, dAug, dAugS, dFor, dOp, dVar, dC, dTest, dChain, dAnd, dOr, dNot, dAndV, dOrV, dNotV, dIf, dTup, dLst, dNil, dCons, dStar, dCB, dCall, dFrz, dSl, dNoPart, dPart, dBM, dRev, dNeg, dIsi, dListRg, dTupRg, dRg1, dRg2, dLc, dIt, dEnum, dZip2, dZip3, dEnZ, dRng1, dRng2, dYes, gN, gT, gsNil, gsCons, gSb, oI, oI0, oAdd, oMulA, oSub, oFdiv, oMod, oPow, oLt, oLe, oGt, oGe, oEq, oNe, oIsN, oNotN, oIsB, oNotB, oIx, oSl, oLen, oSum, oAll, oAny, oAbs, o1I, o2I, oMin2, oMax2, oMin, oMax, oMinL, oMaxL, oInt, oBool, oList, oTuple, oSorted, oSortedT, oSortedD, dSortSet, dDNew, dDOne, oDGet, oDIn, oDSet, keyOD, oIn, oAddI, oGet, oSet, oAppend, oExtend, oPop, oPopAt, oIndexL, oIndexT, oInsert, oRemove, dTupX, dBMX, dLenSet, newL, startD, wipeD, D.tyN, List.map_cons, List.map_nil, List.cons_append, List.nil_append, List.length_cons, List.length_nil, List.getElem?_cons_zero, List.getElem?_cons_succ, List.set_cons_zero, List.set_cons_succ, List.replicate, Nat.sub_self, Nat.reduceSub, Nat.reduceAdd, Nat.zero_add, kb_ii, kb_ib, kb_it, kb_is, kb_bi, kb_bb, kb_bt, kb_bs, kb_tt, kb_ti, kb_ts, kb_ss, kb_si, kb_st, kb_nt, kb_ni, kb_ns, kb_lt, kb_li, kb_ls, ex_some, seq_tup, seq_tpx, itOf_tpx, seq_lst, seq_fz, list_lst, lsts_lst, lsts_fz, itOf_tup, itOf_lst, itOf_fz, now_int, now_bl, now_non, now_str, now_tup, now_lst, isNon_non, isNon_int, isNon_tup, isNon_ref, isNon_lst, isNon_str, isNon_bl, eG]
    refine ⟨[x.a, x.b, x.c], 0, 1000000, rfl, small (by simp), ?_⟩
    rw [inB_true (fun y hy => by
      rcases List.mem_cons.mp hy with rfl | hy
      · omega
      · rcases List.mem_cons.mp hy with rfl | hy
        · omega
        · rw [List.mem_singleton.mp hy]; exact hc)]
    simp only [dSeq, dNext, dRet, dRetN, dIfS, dAsg, dAsgG, dDrop, dPar2, dPar3, dAug, dAugS, dFor, dOp, dVar, dC, dTest, dChain, dAnd, dOr, dNot, dAndV, dOrV, dNotV, dIf, dTup, dLst, dNil, dCons, dStar, dCB, dCall, dFrz, dSl, dNoPart, dPart, dBM, dRev, dNeg, dIsi, dListRg, dTupRg, dRg1, dRg2, dLc, dIt, dEnum, dZip2, dZip3, dEnZ, dRng1, dRng2, dYes, gN, gT, gsNil, gsCons, gSb, oI, oI0, oAdd, oMulA, oSub, oFdiv, oMod, oPow, oLt, oLe, oGt, oGe, oEq, oNe, oIsN, oNotN, oIsB, oNotB, oIx, oSl, oLen, oSum, oAll, oAny, oAbs, o1I, o2I, oMin2, oMax2, oMin, oMax, oMinL, oMaxL, oInt, oBool, oList, oTuple, oSorted, oSortedT, oSortedD, dSortSet, dDNew, dDOne, oDGet, oDIn, oDSet, keyOD, oIn, oAddI, oGet, oSet, oAppend, oExtend, oPop, oPopAt, oIndexL, oIndexT, oInsert, oRemove, dTupX, dBMX, dLenSet, newL, startD, wipeD, D.tyN, List.map_cons, List.map_nil, List.cons_append, List.nil_append, List.length_cons, List.length_nil, List.getElem?_cons_zero, List.getElem?_cons_succ, List.set_cons_zero, List.set_cons_succ, List.replicate, Nat.sub_self, Nat.reduceSub, Nat.reduceAdd, Nat.zero_add, kb_ii, kb_ib, kb_it, kb_is, kb_bi, kb_bb, kb_bt, kb_bs, kb_tt, kb_ti, kb_ts, kb_ss, kb_si, kb_st, kb_nt, kb_ni, kb_ns, kb_lt, kb_li, kb_ls, ex_some, seq_tup, seq_tpx, itOf_tpx, seq_lst, seq_fz, list_lst, lsts_lst, lsts_fz, itOf_tup, itOf_lst, itOf_fz, now_int, now_bl, now_non, now_str, now_tup, now_lst, isNon_non, isNon_int, isNon_tup, isNon_ref, isNon_lst, isNon_str, isNon_bl]
    refine ⟨⟨okn_int, okn_int⟩, ?_⟩
    rw [eqD_int]
    exact h
  simp only [dSeq, dNext, dRet, dRetN, dIfS, dAsg, dAsgG, dDrop, dPar2, dPar3, dAug, dAugS, dFor, dOp, dVar, dC, dTest, dChain, dAnd, dOr, dNot, dAndV, dOrV, dNotV, dIf, dTup, dLst, dNil, dCons, dStar, dCB, dCall, dFrz, dSl, dNoPart, dPart, dBM, dRev, dNeg, dIsi, dListRg, dTupRg, dRg1, dRg2, dLc, dIt, dEnum, dZip2, dZip3, dEnZ, dRng1, dRng2, dYes, gN, gT, gsNil, gsCons, gSb, oI, oI0, oAdd, oMulA, oSub, oFdiv, oMod, oPow, oLt, oLe, oGt, oGe, oEq, oNe, oIsN, oNotN, oIsB, oNotB, oIx, oSl, oLen, oSum, oAll, oAny, oAbs, o1I, o2I, oMin2, oMax2, oMin, oMax, oMinL, oMaxL, oInt, oBool, oList, oTuple, oSorted, oSortedT, oSortedD, dSortSet, dDNew, dDOne, oDGet, oDIn, oDSet, keyOD, oIn, oAddI, oGet, oSet, oAppend, oExtend, oPop, oPopAt, oIndexL, oIndexT, oInsert, oRemove, dTupX, dBMX, dLenSet, newL, startD, wipeD, D.tyN, List.map_cons, List.map_nil, List.cons_append, List.nil_append, List.length_cons, List.length_nil, List.getElem?_cons_zero, List.getElem?_cons_succ, List.set_cons_zero, List.set_cons_succ, List.replicate, Nat.sub_self, Nat.reduceSub, Nat.reduceAdd, Nat.zero_add, kb_ii, kb_ib, kb_it, kb_is, kb_bi, kb_bb, kb_bt, kb_bs, kb_tt, kb_ti, kb_ts, kb_ss, kb_si, kb_st, kb_nt, kb_ni, kb_ns, kb_lt, kb_li, kb_ls, ex_some, seq_tup, seq_tpx, itOf_tpx, seq_lst, seq_fz, list_lst, lsts_lst, lsts_fz, itOf_tup, itOf_lst, itOf_fz, now_int, now_bl, now_non, now_str, now_tup, now_lst, isNon_non, isNon_int, isNon_tup, isNon_ref, isNon_lst, isNon_str, isNon_bl]
  refine ⟨G.map fun _ => true, by rw [List.map_map]; rfl, ?_⟩
  rw [all_true]
  simp only [Bool.not_true]
  subst hv2
  simp only [dSeq, dNext, dRet, dRetN, dIfS, dAsg, dAsgG, dDrop, dPar2, dPar3, dAug, dAugS, dFor, dOp, dVar, dC, dTest, dChain, dAnd, dOr, dNot, dAndV, dOrV, dNotV, dIf, dTup, dLst, dNil, dCons, dStar, dCB, dCall, dFrz, dSl, dNoPart, dPart, dBM, dRev, dNeg, dIsi, dListRg, dTupRg, dRg1, dRg2, dLc, dIt, dEnum, dZip2, dZip3, dEnZ, dRng1, dRng2, dYes, gN, gT, gsNil, gsCons, gSb, oI, oI0, oAdd, oMulA, oSub, oFdiv, oMod, oPow, oLt, oLe, oGt, oGe, oEq, oNe, oIsN, oNotN, oIsB, oNotB, oIx, oSl, oLen, oSum, oAll, oAny, oAbs, o1I, o2I, oMin2, oMax2, oMin, oMax, oMinL, oMaxL, oInt, oBool, oList, oTuple, oSorted, oSortedT, oSortedD, dSortSet, dDNew, dDOne, oDGet, oDIn, oDSet, keyOD, oIn, oAddI, oGet, oSet, oAppend, oExtend, oPop, oPopAt, oIndexL, oIndexT, oInsert, oRemove, dTupX, dBMX, dLenSet, newL, startD, wipeD, D.tyN, List.map_cons, List.map_nil, List.cons_append, List.nil_append, List.length_cons, List.length_nil, List.getElem?_cons_zero, List.getElem?_cons_succ, List.set_cons_zero, List.set_cons_succ, List.replicate, Nat.sub_self, Nat.reduceSub, Nat.reduceAdd, Nat.zero_add, kb_ii, kb_ib, kb_it, kb_is, kb_bi, kb_bb, kb_bt, kb_bs, kb_tt, kb_ti, kb_ts, kb_ss, kb_si, kb_st, kb_nt, kb_ni, kb_ns, kb_lt, kb_li, kb_ls, ex_some, seq_tup, seq_tpx, itOf_tpx, seq_lst, seq_fz, list_lst, lsts_lst, lsts_fz, itOf_tup, itOf_lst, itOf_fz, now_int, now_bl, now_non, now_str, now_tup, now_lst, isNon_non, isNon_int, isNon_tup, isNon_ref, isNon_lst, isNon_str, isNon_bl]
  refine lc_mapE G eG (fun _ => .bl true) (fun _ _ => trivial) (small (by omega)) (fun x hx S' e N M h => ?_) ?_
  · have hr := g.r x hx
    simp only [dSeq, dNext, dRet, dRetN, dIfS, dAsg, dAsgG, dDrop, dPar2, dPar3, dAug, dAugS, dFor, dOp, dVar, dC, dTest, dChain, dAnd, dOr, dNot, dAndV, dOrV, dNotV, dIf, dTup, dLst, dNil, dCons, dStar, dCB, dCall, dFrz, dSl, dNoPart, dPart, dBM, dRev, dNeg, dIsi, dListRg, dTupRg, dRg1, dRg2, dLc, dIt, dEnum, dZip2, dZip3, dEnZ, dRng1, dRng2, dYes, gN, gT, gsNil, gsCons, gSb, oI, oI0, oAdd, oMulA, oSub, oFdiv, oMod, oPow, oLt, oLe, oGt, oGe, oEq, oNe, oIsN, oNotN, oIsB, oNotB, oIx, oSl, oLen, oSum, oAll, oAny, oAbs, o1I, o2I, oMin2, oMax2, oMin, oMax, oMinL, oMaxL, oInt, oBool, oList, oTuple, oSorted, oSortedT, oSortedD, dSortSet, dDNew, dDOne, oDGet, oDIn, oDSet, keyOD, oIn, oAddI, oGet, oSet, oAppend, oExtend, oPop, oPopAt, oIndexL, oIndexT, oInsert, oRemove, dTupX, dBMX, dLenSet, newL, startD, wipeD, D.tyN, List.map_cons, List.map_nil, List.cons_append, List.nil_append, List.length_cons, List.length_nil, List.getElem?_cons_zero, List.getElem?_cons_succ, List.set_cons_zero, List.set_cons_succ, List.replicate, Nat.sub_self, Nat.reduceSub, Nat.reduceAdd, Nat.zero_add, kb_ii, kb_ib, kb_it, kb_is, kb_bi, kb_bb, kb_bt, kb_bs, kb_tt, kb_ti, kb_ts, kb_ss, kb_si, kb_st, kb_nt, kb_ni, kb_ns, kb_lt, kb_li, kb_ls, ex_some, seq_tup, seq_tpx, itOf_tpx, seq_lst, seq_fz, list_lst, lsts_lst, lsts_fz, itOf_tup, itOf_lst, itOf_fz, now_int, now_bl, now_non, now_str, now_tup, now_lst, isNon_non, isNon_int, isNon_tup, isNon_ref, isNon_lst, isNon_str, isNon_bl, eG, a30, a31]
    rw [decide_eq_true hr.1.2]
    simp only []
    rw [decide_eq_true hr.2.1.2]
    simp only []
    refine ⟨⟨okn_int, okn_int⟩, ?_⟩
    rw [eqD_int, decide_eq_false hr.2.2]
    exact h
  simp only [dSeq, dNext, dRet, dRetN, dIfS, dAsg, dAsgG, dDrop, dPar2, dPar3, dAug, dAugS, dFor, dOp, dVar, dC, dTest, dChain, dAnd, dOr, dNot, dAndV, dOrV, dNotV, dIf, dTup, dLst, dNil, dCons, dStar, dCB, dCall, dFrz, dSl, dNoPart, dPart, dBM, dRev, dNeg, dIsi, dListRg, dTupRg, dRg1, dRg2, dLc, dIt, dEnum, dZip2, dZip3, dEnZ, dRng1, dRng2, dYes, gN, gT, gsNil, gsCons, gSb, oI, oI0, oAdd, oMulA, oSub, oFdiv, oMod, oPow, oLt, oLe, oGt, oGe, oEq, oNe, oIsN, oNotN, oIsB, oNotB, oIx, oSl, oLen, oSum, oAll, oAny, oAbs, o1I, o2I, oMin2, oMax2, oMin, oMax, oMinL, oMaxL, oInt, oBool, oList, oTuple, oSorted, oSortedT, oSortedD, dSortSet, dDNew, dDOne, oDGet, oDIn, oDSet, keyOD, oIn, oAddI, oGet, oSet, oAppend, oExtend, oPop, oPopAt, oIndexL, oIndexT, oInsert, oRemove, dTupX, dBMX, dLenSet, newL, startD, wipeD, D.tyN, List.map_cons, List.map_nil, List.cons_append, List.nil_append, List.length_cons, List.length_nil, List.getElem?_cons_zero, List.getElem?_cons_succ, List.set_cons_zero, List.set_cons_succ, List.replicate, Nat.sub_self, Nat.reduceSub, Nat.reduceAdd, Nat.zero_add, kb_ii, kb_ib, kb_it, kb_is, kb_bi, kb_bb, kb_bt, kb_bs, kb_tt, kb_ti, kb_ts, kb_ss, kb_si, kb_st, kb_nt, kb_ni, kb_ns, kb_lt, kb_li, kb_ls, ex_some, seq_tup, seq_tpx, itOf_tpx, seq_lst, seq_fz, list_lst, lsts_lst, lsts_fz, itOf_tup, itOf_lst, itOf_fz, now_int, now_bl, now_non, now_str, now_tup, now_lst, isNon_non, isNon_int, isNon_tup, isNon_ref, isNon_lst, isNon_str, isNon_bl]
  refine ⟨G.map fun _ => true, by rw [List.map_map]; rfl, ?_⟩
  rw [all_true]
  exact .here q
def sp_look_at_gates : DSp := fun ds S Q => ∃ (G : List Gate) (R : Int), ds = [.int R, .tup (G.map eG)] ∧ GG R G ∧ Q .non S
theorem pure_look_at_gates : ∀ ds S Q, sp_look_at_gates ds S Q → t_look_at_gates sp_is_int sp_are_gates (DeN Q) (startD N_look_at_gates ds) S := by
  rintro ds S Q ⟨G, R, rfl, g, q⟩
  have hR := g.R
  simp only [t_look_at_gates, dSeq, dNext, dRet, dRetN, dIfS, dAsg, dAsgG, dDrop, dPar2, dPar3, dAug, dAugS, dFor, dOp, dVar, dC, dTest, dChain, dAnd, dOr, dNot, dAndV, dOrV, dNotV, dIf, dTup, dLst, dNil, dCons, dStar, dCB, dCall, dFrz, dSl, dNoPart, dPart, dBM, dRev, dNeg, dIsi, dListRg, dTupRg, dRg1, dRg2, dLc, dIt, dEnum, dZip2, dZip3, dEnZ, dRng1, dRng2, dYes, gN, gT, gsNil, gsCons, gSb, oI, oI0, oAdd, oMulA, oSub, oFdiv, oMod, oPow, oLt, oLe, oGt, oGe, oEq, oNe, oIsN, oNotN, oIsB, oNotB, oIx, oSl, oLen, oSum, oAll, oAny, oAbs, o1I, o2I, oMin2, oMax2, oMin, oMax, oMinL, oMaxL, oInt, oBool, oList, oTuple, oSorted, oSortedT, oSortedD, dSortSet, dDNew, dDOne, oDGet, oDIn, oDSet, keyOD, oIn, oAddI, oGet, oSet, oAppend, oExtend, oPop, oPopAt, oIndexL, oIndexT, oInsert, oRemove, dTupX, dBMX, dLenSet, newL, startD, wipeD, D.tyN, List.map_cons, List.map_nil, List.cons_append, List.nil_append, List.length_cons, List.length_nil, List.getElem?_cons_zero, List.getElem?_cons_succ, List.set_cons_zero, List.set_cons_succ, List.replicate, Nat.sub_self, Nat.reduceSub, Nat.reduceAdd, Nat.zero_add, kb_ii, kb_ib, kb_it, kb_is, kb_bi, kb_bb, kb_bt, kb_bs, kb_tt, kb_ti, kb_ts, kb_ss, kb_si, kb_st, kb_nt, kb_ni, kb_ns, kb_lt, kb_li, kb_ls, ex_some, seq_tup, seq_tpx, itOf_tpx, seq_lst, seq_fz, list_lst, lsts_lst, lsts_fz, itOf_tup, itOf_lst, itOf_fz, now_int, now_bl, now_non, now_str, now_tup, now_lst, isNon_non, isNon_int, isNon_tup, isNon_ref, isNon_lst, isNon_str, isNon_bl]
  refine ⟨R, 2, 40, rfl, ?_⟩
  rw [decide_eq_true hR.1, decide_eq_true hR.2]
  simp only [Bool.and_true, Bool.not_true]
  refine ⟨G, R, rfl, g, ?_⟩
  simp only [Bool.not_true]
  exact .here q
def sp_how_many_through : DSp := fun ds S Q => ∃ (G : List Gate) (R : Int), ds = [.int R, .tup (G.map eG)] ∧ GG R G ∧ ∀ v, IsMin R G v → Q (.int v) S
theorem ext_two {S : Sto} {pu pw : Addr} {x y : MO} (h1 : S pu = none) (h2 : S pw = none) : Ext S ((S.up pu x).up pw y) := (Ext.up h1).set h2
theorem pure_how_many_through : ∀ ds S Q, sp_how_many_through ds S Q → t_how_many_through sp_look_at_gates sp_told_out sp_told_flow (DeN Q) (startD N_how_many_through ds) S := by
  rintro ds S Q ⟨G, R, rfl, g, q⟩
  have hn := g.n
  simp only [t_how_many_through, dSeq, dNext, dRet, dRetN, dIfS, dAsg, dAsgG, dDrop, dPar2, dPar3, dAug, dAugS, dFor, dOp, dVar, dC, dTest, dChain, dAnd, dOr, dNot, dAndV, dOrV, dNotV, dIf, dTup, dLst, dNil, dCons, dStar, dCB, dCall, dFrz, dSl, dNoPart, dPart, dBM, dRev, dNeg, dIsi, dListRg, dTupRg, dRg1, dRg2, dLc, dIt, dEnum, dZip2, dZip3, dEnZ, dRng1, dRng2, dYes, gN, gT, gsNil, gsCons, gSb, oI, oI0, oAdd, oMulA, oSub, oFdiv, oMod, oPow, oLt, oLe, oGt, oGe, oEq, oNe, oIsN, oNotN, oIsB, oNotB, oIx, oSl, oLen, oSum, oAll, oAny, oAbs, o1I, o2I, oMin2, oMax2, oMin, oMax, oMinL, oMaxL, oInt, oBool, oList, oTuple, oSorted, oSortedT, oSortedD, dSortSet, dDNew, dDOne, oDGet, oDIn, oDSet, keyOD, oIn, oAddI, oGet, oSet, oAppend, oExtend, oPop, oPopAt, oIndexL, oIndexT, oInsert, oRemove, dTupX, dBMX, dLenSet, newL, startD, wipeD, D.tyN, List.map_cons, List.map_nil, List.cons_append, List.nil_append, List.length_cons, List.length_nil, List.getElem?_cons_zero, List.getElem?_cons_succ, List.set_cons_zero, List.set_cons_succ, List.replicate, Nat.sub_self, Nat.reduceSub, Nat.reduceAdd, Nat.zero_add, kb_ii, kb_ib, kb_it, kb_is, kb_bi, kb_bb, kb_bt, kb_bs, kb_tt, kb_ti, kb_ts, kb_ss, kb_si, kb_st, kb_nt, kb_ni, kb_ns, kb_lt, kb_li, kb_ls, ex_some, seq_tup, seq_tpx, itOf_tpx, seq_lst, seq_fz, list_lst, lsts_lst, lsts_fz, itOf_tup, itOf_lst, itOf_fz, now_int, now_bl, now_non, now_str, now_tup, now_lst, isNon_non, isNon_int, isNon_tup, isNon_ref, isNon_lst, isNon_str, isNon_bl]
  refine ⟨G, R, rfl, g, G, R, rfl, g, fun U E pu pw hf hne hpu hpw => ?_⟩
  simp only [dSeq, dNext, dRet, dRetN, dIfS, dAsg, dAsgG, dDrop, dPar2, dPar3, dAug, dAugS, dFor, dOp, dVar, dC, dTest, dChain, dAnd, dOr, dNot, dAndV, dOrV, dNotV, dIf, dTup, dLst, dNil, dCons, dStar, dCB, dCall, dFrz, dSl, dNoPart, dPart, dBM, dRev, dNeg, dIsi, dListRg, dTupRg, dRg1, dRg2, dLc, dIt, dEnum, dZip2, dZip3, dEnZ, dRng1, dRng2, dYes, gN, gT, gsNil, gsCons, gSb, oI, oI0, oAdd, oMulA, oSub, oFdiv, oMod, oPow, oLt, oLe, oGt, oGe, oEq, oNe, oIsN, oNotN, oIsB, oNotB, oIx, oSl, oLen, oSum, oAll, oAny, oAbs, o1I, o2I, oMin2, oMax2, oMin, oMax, oMinL, oMaxL, oInt, oBool, oList, oTuple, oSorted, oSortedT, oSortedD, dSortSet, dDNew, dDOne, oDGet, oDIn, oDSet, keyOD, oIn, oAddI, oGet, oSet, oAppend, oExtend, oPop, oPopAt, oIndexL, oIndexT, oInsert, oRemove, dTupX, dBMX, dLenSet, newL, startD, wipeD, D.tyN, List.map_cons, List.map_nil, List.cons_append, List.nil_append, List.length_cons, List.length_nil, List.getElem?_cons_zero, List.getElem?_cons_succ, List.set_cons_zero, List.set_cons_succ, List.replicate, Nat.sub_self, Nat.reduceSub, Nat.reduceAdd, Nat.zero_add, kb_ii, kb_ib, kb_it, kb_is, kb_bi, kb_bb, kb_bt, kb_bs, kb_tt, kb_ti, kb_ts, kb_ss, kb_si, kb_st, kb_nt, kb_ni, kb_ns, kb_lt, kb_li, kb_ls, ex_some, seq_tup, seq_tpx, itOf_tpx, seq_lst, seq_fz, list_lst, lsts_lst, lsts_fz, itOf_tup, itOf_lst, itOf_fz, now_int, now_bl, now_non, now_str, now_tup, now_lst, isNon_non, isNon_int, isNon_tup, isNon_ref, isNon_lst, isNon_str, isNon_bl, a20]
  have hS : ((S.up pu (.lst (U.map D.int))).up pw (.dK (encE E))) pu = some (.lst (U.map D.int)) := by rw [Sto.up_ne hne]; exact Sto.up_same
  refine ⟨G, .ref pu, U, 0, rfl, .inr ⟨pu, rfl, hS⟩, hf.flow.len, by omega, ?_⟩
  exact FzQ.ext (ext_two hpu hpw) (q _ (hf.min g))
def srt (l : List Int) : List Int := l.mergeSort fun a b => decide (a ≤ b)
def sp_through : DSp := fun ds S Q => ∃ (G : List Gate) (R : Int), ds = [.int R, .tup (G.map eG)] ∧ GG R G ∧ ∀ U E (ys : List Int), Full R G U E → ys.Perm (rm E) → ys.Pairwise (· ≤ ·) → Q (.tup [.str "through", .int (out G U 0), .tup (U.map D.int), .tup (ys.map D.int)]) S
theorem rooms_few {G : List Gate} {U : List Int} {R s : Int} {E : List Ent} (t : Tree G U s E) (g : GG R G) (hs : 0 ≤ s ∧ s < R) : (rm E).length ≤ 40 := by
  have hR := g.R
  exact Nat.le_trans (nd_few R.toNat t.nd fun x hx => by have := t.rooms g hs x hx; omega) (by omega)
theorem pure_through : ∀ ds S Q, sp_through ds S Q → t_through sp_look_at_gates sp_told_flow sp_told_out (DeN Q) (startD N_through ds) S := by
  rintro ds S Q ⟨G, R, rfl, g, q⟩
  have hn := g.n
  have hR := g.R
  simp only [t_through, dSeq, dNext, dRet, dRetN, dIfS, dAsg, dAsgG, dDrop, dPar2, dPar3, dAug, dAugS, dFor, dOp, dVar, dC, dTest, dChain, dAnd, dOr, dNot, dAndV, dOrV, dNotV, dIf, dTup, dLst, dNil, dCons, dStar, dCB, dCall, dFrz, dSl, dNoPart, dPart, dBM, dRev, dNeg, dIsi, dListRg, dTupRg, dRg1, dRg2, dLc, dIt, dEnum, dZip2, dZip3, dEnZ, dRng1, dRng2, dYes, gN, gT, gsNil, gsCons, gSb, oI, oI0, oAdd, oMulA, oSub, oFdiv, oMod, oPow, oLt, oLe, oGt, oGe, oEq, oNe, oIsN, oNotN, oIsB, oNotB, oIx, oSl, oLen, oSum, oAll, oAny, oAbs, o1I, o2I, oMin2, oMax2, oMin, oMax, oMinL, oMaxL, oInt, oBool, oList, oTuple, oSorted, oSortedT, oSortedD, dSortSet, dDNew, dDOne, oDGet, oDIn, oDSet, keyOD, oIn, oAddI, oGet, oSet, oAppend, oExtend, oPop, oPopAt, oIndexL, oIndexT, oInsert, oRemove, dTupX, dBMX, dLenSet, newL, startD, wipeD, D.tyN, List.map_cons, List.map_nil, List.cons_append, List.nil_append, List.length_cons, List.length_nil, List.getElem?_cons_zero, List.getElem?_cons_succ, List.set_cons_zero, List.set_cons_succ, List.replicate, Nat.sub_self, Nat.reduceSub, Nat.reduceAdd, Nat.zero_add, kb_ii, kb_ib, kb_it, kb_is, kb_bi, kb_bb, kb_bt, kb_bs, kb_tt, kb_ti, kb_ts, kb_ss, kb_si, kb_st, kb_nt, kb_ni, kb_ns, kb_lt, kb_li, kb_ls, ex_some, seq_tup, seq_tpx, itOf_tpx, seq_lst, seq_fz, list_lst, lsts_lst, lsts_fz, itOf_tup, itOf_lst, itOf_fz, now_int, now_bl, now_non, now_str, now_tup, now_lst, isNon_non, isNon_int, isNon_tup, isNon_ref, isNon_lst, isNon_str, isNon_bl]
  refine ⟨G, R, rfl, g, G, R, rfl, g, fun U E pu pw hf hne hpu hpw => ?_⟩
  have hS : ((S.up pu (.lst (U.map D.int))).up pw (.dK (encE E))) pu = some (.lst (U.map D.int)) := by rw [Sto.up_ne hne]; exact Sto.up_same
  have hSw : ((S.up pu (.lst (U.map D.int))).up pw (.dK (encE E))) pw = some (.dK (encE E)) := Sto.up_same
  simp only [dSeq, dNext, dRet, dRetN, dIfS, dAsg, dAsgG, dDrop, dPar2, dPar3, dAug, dAugS, dFor, dOp, dVar, dC, dTest, dChain, dAnd, dOr, dNot, dAndV, dOrV, dNotV, dIf, dTup, dLst, dNil, dCons, dStar, dCB, dCall, dFrz, dSl, dNoPart, dPart, dBM, dRev, dNeg, dIsi, dListRg, dTupRg, dRg1, dRg2, dLc, dIt, dEnum, dZip2, dZip3, dEnZ, dRng1, dRng2, dYes, gN, gT, gsNil, gsCons, gSb, oI, oI0, oAdd, oMulA, oSub, oFdiv, oMod, oPow, oLt, oLe, oGt, oGe, oEq, oNe, oIsN, oNotN, oIsB, oNotB, oIx, oSl, oLen, oSum, oAll, oAny, oAbs, o1I, o2I, oMin2, oMax2, oMin, oMax, oMinL, oMaxL, oInt, oBool, oList, oTuple, oSorted, oSortedT, oSortedD, dSortSet, dDNew, dDOne, oDGet, oDIn, oDSet, keyOD, oIn, oAddI, oGet, oSet, oAppend, oExtend, oPop, oPopAt, oIndexL, oIndexT, oInsert, oRemove, dTupX, dBMX, dLenSet, newL, startD, wipeD, D.tyN, List.map_cons, List.map_nil, List.cons_append, List.nil_append, List.length_cons, List.length_nil, List.getElem?_cons_zero, List.getElem?_cons_succ, List.set_cons_zero, List.set_cons_succ, List.replicate, Nat.sub_self, Nat.reduceSub, Nat.reduceAdd, Nat.zero_add, kb_ii, kb_ib, kb_it, kb_is, kb_bi, kb_bb, kb_bt, kb_bs, kb_tt, kb_ti, kb_ts, kb_ss, kb_si, kb_st, kb_nt, kb_ni, kb_ns, kb_lt, kb_li, kb_ls, ex_some, seq_tup, seq_tpx, itOf_tpx, seq_lst, seq_fz, list_lst, lsts_lst, lsts_fz, itOf_tup, itOf_lst, itOf_fz, now_int, now_bl, now_non, now_str, now_tup, now_lst, isNon_non, isNon_int, isNon_tup, isNon_ref, isNon_lst, isNon_str, isNon_bl]
  refine ⟨trivial, G, .ref pu, U, 0, rfl, .inr ⟨pu, rfl, hS⟩, hf.flow.len, by omega, ?_⟩
  simp only [seq_ref hS, dk_ref hSw]
  exact ⟨rm E, by unfold encE rm; rw [List.map_map, List.map_map]; rfl, by have := rooms_few hf.ways.tree g (by omega); omega, fun ys y1 y2 => ⟨small (by decide), FzQ.ext (ext_two hpu hpw) (q U E ys hf y1 y2)⟩⟩
def sp_are_used : DSp := fun ds S Q => ∃ (G : List Gate) (R : Int) (U : List Int), ds = [.int R, .tup (G.map eG), .tup (U.map D.int)] ∧ GG R G ∧ Flow G U 0 (R - 1) ∧ Q (.bl true) S
theorem pure_are_used : ∀ ds S Q, sp_are_used ds S Q → t_are_used sp_are_ints sp_told_out (DeN Q) (startD N_are_used ds) S := by
  rintro ds S Q ⟨G, R, U, rfl, g, f, q⟩
  have hn := g.n
  have hR := g.R
  have hU := f.len
  unfold t_are_used
  refine seqG fun v1 hv1 => ?_
  simp only [dSeq, dNext, dRet, dRetN, dIfS, dAsg, dAsgG, dDrop, dPar2, dPar3, dAug, dAugS, dFor, dOp, dVar, dC, dTest, dChain, dAnd, dOr, dNot, dAndV, dOrV, dNotV, dIf, dTup, dLst, dNil, dCons, dStar, dCB, dCall, dFrz, dSl, dNoPart, dPart, dBM, dRev, dNeg, dIsi, dListRg, dTupRg, dRg1, dRg2, dLc, dIt, dEnum, dZip2, dZip3, dEnZ, dRng1, dRng2, dYes, gN, gT, gsNil, gsCons, gSb, oI, oI0, oAdd, oMulA, oSub, oFdiv, oMod, oPow, oLt, oLe, oGt, oGe, oEq, oNe, oIsN, oNotN, oIsB, oNotB, oIx, oSl, oLen, oSum, oAll, oAny, oAbs, o1I, o2I, oMin2, oMax2, oMin, oMax, oMinL, oMaxL, oInt, oBool, oList, oTuple, oSorted, oSortedT, oSortedD, dSortSet, dDNew, dDOne, oDGet, oDIn, oDSet, keyOD, oIn, oAddI, oGet, oSet, oAppend, oExtend, oPop, oPopAt, oIndexL, oIndexT, oInsert, oRemove, dTupX, dBMX, dLenSet, newL, startD, wipeD, D.tyN, List.map_cons, List.map_nil, List.cons_append, List.nil_append, List.length_cons, List.length_nil, List.getElem?_cons_zero, List.getElem?_cons_succ, List.set_cons_zero, List.set_cons_succ, List.replicate, Nat.sub_self, Nat.reduceSub, Nat.reduceAdd, Nat.zero_add, kb_ii, kb_ib, kb_it, kb_is, kb_bi, kb_bb, kb_bt, kb_bs, kb_tt, kb_ti, kb_ts, kb_ss, kb_si, kb_st, kb_nt, kb_ni, kb_ns, kb_lt, kb_li, kb_ls, ex_some, seq_tup, seq_tpx, itOf_tpx, seq_lst, seq_fz, list_lst, lsts_lst, lsts_fz, itOf_tup, itOf_lst, itOf_fz, now_int, now_bl, now_non, now_str, now_tup, now_lst, isNon_non, isNon_int, isNon_tup, isNon_ref, isNon_lst, isNon_str, isNon_bl, List.length_map]
  refine ⟨U, 0, 1000000, rfl, small (by omega), ?_⟩
  rw [inB_true (fun x hx => by
    obtain ⟨i, hi, rfl⟩ := List.getElem_of_mem hx
    have h1 := f.cap i (by omega)
    have h2 := g.c _ (gt_mem (show i < G.length by omega))
    have e : at0 U i = U[i] := by unfold at0; rw [List.getD_eq_getElem?_getD, List.getElem?_eq_getElem hi]; rfl
    omega)]
  simp only [Bool.not_true]
  refine ⟨⟨okn_int, okn_int⟩, ?_⟩
  rw [eqD_int, decide_eq_true (by omega)]
  simp only [Bool.not_true]
  subst hv1
  refine seqG fun v2 hv2 => ?_
  simp only [dSeq, dNext, dRet, dRetN, dIfS, dAsg, dAsgG, dDrop, dPar2, dPar3, dAug, dAugS, dFor, dOp, dVar, dC, dTest, dChain, dAnd, dOr, dNot, dAndV, dOrV, dNotV, dIf, dTup, dLst, dNil, dCons, dStar, dCB, dCall, dFrz, dSl, dNoPart, dPart, dBM, dRev, dNeg, dIsi, dListRg, dTupRg, dRg1, dRg2, dLc, dIt, dEnum, dZip2, dZip3, dEnZ, dRng1, dRng2, dYes, gN, gT, gsNil, gsCons, gSb, oI, oI0, oAdd, oMulA, oSub, oFdiv, oMod, oPow, oLt, oLe, oGt, oGe, oEq, oNe, oIsN, oNotN, oIsB, oNotB, oIx, oSl, oLen, oSum, oAll, oAny, oAbs, o1I, o2I, oMin2, oMax2, oMin, oMax, oMinL, oMaxL, oInt, oBool, oList, oTuple, oSorted, oSortedT, oSortedD, dSortSet, dDNew, dDOne, oDGet, oDIn, oDSet, keyOD, oIn, oAddI, oGet, oSet, oAppend, oExtend, oPop, oPopAt, oIndexL, oIndexT, oInsert, oRemove, dTupX, dBMX, dLenSet, newL, startD, wipeD, D.tyN, List.map_cons, List.map_nil, List.cons_append, List.nil_append, List.length_cons, List.length_nil, List.getElem?_cons_zero, List.getElem?_cons_succ, List.set_cons_zero, List.set_cons_succ, List.replicate, Nat.sub_self, Nat.reduceSub, Nat.reduceAdd, Nat.zero_add, kb_ii, kb_ib, kb_it, kb_is, kb_bi, kb_bb, kb_bt, kb_bs, kb_tt, kb_ti, kb_ts, kb_ss, kb_si, kb_st, kb_nt, kb_ni, kb_ns, kb_lt, kb_li, kb_ls, ex_some, seq_tup, seq_tpx, itOf_tpx, seq_lst, seq_fz, list_lst, lsts_lst, lsts_fz, itOf_tup, itOf_lst, itOf_fz, now_int, now_bl, now_non, now_str, now_tup, now_lst, isNon_non, isNon_int, isNon_tup, isNon_ref, isNon_lst, isNon_str, isNon_bl]
  rw [zip_map2 eG D.int, zip_range hU, List.map_map]
  refine lc_mapE (ok := fun _ => True ∧ True) (List.range G.length) _ (fun _ => .bl true) (fun _ _ => ⟨trivial, trivial⟩) (small (by rw [List.length_range]; omega)) (fun i hi S' e N M h => ?_) ?_
  · have h1 := f.cap i (List.mem_range.mp hi)
    simp only [Function.comp, dSeq, dNext, dRet, dRetN, dIfS, dAsg, dAsgG, dDrop, dPar2, dPar3, dAug, dAugS, dFor, dOp, dVar, dC, dTest, dChain, dAnd, dOr, dNot, dAndV, dOrV, dNotV, dIf, dTup, dLst, dNil, dCons, dStar, dCB, dCall, dFrz, dSl, dNoPart, dPart, dBM, dRev, dNeg, dIsi, dListRg, dTupRg, dRg1, dRg2, dLc, dIt, dEnum, dZip2, dZip3, dEnZ, dRng1, dRng2, dYes, gN, gT, gsNil, gsCons, gSb, oI, oI0, oAdd, oMulA, oSub, oFdiv, oMod, oPow, oLt, oLe, oGt, oGe, oEq, oNe, oIsN, oNotN, oIsB, oNotB, oIx, oSl, oLen, oSum, oAll, oAny, oAbs, o1I, o2I, oMin2, oMax2, oMin, oMax, oMinL, oMaxL, oInt, oBool, oList, oTuple, oSorted, oSortedT, oSortedD, dSortSet, dDNew, dDOne, oDGet, oDIn, oDSet, keyOD, oIn, oAddI, oGet, oSet, oAppend, oExtend, oPop, oPopAt, oIndexL, oIndexT, oInsert, oRemove, dTupX, dBMX, dLenSet, newL, startD, wipeD, D.tyN, List.map_cons, List.map_nil, List.cons_append, List.nil_append, List.length_cons, List.length_nil, List.getElem?_cons_zero, List.getElem?_cons_succ, List.set_cons_zero, List.set_cons_succ, List.replicate, Nat.sub_self, Nat.reduceSub, Nat.reduceAdd, Nat.zero_add, kb_ii, kb_ib, kb_it, kb_is, kb_bi, kb_bb, kb_bt, kb_bs, kb_tt, kb_ti, kb_ts, kb_ss, kb_si, kb_st, kb_nt, kb_ni, kb_ns, kb_lt, kb_li, kb_ls, ex_some, seq_tup, seq_tpx, itOf_tpx, seq_lst, seq_fz, list_lst, lsts_lst, lsts_fz, itOf_tup, itOf_lst, itOf_fz, now_int, now_bl, now_non, now_str, now_tup, now_lst, isNon_non, isNon_int, isNon_tup, isNon_ref, isNon_lst, isNon_str, isNon_bl, eG]
    rw [decide_eq_true h1.2]
    exact ⟨trivial, trivial, h⟩
  simp only [dSeq, dNext, dRet, dRetN, dIfS, dAsg, dAsgG, dDrop, dPar2, dPar3, dAug, dAugS, dFor, dOp, dVar, dC, dTest, dChain, dAnd, dOr, dNot, dAndV, dOrV, dNotV, dIf, dTup, dLst, dNil, dCons, dStar, dCB, dCall, dFrz, dSl, dNoPart, dPart, dBM, dRev, dNeg, dIsi, dListRg, dTupRg, dRg1, dRg2, dLc, dIt, dEnum, dZip2, dZip3, dEnZ, dRng1, dRng2, dYes, gN, gT, gsNil, gsCons, gSb, oI, oI0, oAdd, oMulA, oSub, oFdiv, oMod, oPow, oLt, oLe, oGt, oGe, oEq, oNe, oIsN, oNotN, oIsB, oNotB, oIx, oSl, oLen, oSum, oAll, oAny, oAbs, o1I, o2I, oMin2, oMax2, oMin, oMax, oMinL, oMaxL, oInt, oBool, oList, oTuple, oSorted, oSortedT, oSortedD, dSortSet, dDNew, dDOne, oDGet, oDIn, oDSet, keyOD, oIn, oAddI, oGet, oSet, oAppend, oExtend, oPop, oPopAt, oIndexL, oIndexT, oInsert, oRemove, dTupX, dBMX, dLenSet, newL, startD, wipeD, D.tyN, List.map_cons, List.map_nil, List.cons_append, List.nil_append, List.length_cons, List.length_nil, List.getElem?_cons_zero, List.getElem?_cons_succ, List.set_cons_zero, List.set_cons_succ, List.replicate, Nat.sub_self, Nat.reduceSub, Nat.reduceAdd, Nat.zero_add, kb_ii, kb_ib, kb_it, kb_is, kb_bi, kb_bb, kb_bt, kb_bs, kb_tt, kb_ti, kb_ts, kb_ss, kb_si, kb_st, kb_nt, kb_ni, kb_ns, kb_lt, kb_li, kb_ls, ex_some, seq_tup, seq_tpx, itOf_tpx, seq_lst, seq_fz, list_lst, lsts_lst, lsts_fz, itOf_tup, itOf_lst, itOf_fz, now_int, now_bl, now_non, now_str, now_tup, now_lst, isNon_non, isNon_int, isNon_tup, isNon_ref, isNon_lst, isNon_str, isNon_bl]
  refine ⟨(List.range G.length).map fun _ => true, by rw [List.map_map]; rfl, ?_⟩
  rw [all_true]
  simp only [Bool.not_true]
  subst hv2
  simp only [dSeq, dNext, dRet, dRetN, dIfS, dAsg, dAsgG, dDrop, dPar2, dPar3, dAug, dAugS, dFor, dOp, dVar, dC, dTest, dChain, dAnd, dOr, dNot, dAndV, dOrV, dNotV, dIf, dTup, dLst, dNil, dCons, dStar, dCB, dCall, dFrz, dSl, dNoPart, dPart, dBM, dRev, dNeg, dIsi, dListRg, dTupRg, dRg1, dRg2, dLc, dIt, dEnum, dZip2, dZip3, dEnZ, dRng1, dRng2, dYes, gN, gT, gsNil, gsCons, gSb, oI, oI0, oAdd, oMulA, oSub, oFdiv, oMod, oPow, oLt, oLe, oGt, oGe, oEq, oNe, oIsN, oNotN, oIsB, oNotB, oIx, oSl, oLen, oSum, oAll, oAny, oAbs, o1I, o2I, oMin2, oMax2, oMin, oMax, oMinL, oMaxL, oInt, oBool, oList, oTuple, oSorted, oSortedT, oSortedD, dSortSet, dDNew, dDOne, oDGet, oDIn, oDSet, keyOD, oIn, oAddI, oGet, oSet, oAppend, oExtend, oPop, oPopAt, oIndexL, oIndexT, oInsert, oRemove, dTupX, dBMX, dLenSet, newL, startD, wipeD, D.tyN, List.map_cons, List.map_nil, List.cons_append, List.nil_append, List.length_cons, List.length_nil, List.getElem?_cons_zero, List.getElem?_cons_succ, List.set_cons_zero, List.set_cons_succ, List.replicate, Nat.sub_self, Nat.reduceSub, Nat.reduceAdd, Nat.zero_add, kb_ii, kb_ib, kb_it, kb_is, kb_bi, kb_bb, kb_bt, kb_bs, kb_tt, kb_ti, kb_ts, kb_ss, kb_si, kb_st, kb_nt, kb_ni, kb_ns, kb_lt, kb_li, kb_ls, ex_some, seq_tup, seq_tpx, itOf_tpx, seq_lst, seq_fz, list_lst, lsts_lst, lsts_fz, itOf_tup, itOf_lst, itOf_fz, now_int, now_bl, now_non, now_str, now_tup, now_lst, isNon_non, isNon_int, isNon_tup, isNon_ref, isNon_lst, isNon_str, isNon_bl]
  refine ⟨⟨by decide, by decide, by omega, by omega⟩, ?_⟩
  unfold rangeD
  refine lc_mapE (List.range (R - 1 - 1).toNat) (fun (i : Nat) => D.int (1 + (i : Int))) (fun _ => .bl true) (fun _ _ => trivial) (small (by rw [List.length_range]; omega)) (fun i hi S' e N M h => ?_) ?_
  · have hi' := List.mem_range.mp hi
    simp only [dSeq, dNext, dRet, dRetN, dIfS, dAsg, dAsgG, dDrop, dPar2, dPar3, dAug, dAugS, dFor, dOp, dVar, dC, dTest, dChain, dAnd, dOr, dNot, dAndV, dOrV, dNotV, dIf, dTup, dLst, dNil, dCons, dStar, dCB, dCall, dFrz, dSl, dNoPart, dPart, dBM, dRev, dNeg, dIsi, dListRg, dTupRg, dRg1, dRg2, dLc, dIt, dEnum, dZip2, dZip3, dEnZ, dRng1, dRng2, dYes, gN, gT, gsNil, gsCons, gSb, oI, oI0, oAdd, oMulA, oSub, oFdiv, oMod, oPow, oLt, oLe, oGt, oGe, oEq, oNe, oIsN, oNotN, oIsB, oNotB, oIx, oSl, oLen, oSum, oAll, oAny, oAbs, o1I, o2I, oMin2, oMax2, oMin, oMax, oMinL, oMaxL, oInt, oBool, oList, oTuple, oSorted, oSortedT, oSortedD, dSortSet, dDNew, dDOne, oDGet, oDIn, oDSet, keyOD, oIn, oAddI, oGet, oSet, oAppend, oExtend, oPop, oPopAt, oIndexL, oIndexT, oInsert, oRemove, dTupX, dBMX, dLenSet, newL, startD, wipeD, D.tyN, List.map_cons, List.map_nil, List.cons_append, List.nil_append, List.length_cons, List.length_nil, List.getElem?_cons_zero, List.getElem?_cons_succ, List.set_cons_zero, List.set_cons_succ, List.replicate, Nat.sub_self, Nat.reduceSub, Nat.reduceAdd, Nat.zero_add, kb_ii, kb_ib, kb_it, kb_is, kb_bi, kb_bb, kb_bt, kb_bs, kb_tt, kb_ti, kb_ts, kb_ss, kb_si, kb_st, kb_nt, kb_ni, kb_ns, kb_lt, kb_li, kb_ls, ex_some, seq_tup, seq_tpx, itOf_tpx, seq_lst, seq_fz, list_lst, lsts_lst, lsts_fz, itOf_tup, itOf_lst, itOf_fz, now_int, now_bl, now_non, now_str, now_tup, now_lst, isNon_non, isNon_int, isNon_tup, isNon_ref, isNon_lst, isNon_str, isNon_bl]
    refine ⟨G, _, U, 1 + (i : Int), rfl, .inl rfl, hU, by omega, ?_⟩
    rw [f.bal _ (by omega) (by omega)]
    refine ⟨⟨okn_int, okn_int⟩, ?_⟩
    simp only [now_int]
    rw [eqD_int, decide_eq_true rfl]
    exact h
  simp only [dSeq, dNext, dRet, dRetN, dIfS, dAsg, dAsgG, dDrop, dPar2, dPar3, dAug, dAugS, dFor, dOp, dVar, dC, dTest, dChain, dAnd, dOr, dNot, dAndV, dOrV, dNotV, dIf, dTup, dLst, dNil, dCons, dStar, dCB, dCall, dFrz, dSl, dNoPart, dPart, dBM, dRev, dNeg, dIsi, dListRg, dTupRg, dRg1, dRg2, dLc, dIt, dEnum, dZip2, dZip3, dEnZ, dRng1, dRng2, dYes, gN, gT, gsNil, gsCons, gSb, oI, oI0, oAdd, oMulA, oSub, oFdiv, oMod, oPow, oLt, oLe, oGt, oGe, oEq, oNe, oIsN, oNotN, oIsB, oNotB, oIx, oSl, oLen, oSum, oAll, oAny, oAbs, o1I, o2I, oMin2, oMax2, oMin, oMax, oMinL, oMaxL, oInt, oBool, oList, oTuple, oSorted, oSortedT, oSortedD, dSortSet, dDNew, dDOne, oDGet, oDIn, oDSet, keyOD, oIn, oAddI, oGet, oSet, oAppend, oExtend, oPop, oPopAt, oIndexL, oIndexT, oInsert, oRemove, dTupX, dBMX, dLenSet, newL, startD, wipeD, D.tyN, List.map_cons, List.map_nil, List.cons_append, List.nil_append, List.length_cons, List.length_nil, List.getElem?_cons_zero, List.getElem?_cons_succ, List.set_cons_zero, List.set_cons_succ, List.replicate, Nat.sub_self, Nat.reduceSub, Nat.reduceAdd, Nat.zero_add, kb_ii, kb_ib, kb_it, kb_is, kb_bi, kb_bb, kb_bt, kb_bs, kb_tt, kb_ti, kb_ts, kb_ss, kb_si, kb_st, kb_nt, kb_ni, kb_ns, kb_lt, kb_li, kb_ls, ex_some, seq_tup, seq_tpx, itOf_tpx, seq_lst, seq_fz, list_lst, lsts_lst, lsts_fz, itOf_tup, itOf_lst, itOf_fz, now_int, now_bl, now_non, now_str, now_tup, now_lst, isNon_non, isNon_int, isNon_tup, isNon_ref, isNon_lst, isNon_str, isNon_bl]
  refine ⟨(List.range (R - 1 - 1).toNat).map fun _ => true, by rw [List.map_map]; rfl, ?_⟩
  rw [all_true]
  exact .here q
def sp_is_told : DSp := fun ds S Q => ∃ (x : Str) (xs : List D) (ns : List Int), ds = [.tup (.str x :: xs), .tup (ns.map .int)] ∧ ns.length ≤ 10 ∧ ((xs.length + 1 : Nat) : Int) ∈ ns ∧ Q (.bl true) S
theorem any_int {ns : List Int} {z : Int} (h : z ∈ ns) : ((ns.map D.int).any fun y => eqD y (.int z)) = true := by
  rw [any_mem, decide_eq_true h]
theorem pure_is_told : ∀ ds S Q, sp_is_told ds S Q → t_is_told (DeN Q) (startD N_is_told ds) S := by
  rintro ds S Q ⟨x, xs, ns, rfl, hn, hm, q⟩
  have h0 : atI (D.str x :: xs) 0 = some (.str x) := atI_head rfl
  simp only [t_is_told, dSeq, dNext, dRet, dRetN, dIfS, dAsg, dAsgG, dDrop, dPar2, dPar3, dAug, dAugS, dFor, dOp, dVar, dC, dTest, dChain, dAnd, dOr, dNot, dAndV, dOrV, dNotV, dIf, dTup, dLst, dNil, dCons, dStar, dCB, dCall, dFrz, dSl, dNoPart, dPart, dBM, dRev, dNeg, dIsi, dListRg, dTupRg, dRg1, dRg2, dLc, dIt, dEnum, dZip2, dZip3, dEnZ, dRng1, dRng2, dYes, gN, gT, gsNil, gsCons, gSb, oI, oI0, oAdd, oMulA, oSub, oFdiv, oMod, oPow, oLt, oLe, oGt, oGe, oEq, oNe, oIsN, oNotN, oIsB, oNotB, oIx, oSl, oLen, oSum, oAll, oAny, oAbs, o1I, o2I, oMin2, oMax2, oMin, oMax, oMinL, oMaxL, oInt, oBool, oList, oTuple, oSorted, oSortedT, oSortedD, dSortSet, dDNew, dDOne, oDGet, oDIn, oDSet, keyOD, oIn, oAddI, oGet, oSet, oAppend, oExtend, oPop, oPopAt, oIndexL, oIndexT, oInsert, oRemove, dTupX, dBMX, dLenSet, newL, startD, wipeD, D.tyN, List.map_cons, List.map_nil, List.cons_append, List.nil_append, List.length_cons, List.length_nil, List.getElem?_cons_zero, List.getElem?_cons_succ, List.set_cons_zero, List.set_cons_succ, List.replicate, Nat.sub_self, Nat.reduceSub, Nat.reduceAdd, Nat.zero_add, kb_ii, kb_ib, kb_it, kb_is, kb_bi, kb_bb, kb_bt, kb_bs, kb_tt, kb_ti, kb_ts, kb_ss, kb_si, kb_st, kb_nt, kb_ni, kb_ns, kb_lt, kb_li, kb_ls, ex_some, seq_tup, seq_tpx, itOf_tpx, seq_lst, seq_fz, list_lst, lsts_lst, lsts_fz, itOf_tup, itOf_lst, itOf_fz, now_int, now_bl, now_non, now_str, now_tup, now_lst, isNon_non, isNon_int, isNon_tup, isNon_ref, isNon_lst, isNon_str, isNon_bl]
  refine ⟨⟨okn_int, okn_ints⟩, ?_⟩
  rw [any_int hm]
  simp only [h0, dSeq, dNext, dRet, dRetN, dIfS, dAsg, dAsgG, dDrop, dPar2, dPar3, dAug, dAugS, dFor, dOp, dVar, dC, dTest, dChain, dAnd, dOr, dNot, dAndV, dOrV, dNotV, dIf, dTup, dLst, dNil, dCons, dStar, dCB, dCall, dFrz, dSl, dNoPart, dPart, dBM, dRev, dNeg, dIsi, dListRg, dTupRg, dRg1, dRg2, dLc, dIt, dEnum, dZip2, dZip3, dEnZ, dRng1, dRng2, dYes, gN, gT, gsNil, gsCons, gSb, oI, oI0, oAdd, oMulA, oSub, oFdiv, oMod, oPow, oLt, oLe, oGt, oGe, oEq, oNe, oIsN, oNotN, oIsB, oNotB, oIx, oSl, oLen, oSum, oAll, oAny, oAbs, o1I, o2I, oMin2, oMax2, oMin, oMax, oMinL, oMaxL, oInt, oBool, oList, oTuple, oSorted, oSortedT, oSortedD, dSortSet, dDNew, dDOne, oDGet, oDIn, oDSet, keyOD, oIn, oAddI, oGet, oSet, oAppend, oExtend, oPop, oPopAt, oIndexL, oIndexT, oInsert, oRemove, dTupX, dBMX, dLenSet, newL, startD, wipeD, D.tyN, List.map_cons, List.map_nil, List.cons_append, List.nil_append, List.length_cons, List.length_nil, List.getElem?_cons_zero, List.getElem?_cons_succ, List.set_cons_zero, List.set_cons_succ, List.replicate, Nat.sub_self, Nat.reduceSub, Nat.reduceAdd, Nat.zero_add, kb_ii, kb_ib, kb_it, kb_is, kb_bi, kb_bb, kb_bt, kb_bs, kb_tt, kb_ti, kb_ts, kb_ss, kb_si, kb_st, kb_nt, kb_ni, kb_ns, kb_lt, kb_li, kb_ls, ex_some, seq_tup, seq_tpx, itOf_tpx, seq_lst, seq_fz, list_lst, lsts_lst, lsts_fz, itOf_tup, itOf_lst, itOf_fz, now_int, now_bl, now_non, now_str, now_tup, now_lst, isNon_non, isNon_int, isNon_tup, isNon_ref, isNon_lst, isNon_str, isNon_bl, if_neg Bool.false_ne_true]
  exact .here q
theorem a40 {w x y z : D} : atI [w, x, y, z] 0 = some w := rfl
theorem a41 {w x y z : D} : atI [w, x, y, z] 1 = some x := rfl
theorem a42 {w x y z : D} : atI [w, x, y, z] 2 = some y := rfl
theorem a43 {w x y z : D} : atI [w, x, y, z] (-1) = some z := rfl
structure Shown (R : Int) (G : List Gate) (U ys : List Int) : Prop where
  flow : Flow G U 0 (R - 1)
  rise : ys.Pairwise (· < ·)
  few : ys.length ≤ 40
  bd : ∀ y ∈ ys, 0 ≤ y ∧ y ≤ R - 2
  st : 0 ∈ ys
  cut : out G U 0 = cap G (mem_ ys)
def sp_shows_through : DSp := fun ds S Q => ∃ (G : List Gate) (R : Int) (U ys : List Int), ds = [.int R, .tup (G.map eG), .tup [.str "through", .int (out G U 0), .tup (U.map D.int), .tup (ys.map D.int)]] ∧ GG R G ∧ Shown R G U ys ∧ Q (.bl true) S
theorem rise_eq {a b : List Int} (ha : a.Pairwise (· < ·)) (hb : b.Pairwise (· < ·)) (h : ∀ k, k ∈ a ↔ k ∈ b) : a = b := by
  have na : a.Nodup := ha.imp fun h => Int.ne_of_lt h
  have nb : b.Nodup := hb.imp fun h => Int.ne_of_lt h
  have hp : a.Perm b := (List.perm_ext_iff_of_nodup na nb).mpr h
  exact hp.eq_of_pairwise (le := fun x y => x < y) (fun x y _ _ h1 h2 => by omega) ha hb
theorem pure_shows_through : ∀ ds S Q, sp_shows_through ds S Q → t_shows_through sp_look_at_gates sp_is_told sp_are_used sp_are_ints sp_told_out sp_told_cut sp_is_int (DeN Q) (startD N_shows_through ds) S := by
  rintro ds S Q ⟨G, R, U, ys, rfl, g, sh, q⟩
  have hn := g.n
  have hR := g.R
  have hfew := sh.few
  unfold t_shows_through
  refine seqG fun v1 hv1 => ?_
  simp only [dSeq, dNext, dRet, dRetN, dIfS, dAsg, dAsgG, dDrop, dPar2, dPar3, dAug, dAugS, dFor, dOp, dVar, dC, dTest, dChain, dAnd, dOr, dNot, dAndV, dOrV, dNotV, dIf, dTup, dLst, dNil, dCons, dStar, dCB, dCall, dFrz, dSl, dNoPart, dPart, dBM, dRev, dNeg, dIsi, dListRg, dTupRg, dRg1, dRg2, dLc, dIt, dEnum, dZip2, dZip3, dEnZ, dRng1, dRng2, dYes, gN, gT, gsNil, gsCons, gSb, oI, oI0, oAdd, oMulA, oSub, oFdiv, oMod, oPow, oLt, oLe, oGt, oGe, oEq, oNe, oIsN, oNotN, oIsB, oNotB, oIx, oSl, oLen, oSum, oAll, oAny, oAbs, o1I, o2I, oMin2, oMax2, oMin, oMax, oMinL, oMaxL, oInt, oBool, oList, oTuple, oSorted, oSortedT, oSortedD, dSortSet, dDNew, dDOne, oDGet, oDIn, oDSet, keyOD, oIn, oAddI, oGet, oSet, oAppend, oExtend, oPop, oPopAt, oIndexL, oIndexT, oInsert, oRemove, dTupX, dBMX, dLenSet, newL, startD, wipeD, D.tyN, List.map_cons, List.map_nil, List.cons_append, List.nil_append, List.length_cons, List.length_nil, List.getElem?_cons_zero, List.getElem?_cons_succ, List.set_cons_zero, List.set_cons_succ, List.replicate, Nat.sub_self, Nat.reduceSub, Nat.reduceAdd, Nat.zero_add, kb_ii, kb_ib, kb_it, kb_is, kb_bi, kb_bb, kb_bt, kb_bs, kb_tt, kb_ti, kb_ts, kb_ss, kb_si, kb_st, kb_nt, kb_ni, kb_ns, kb_lt, kb_li, kb_ls, ex_some, seq_tup, seq_tpx, itOf_tpx, seq_lst, seq_fz, list_lst, lsts_lst, lsts_fz, itOf_tup, itOf_lst, itOf_fz, now_int, now_bl, now_non, now_str, now_tup, now_lst, isNon_non, isNon_int, isNon_tup, isNon_ref, isNon_lst, isNon_str, isNon_bl]
  refine ⟨G, R, rfl, g, ?_⟩
  subst hv1
  refine seqG fun v2 hv2 => ?_
  simp only [dSeq, dNext, dRet, dRetN, dIfS, dAsg, dAsgG, dDrop, dPar2, dPar3, dAug, dAugS, dFor, dOp, dVar, dC, dTest, dChain, dAnd, dOr, dNot, dAndV, dOrV, dNotV, dIf, dTup, dLst, dNil, dCons, dStar, dCB, dCall, dFrz, dSl, dNoPart, dPart, dBM, dRev, dNeg, dIsi, dListRg, dTupRg, dRg1, dRg2, dLc, dIt, dEnum, dZip2, dZip3, dEnZ, dRng1, dRng2, dYes, gN, gT, gsNil, gsCons, gSb, oI, oI0, oAdd, oMulA, oSub, oFdiv, oMod, oPow, oLt, oLe, oGt, oGe, oEq, oNe, oIsN, oNotN, oIsB, oNotB, oIx, oSl, oLen, oSum, oAll, oAny, oAbs, o1I, o2I, oMin2, oMax2, oMin, oMax, oMinL, oMaxL, oInt, oBool, oList, oTuple, oSorted, oSortedT, oSortedD, dSortSet, dDNew, dDOne, oDGet, oDIn, oDSet, keyOD, oIn, oAddI, oGet, oSet, oAppend, oExtend, oPop, oPopAt, oIndexL, oIndexT, oInsert, oRemove, dTupX, dBMX, dLenSet, newL, startD, wipeD, D.tyN, List.map_cons, List.map_nil, List.cons_append, List.nil_append, List.length_cons, List.length_nil, List.getElem?_cons_zero, List.getElem?_cons_succ, List.set_cons_zero, List.set_cons_succ, List.replicate, Nat.sub_self, Nat.reduceSub, Nat.reduceAdd, Nat.zero_add, kb_ii, kb_ib, kb_it, kb_is, kb_bi, kb_bb, kb_bt, kb_bs, kb_tt, kb_ti, kb_ts, kb_ss, kb_si, kb_st, kb_nt, kb_ni, kb_ns, kb_lt, kb_li, kb_ls, ex_some, seq_tup, seq_tpx, itOf_tpx, seq_lst, seq_fz, list_lst, lsts_lst, lsts_fz, itOf_tup, itOf_lst, itOf_fz, now_int, now_bl, now_non, now_str, now_tup, now_lst, isNon_non, isNon_int, isNon_tup, isNon_ref, isNon_lst, isNon_str, isNon_bl, a40, a41, a42]
  refine ⟨small (by decide), _, _, [4], rfl, by decide, by simp, ?_⟩
  simp only [Bool.not_true]
  refine ⟨⟨okn_str (by decide +kernel), okn_str (by decide +kernel)⟩, ?_⟩
  rw [eqD_refl (n := 8) (okn_str (by decide +kernel))]
  simp only [Bool.not_true]
  refine ⟨G, R, U, rfl, g, sh.flow, ?_⟩
  simp only [Bool.not_true]
  subst hv2
  refine seqG fun v3 hv3 => ?_
  simp only [dSeq, dNext, dRet, dRetN, dIfS, dAsg, dAsgG, dDrop, dPar2, dPar3, dAug, dAugS, dFor, dOp, dVar, dC, dTest, dChain, dAnd, dOr, dNot, dAndV, dOrV, dNotV, dIf, dTup, dLst, dNil, dCons, dStar, dCB, dCall, dFrz, dSl, dNoPart, dPart, dBM, dRev, dNeg, dIsi, dListRg, dTupRg, dRg1, dRg2, dLc, dIt, dEnum, dZip2, dZip3, dEnZ, dRng1, dRng2, dYes, gN, gT, gsNil, gsCons, gSb, oI, oI0, oAdd, oMulA, oSub, oFdiv, oMod, oPow, oLt, oLe, oGt, oGe, oEq, oNe, oIsN, oNotN, oIsB, oNotB, oIx, oSl, oLen, oSum, oAll, oAny, oAbs, o1I, o2I, oMin2, oMax2, oMin, oMax, oMinL, oMaxL, oInt, oBool, oList, oTuple, oSorted, oSortedT, oSortedD, dSortSet, dDNew, dDOne, oDGet, oDIn, oDSet, keyOD, oIn, oAddI, oGet, oSet, oAppend, oExtend, oPop, oPopAt, oIndexL, oIndexT, oInsert, oRemove, dTupX, dBMX, dLenSet, newL, startD, wipeD, D.tyN, List.map_cons, List.map_nil, List.cons_append, List.nil_append, List.length_cons, List.length_nil, List.getElem?_cons_zero, List.getElem?_cons_succ, List.set_cons_zero, List.set_cons_succ, List.replicate, Nat.sub_self, Nat.reduceSub, Nat.reduceAdd, Nat.zero_add, kb_ii, kb_ib, kb_it, kb_is, kb_bi, kb_bb, kb_bt, kb_bs, kb_tt, kb_ti, kb_ts, kb_ss, kb_si, kb_st, kb_nt, kb_ni, kb_ns, kb_lt, kb_li, kb_ls, ex_some, seq_tup, seq_tpx, itOf_tpx, seq_lst, seq_fz, list_lst, lsts_lst, lsts_fz, itOf_tup, itOf_lst, itOf_fz, now_int, now_bl, now_non, now_str, now_tup, now_lst, isNon_non, isNon_int, isNon_tup, isNon_ref, isNon_lst, isNon_str, isNon_bl, a43]
  subst hv3
  refine seqG fun v4 hv4 => ?_
  simp only [dSeq, dNext, dRet, dRetN, dIfS, dAsg, dAsgG, dDrop, dPar2, dPar3, dAug, dAugS, dFor, dOp, dVar, dC, dTest, dChain, dAnd, dOr, dNot, dAndV, dOrV, dNotV, dIf, dTup, dLst, dNil, dCons, dStar, dCB, dCall, dFrz, dSl, dNoPart, dPart, dBM, dRev, dNeg, dIsi, dListRg, dTupRg, dRg1, dRg2, dLc, dIt, dEnum, dZip2, dZip3, dEnZ, dRng1, dRng2, dYes, gN, gT, gsNil, gsCons, gSb, oI, oI0, oAdd, oMulA, oSub, oFdiv, oMod, oPow, oLt, oLe, oGt, oGe, oEq, oNe, oIsN, oNotN, oIsB, oNotB, oIx, oSl, oLen, oSum, oAll, oAny, oAbs, o1I, o2I, oMin2, oMax2, oMin, oMax, oMinL, oMaxL, oInt, oBool, oList, oTuple, oSorted, oSortedT, oSortedD, dSortSet, dDNew, dDOne, oDGet, oDIn, oDSet, keyOD, oIn, oAddI, oGet, oSet, oAppend, oExtend, oPop, oPopAt, oIndexL, oIndexT, oInsert, oRemove, dTupX, dBMX, dLenSet, newL, startD, wipeD, D.tyN, List.map_cons, List.map_nil, List.cons_append, List.nil_append, List.length_cons, List.length_nil, List.getElem?_cons_zero, List.getElem?_cons_succ, List.set_cons_zero, List.set_cons_succ, List.replicate, Nat.sub_self, Nat.reduceSub, Nat.reduceAdd, Nat.zero_add, kb_ii, kb_ib, kb_it, kb_is, kb_bi, kb_bb, kb_bt, kb_bs, kb_tt, kb_ti, kb_ts, kb_ss, kb_si, kb_st, kb_nt, kb_ni, kb_ns, kb_lt, kb_li, kb_ls, ex_some, seq_tup, seq_tpx, itOf_tpx, seq_lst, seq_fz, list_lst, lsts_lst, lsts_fz, itOf_tup, itOf_lst, itOf_fz, now_int, now_bl, now_non, now_str, now_tup, now_lst, isNon_non, isNon_int, isNon_tup, isNon_ref, isNon_lst, isNon_str, isNon_bl]
  refine ⟨ys, 0, R - 2, rfl, small (by omega), ?_⟩
  rw [inB_true sh.bd]
  simp only [Bool.not_true]
  refine ⟨ys, rfl, by omega, fun zs z1 z2 => ?_⟩
  obtain rfl := rise_eq z1 sh.rise z2
  have okZ : D.okn 8 (.lst (zs.map D.int)) = true := by rw [okn_lst]; exact okn_ints
  refine ⟨⟨okZ, okZ⟩, ?_⟩
  rw [eqD_refl okZ]
  simp only [Bool.not_true, if_true]
  refine ⟨⟨okn_int, okn_ints⟩, ?_⟩
  rw [any_mem, decide_eq_true sh.st]
  simp only [Bool.not_true]
  subst hv4
  refine seqG fun v5 hv5 => ?_
  simp only [dSeq, dNext, dRet, dRetN, dIfS, dAsg, dAsgG, dDrop, dPar2, dPar3, dAug, dAugS, dFor, dOp, dVar, dC, dTest, dChain, dAnd, dOr, dNot, dAndV, dOrV, dNotV, dIf, dTup, dLst, dNil, dCons, dStar, dCB, dCall, dFrz, dSl, dNoPart, dPart, dBM, dRev, dNeg, dIsi, dListRg, dTupRg, dRg1, dRg2, dLc, dIt, dEnum, dZip2, dZip3, dEnZ, dRng1, dRng2, dYes, gN, gT, gsNil, gsCons, gSb, oI, oI0, oAdd, oMulA, oSub, oFdiv, oMod, oPow, oLt, oLe, oGt, oGe, oEq, oNe, oIsN, oNotN, oIsB, oNotB, oIx, oSl, oLen, oSum, oAll, oAny, oAbs, o1I, o2I, oMin2, oMax2, oMin, oMax, oMinL, oMaxL, oInt, oBool, oList, oTuple, oSorted, oSortedT, oSortedD, dSortSet, dDNew, dDOne, oDGet, oDIn, oDSet, keyOD, oIn, oAddI, oGet, oSet, oAppend, oExtend, oPop, oPopAt, oIndexL, oIndexT, oInsert, oRemove, dTupX, dBMX, dLenSet, newL, startD, wipeD, D.tyN, List.map_cons, List.map_nil, List.cons_append, List.nil_append, List.length_cons, List.length_nil, List.getElem?_cons_zero, List.getElem?_cons_succ, List.set_cons_zero, List.set_cons_succ, List.replicate, Nat.sub_self, Nat.reduceSub, Nat.reduceAdd, Nat.zero_add, kb_ii, kb_ib, kb_it, kb_is, kb_bi, kb_bb, kb_bt, kb_bs, kb_tt, kb_ti, kb_ts, kb_ss, kb_si, kb_st, kb_nt, kb_ni, kb_ns, kb_lt, kb_li, kb_ls, ex_some, seq_tup, seq_tpx, itOf_tpx, seq_lst, seq_fz, list_lst, lsts_lst, lsts_fz, itOf_tup, itOf_lst, itOf_fz, now_int, now_bl, now_non, now_str, now_tup, now_lst, isNon_non, isNon_int, isNon_tup, isNon_ref, isNon_lst, isNon_str, isNon_bl, a42]
  refine ⟨G, _, U, 0, rfl, .inl rfl, sh.flow.len, by omega, ?_⟩
  subst hv5
  simp only [dSeq, dNext, dRet, dRetN, dIfS, dAsg, dAsgG, dDrop, dPar2, dPar3, dAug, dAugS, dFor, dOp, dVar, dC, dTest, dChain, dAnd, dOr, dNot, dAndV, dOrV, dNotV, dIf, dTup, dLst, dNil, dCons, dStar, dCB, dCall, dFrz, dSl, dNoPart, dPart, dBM, dRev, dNeg, dIsi, dListRg, dTupRg, dRg1, dRg2, dLc, dIt, dEnum, dZip2, dZip3, dEnZ, dRng1, dRng2, dYes, gN, gT, gsNil, gsCons, gSb, oI, oI0, oAdd, oMulA, oSub, oFdiv, oMod, oPow, oLt, oLe, oGt, oGe, oEq, oNe, oIsN, oNotN, oIsB, oNotB, oIx, oSl, oLen, oSum, oAll, oAny, oAbs, o1I, o2I, oMin2, oMax2, oMin, oMax, oMinL, oMaxL, oInt, oBool, oList, oTuple, oSorted, oSortedT, oSortedD, dSortSet, dDNew, dDOne, oDGet, oDIn, oDSet, keyOD, oIn, oAddI, oGet, oSet, oAppend, oExtend, oPop, oPopAt, oIndexL, oIndexT, oInsert, oRemove, dTupX, dBMX, dLenSet, newL, startD, wipeD, D.tyN, List.map_cons, List.map_nil, List.cons_append, List.nil_append, List.length_cons, List.length_nil, List.getElem?_cons_zero, List.getElem?_cons_succ, List.set_cons_zero, List.set_cons_succ, List.replicate, Nat.sub_self, Nat.reduceSub, Nat.reduceAdd, Nat.zero_add, kb_ii, kb_ib, kb_it, kb_is, kb_bi, kb_bb, kb_bt, kb_bs, kb_tt, kb_ti, kb_ts, kb_ss, kb_si, kb_st, kb_nt, kb_ni, kb_ns, kb_lt, kb_li, kb_ls, ex_some, seq_tup, seq_tpx, itOf_tpx, seq_lst, seq_fz, list_lst, lsts_lst, lsts_fz, itOf_tup, itOf_lst, itOf_fz, now_int, now_bl, now_non, now_str, now_tup, now_lst, isNon_non, isNon_int, isNon_tup, isNon_ref, isNon_lst, isNon_str, isNon_bl, a41]
  refine ⟨_, _, _, rfl, ?_⟩
  rw [decide_eq_true (Int.le_refl _)]
  simp only [Bool.and_true]
  refine ⟨G, zs, rfl, by omega, ?_⟩
  refine ⟨⟨okn_int, okn_int⟩, ?_⟩
  simp only [now_int]
  rw [eqD_int, decide_eq_true sh.cut]
  exact .here q
/-! ### gates that bar -/
def Bar (R : Int) (G : List Gate) (v : Int) (i : Nat) : Prop := ∀ S : Int → Bool, S 0 = true → S (R - 1) = false → cap G S = v → S (gt G i).a = true ∧ S (gt G i).b = false
open Classical in
noncomputable def bars (R : Int) (G : List Gate) (v : Int) : List Nat := (List.range G.length).filter fun i => decide (Bar R G v i)
def sp_gates_that_bar : DSp := fun ds S Q => ∃ (G : List Gate) (R : Int), ds = [.int R, .tup (G.map eG)] ∧ GG R G ∧ ∀ v, IsMin R G v → Q (.tup ((bars R G v).map nI)) S
open Classical in
theorem pure_gates_that_bar : ∀ ds S Q, sp_gates_that_bar ds S Q → t_gates_that_bar sp_look_at_gates sp_told_flow sp_told_ways (DeN Q) (startD N_gates_that_bar ds) S := by
  rintro ds S Q ⟨G, R, rfl, g, q⟩
  have hn := g.n
  have hR := g.R
  unfold t_gates_that_bar
  refine seqG fun v1 hv1 => ?_
  simp only [dSeq, dNext, dRet, dRetN, dIfS, dAsg, dAsgG, dDrop, dPar2, dPar3, dAug, dAugS, dFor, dOp, dVar, dC, dTest, dChain, dAnd, dOr, dNot, dAndV, dOrV, dNotV, dIf, dTup, dLst, dNil, dCons, dStar, dCB, dCall, dFrz, dSl, dNoPart, dPart, dBM, dRev, dNeg, dIsi, dListRg, dTupRg, dRg1, dRg2, dLc, dIt, dEnum, dZip2, dZip3, dEnZ, dRng1, dRng2, dYes, gN, gT, gsNil, gsCons, gSb, oI, oI0, oAdd, oMulA, oSub, oFdiv, oMod, oPow, oLt, oLe, oGt, oGe, oEq, oNe, oIsN, oNotN, oIsB, oNotB, oIx, oSl, oLen, oSum, oAll, oAny, oAbs, o1I, o2I, oMin2, oMax2, oMin, oMax, oMinL, oMaxL, oInt, oBool, oList, oTuple, oSorted, oSortedT, oSortedD, dSortSet, dDNew, dDOne, oDGet, oDIn, oDSet, keyOD, oIn, oAddI, oGet, oSet, oAppend, oExtend, oPop, oPopAt, oIndexL, oIndexT, oInsert, oRemove, dTupX, dBMX, dLenSet, newL, startD, wipeD, D.tyN, List.map_cons, List.map_nil, List.cons_append, List.nil_append, List.length_cons, List.length_nil, List.getElem?_cons_zero, List.getElem?_cons_succ, List.set_cons_zero, List.set_cons_succ, List.replicate, Nat.sub_self, Nat.reduceSub, Nat.reduceAdd, Nat.zero_add, kb_ii, kb_ib, kb_it, kb_is, kb_bi, kb_bb, kb_bt, kb_bs, kb_tt, kb_ti, kb_ts, kb_ss, kb_si, kb_st, kb_nt, kb_ni, kb_ns, kb_lt, kb_li, kb_ls, ex_some, seq_tup, seq_tpx, itOf_tpx, seq_lst, seq_fz, list_lst, lsts_lst, lsts_fz, itOf_tup, itOf_lst, itOf_fz, now_int, now_bl, now_non, now_str, now_tup, now_lst, isNon_non, isNon_int, isNon_tup, isNon_ref, isNon_lst, isNon_str, isNon_bl]
  refine ⟨G, R, rfl, g, ?_⟩
  subst hv1
  refine seqG fun v2 hv2 => ?_
  simp only [dSeq, dNext, dRet, dRetN, dIfS, dAsg, dAsgG, dDrop, dPar2, dPar3, dAug, dAugS, dFor, dOp, dVar, dC, dTest, dChain, dAnd, dOr, dNot, dAndV, dOrV, dNotV, dIf, dTup, dLst, dNil, dCons, dStar, dCB, dCall, dFrz, dSl, dNoPart, dPart, dBM, dRev, dNeg, dIsi, dListRg, dTupRg, dRg1, dRg2, dLc, dIt, dEnum, dZip2, dZip3, dEnZ, dRng1, dRng2, dYes, gN, gT, gsNil, gsCons, gSb, oI, oI0, oAdd, oMulA, oSub, oFdiv, oMod, oPow, oLt, oLe, oGt, oGe, oEq, oNe, oIsN, oNotN, oIsB, oNotB, oIx, oSl, oLen, oSum, oAll, oAny, oAbs, o1I, o2I, oMin2, oMax2, oMin, oMax, oMinL, oMaxL, oInt, oBool, oList, oTuple, oSorted, oSortedT, oSortedD, dSortSet, dDNew, dDOne, oDGet, oDIn, oDSet, keyOD, oIn, oAddI, oGet, oSet, oAppend, oExtend, oPop, oPopAt, oIndexL, oIndexT, oInsert, oRemove, dTupX, dBMX, dLenSet, newL, startD, wipeD, D.tyN, List.map_cons, List.map_nil, List.cons_append, List.nil_append, List.length_cons, List.length_nil, List.getElem?_cons_zero, List.getElem?_cons_succ, List.set_cons_zero, List.set_cons_succ, List.replicate, Nat.sub_self, Nat.reduceSub, Nat.reduceAdd, Nat.zero_add, kb_ii, kb_ib, kb_it, kb_is, kb_bi, kb_bb, kb_bt, kb_bs, kb_tt, kb_ti, kb_ts, kb_ss, kb_si, kb_st, kb_nt, kb_ni, kb_ns, kb_lt, kb_li, kb_ls, ex_some, seq_tup, seq_tpx, itOf_tpx, seq_lst, seq_fz, list_lst, lsts_lst, lsts_fz, itOf_tup, itOf_lst, itOf_fz, now_int, now_bl, now_non, now_str, now_tup, now_lst, isNon_non, isNon_int, isNon_tup, isNon_ref, isNon_lst, isNon_str, isNon_bl]
  refine ⟨G, R, rfl, g, fun U E pu pw hf hne hpu hpw => ?_⟩
  simp only []
  refine ⟨rfl, ?_⟩
  have hS1 : ((S.up pu (.lst (U.map D.int))).up pw (.dK (encE E))) pu = some (.lst (U.map D.int)) := by rw [Sto.up_ne hne]; exact Sto.up_same
  have hS2 : ((S.up pu (.lst (U.map D.int))).up pw (.dK (encE E))) pw = some (.dK (encE E)) := Sto.up_same
  have hE : Ext S ((S.up pu (.lst (U.map D.int))).up pw (.dK (encE E))) := ext_two hpu hpw
  generalize (S.up pu (.lst (U.map D.int))).up pw (.dK (encE E)) = S1 at hS1 hS2 hE ⊢
  subst hv2
  refine seqG fun v3 hv3 => ?_
  simp only [dSeq, dNext, dRet, dRetN, dIfS, dAsg, dAsgG, dDrop, dPar2, dPar3, dAug, dAugS, dFor, dOp, dVar, dC, dTest, dChain, dAnd, dOr, dNot, dAndV, dOrV, dNotV, dIf, dTup, dLst, dNil, dCons, dStar, dCB, dCall, dFrz, dSl, dNoPart, dPart, dBM, dRev, dNeg, dIsi, dListRg, dTupRg, dRg1, dRg2, dLc, dIt, dEnum, dZip2, dZip3, dEnZ, dRng1, dRng2, dYes, gN, gT, gsNil, gsCons, gSb, oI, oI0, oAdd, oMulA, oSub, oFdiv, oMod, oPow, oLt, oLe, oGt, oGe, oEq, oNe, oIsN, oNotN, oIsB, oNotB, oIx, oSl, oLen, oSum, oAll, oAny, oAbs, o1I, o2I, oMin2, oMax2, oMin, oMax, oMinL, oMaxL, oInt, oBool, oList, oTuple, oSorted, oSortedT, oSortedD, dSortSet, dDNew, dDOne, oDGet, oDIn, oDSet, keyOD, oIn, oAddI, oGet, oSet, oAppend, oExtend, oPop, oPopAt, oIndexL, oIndexT, oInsert, oRemove, dTupX, dBMX, dLenSet, newL, startD, wipeD, D.tyN, List.map_cons, List.map_nil, List.cons_append, List.nil_append, List.length_cons, List.length_nil, List.getElem?_cons_zero, List.getElem?_cons_succ, List.set_cons_zero, List.set_cons_succ, List.replicate, Nat.sub_self, Nat.reduceSub, Nat.reduceAdd, Nat.zero_add, kb_ii, kb_ib, kb_it, kb_is, kb_bi, kb_bb, kb_bt, kb_bs, kb_tt, kb_ti, kb_ts, kb_ss, kb_si, kb_st, kb_nt, kb_ni, kb_ns, kb_lt, kb_li, kb_ls, ex_some, seq_tup, seq_tpx, itOf_tpx, seq_lst, seq_fz, list_lst, lsts_lst, lsts_fz, itOf_tup, itOf_lst, itOf_fz, now_int, now_bl, now_non, now_str, now_tup, now_lst, isNon_non, isNon_int, isNon_tup, isNon_ref, isNon_lst, isNon_str, isNon_bl]
  refine lc_mapE G eG (fun x => eG ⟨x.b, x.a, x.c⟩) (fun _ _ => trivial) (small (by omega)) (fun x hx S' e N M h => ?_) ?_
  · simp only [dSeq, dNext, dRet, dRetN, dIfS, dAsg, dAsgG, dDrop, dPar2, dPar3, dAug, dAugS, dFor, dOp, dVar, dC, dTest, dChain, dAnd, dOr, dNot, dAndV, dOrV, dNotV, dIf, dTup, dLst, dNil, dCons, dStar, dCB, dCall, dFrz, dSl, dNoPart, dPart, dBM, dRev, dNeg, dIsi, dListRg, dTupRg, dRg1, dRg2, dLc, dIt, dEnum, dZip2, dZip3, dEnZ, dRng1, dRng2, dYes, gN, gT, gsNil, gsCons, gSb, oI, oI0, oAdd, oMulA, oSub, oFdiv, oMod, oPow, oLt, oLe, oGt, oGe, oEq, oNe, oIsN, oNotN, oIsB, oNotB, oIx, oSl, oLen, oSum, oAll, oAny, oAbs, o1I, o2I, oMin2, oMax2, oMin, oMax, oMinL, oMaxL, oInt, oBool, oList, oTuple, oSorted, oSortedT, oSortedD, dSortSet, dDNew, dDOne, oDGet, oDIn, oDSet, keyOD, oIn, oAddI, oGet, oSet, oAppend, oExtend, oPop, oPopAt, oIndexL, oIndexT, oInsert, oRemove, dTupX, dBMX, dLenSet, newL, startD, wipeD, D.tyN, List.map_cons, List.map_nil, List.cons_append, List.nil_append, List.length_cons, List.length_nil, List.getElem?_cons_zero, List.getElem?_cons_succ, List.set_cons_zero, List.set_cons_succ, List.replicate, Nat.sub_self, Nat.reduceSub, Nat.reduceAdd, Nat.zero_add, kb_ii, kb_ib, kb_it, kb_is, kb_bi, kb_bb, kb_bt, kb_bs, kb_tt, kb_ti, kb_ts, kb_ss, kb_si, kb_st, kb_nt, kb_ni, kb_ns, kb_lt, kb_li, kb_ls, ex_some, seq_tup, seq_tpx, itOf_tpx, seq_lst, seq_fz, list_lst, lsts_lst, lsts_fz, itOf_tup, itOf_lst, itOf_fz, now_int, now_bl, now_non, now_str, now_tup, now_lst, isNon_non, isNon_int, isNon_tup, isNon_ref, isNon_lst, isNon_str, isNon_bl, eG]
    exact ⟨trivial, small (by decide), h⟩
  simp only [dSeq, dNext, dRet, dRetN, dIfS, dAsg, dAsgG, dDrop, dPar2, dPar3, dAug, dAugS, dFor, dOp, dVar, dC, dTest, dChain, dAnd, dOr, dNot, dAndV, dOrV, dNotV, dIf, dTup, dLst, dNil, dCons, dStar, dCB, dCall, dFrz, dSl, dNoPart, dPart, dBM, dRev, dNeg, dIsi, dListRg, dTupRg, dRg1, dRg2, dLc, dIt, dEnum, dZip2, dZip3, dEnZ, dRng1, dRng2, dYes, gN, gT, gsNil, gsCons, gSb, oI, oI0, oAdd, oMulA, oSub, oFdiv, oMod, oPow, oLt, oLe, oGt, oGe, oEq, oNe, oIsN, oNotN, oIsB, oNotB, oIx, oSl, oLen, oSum, oAll, oAny, oAbs, o1I, o2I, oMin2, oMax2, oMin, oMax, oMinL, oMaxL, oInt, oBool, oList, oTuple, oSorted, oSortedT, oSortedD, dSortSet, dDNew, dDOne, oDGet, oDIn, oDSet, keyOD, oIn, oAddI, oGet, oSet, oAppend, oExtend, oPop, oPopAt, oIndexL, oIndexT, oInsert, oRemove, dTupX, dBMX, dLenSet, newL, startD, wipeD, D.tyN, List.map_cons, List.map_nil, List.cons_append, List.nil_append, List.length_cons, List.length_nil, List.getElem?_cons_zero, List.getElem?_cons_succ, List.set_cons_zero, List.set_cons_succ, List.replicate, Nat.sub_self, Nat.reduceSub, Nat.reduceAdd, Nat.zero_add, kb_ii, kb_ib, kb_it, kb_is, kb_bi, kb_bb, kb_bt, kb_bs, kb_tt, kb_ti, kb_ts, kb_ss, kb_si, kb_st, kb_nt, kb_ni, kb_ns, kb_lt, kb_li, kb_ls, ex_some, seq_tup, seq_tpx, itOf_tpx, seq_lst, seq_fz, list_lst, lsts_lst, lsts_fz, itOf_tup, itOf_lst, itOf_fz, now_int, now_bl, now_non, now_str, now_tup, now_lst, isNon_non, isNon_int, isNon_tup, isNon_ref, isNon_lst, isNon_str, isNon_bl]
  have erev : G.map (fun x => eG ⟨x.b, x.a, x.c⟩) = (rev1 G).map eG := by unfold rev1; rw [List.map_map]; rfl
  rw [erev]
  refine ⟨_, rev1 G, pu, U, R - 1, R, rfl, .inr rfl, hS1, by unfold rev1; rw [List.length_map]; exact hf.flow.len, g.rev1, by omega, fun B pb hB hpb => ?_⟩
  have hwb : pw ≠ pb := ne_of_in hS2 hpb
  have hpb0 : S pb = none := hE.none hpb
  have hS3 : (S1.up pb (.dK (encE B))) pw = some (.dK (encE E)) := by rw [Sto.up_ne hwb]; exact hS2
  have hS4 : (S1.up pb (.dK (encE B))) pb = some (.dK (encE B)) := Sto.up_same
  have hE2 : Ext S (S1.up pb (.dK (encE B))) := hE.set hpb0
  generalize S1.up pb (.dK (encE B)) = S2 at hS3 hS4 hE2 ⊢
  subst hv3
  simp only [dSeq, dNext, dRet, dRetN, dIfS, dAsg, dAsgG, dDrop, dPar2, dPar3, dAug, dAugS, dFor, dOp, dVar, dC, dTest, dChain, dAnd, dOr, dNot, dAndV, dOrV, dNotV, dIf, dTup, dLst, dNil, dCons, dStar, dCB, dCall, dFrz, dSl, dNoPart, dPart, dBM, dRev, dNeg, dIsi, dListRg, dTupRg, dRg1, dRg2, dLc, dIt, dEnum, dZip2, dZip3, dEnZ, dRng1, dRng2, dYes, gN, gT, gsNil, gsCons, gSb, oI, oI0, oAdd, oMulA, oSub, oFdiv, oMod, oPow, oLt, oLe, oGt, oGe, oEq, oNe, oIsN, oNotN, oIsB, oNotB, oIx, oSl, oLen, oSum, oAll, oAny, oAbs, o1I, o2I, oMin2, oMax2, oMin, oMax, oMinL, oMaxL, oInt, oBool, oList, oTuple, oSorted, oSortedT, oSortedD, dSortSet, dDNew, dDOne, oDGet, oDIn, oDSet, keyOD, oIn, oAddI, oGet, oSet, oAppend, oExtend, oPop, oPopAt, oIndexL, oIndexT, oInsert, oRemove, dTupX, dBMX, dLenSet, newL, startD, wipeD, D.tyN, List.map_cons, List.map_nil, List.cons_append, List.nil_append, List.length_cons, List.length_nil, List.getElem?_cons_zero, List.getElem?_cons_succ, List.set_cons_zero, List.set_cons_succ, List.replicate, Nat.sub_self, Nat.reduceSub, Nat.reduceAdd, Nat.zero_add, kb_ii, kb_ib, kb_it, kb_is, kb_bi, kb_bb, kb_bt, kb_bs, kb_tt, kb_ti, kb_ts, kb_ss, kb_si, kb_st, kb_nt, kb_ni, kb_ns, kb_lt, kb_li, kb_ls, ex_some, seq_tup, seq_tpx, itOf_tpx, seq_lst, seq_fz, list_lst, lsts_lst, lsts_fz, itOf_tup, itOf_lst, itOf_fz, now_int, now_bl, now_non, now_str, now_tup, now_lst, isNon_non, isNon_int, isNon_tup, isNon_ref, isNon_lst, isNon_str, isNon_bl]
  rw [enum_map]
  have ez : G.zipIdx 0 = (List.range G.length).map fun i => (gt G i, i) := by
    apply List.ext_getElem?
    intro i
    rw [List.getElem?_map, List.getElem?_zipIdx]
    by_cases hi : i < G.length
    · rw [List.getElem?_range hi, List.getElem?_eq_getElem hi]
      unfold gt
      rw [Option.map_some, Option.map_some, List.getD_eq_getElem?_getD, List.getElem?_eq_getElem hi]; simp
    · rw [List.getElem?_eq_none (by omega), List.getElem?_eq_none (by rw [List.length_range]; omega)]; rfl
  rw [ez, List.map_map]
  have hmin := hf.min g
  have hbar : ∀ i, i < G.length → ((gt G i).a ∈ rm E ∧ (gt G i).b ∈ rm B ↔ Bar R G (out G U 0) i) := fun i hi => by
    rw [hf.ahead g, hf.back g hB]
    constructor
    · rintro ⟨h1, h2⟩ S a b c; exact ⟨h1 S a b c, h2 S a b c⟩
    · intro h; exact ⟨fun S a b c => (h S a b c).1, fun S a b c => (h S a b c).2⟩
  refine lc_mapK (List.range G.length) _ (fun i => decide ((gt G i).a ∈ rm E) && decide ((gt G i).b ∈ rm B)) nI (fun _ _ => trivial) (small (by rw [List.length_range]; omega)) (fun i hi S' e N M g1 g2 => ?_) ?_
  · have f1 : S' pw = some (.dK (encE E)) := e _ _ hS3
    have f2 : S' pb = some (.dK (encE B)) := e _ _ hS4
    simp only [Function.comp, dSeq, dNext, dRet, dRetN, dIfS, dAsg, dAsgG, dDrop, dPar2, dPar3, dAug, dAugS, dFor, dOp, dVar, dC, dTest, dChain, dAnd, dOr, dNot, dAndV, dOrV, dNotV, dIf, dTup, dLst, dNil, dCons, dStar, dCB, dCall, dFrz, dSl, dNoPart, dPart, dBM, dRev, dNeg, dIsi, dListRg, dTupRg, dRg1, dRg2, dLc, dIt, dEnum, dZip2, dZip3, dEnZ, dRng1, dRng2, dYes, gN, gT, gsNil, gsCons, gSb, oI, oI0, oAdd, oMulA, oSub, oFdiv, oMod, oPow, oLt, oLe, oGt, oGe, oEq, oNe, oIsN, oNotN, oIsB, oNotB, oIx, oSl, oLen, oSum, oAll, oAny, oAbs, o1I, o2I, oMin2, oMax2, oMin, oMax, oMinL, oMaxL, oInt, oBool, oList, oTuple, oSorted, oSortedT, oSortedD, dSortSet, dDNew, dDOne, oDGet, oDIn, oDSet, keyOD, oIn, oAddI, oGet, oSet, oAppend, oExtend, oPop, oPopAt, oIndexL, oIndexT, oInsert, oRemove, dTupX, dBMX, dLenSet, newL, startD, wipeD, D.tyN, List.map_cons, List.map_nil, List.cons_append, List.nil_append, List.length_cons, List.length_nil, List.getElem?_cons_zero, List.getElem?_cons_succ, List.set_cons_zero, List.set_cons_succ, List.replicate, Nat.sub_self, Nat.reduceSub, Nat.reduceAdd, Nat.zero_add, kb_ii, kb_ib, kb_it, kb_is, kb_bi, kb_bb, kb_bt, kb_bs, kb_tt, kb_ti, kb_ts, kb_ss, kb_si, kb_st, kb_nt, kb_ni, kb_ns, kb_lt, kb_li, kb_ls, ex_some, seq_tup, seq_tpx, itOf_tpx, seq_lst, seq_fz, list_lst, lsts_lst, lsts_fz, itOf_tup, itOf_lst, itOf_fz, now_int, now_bl, now_non, now_str, now_tup, now_lst, isNon_non, isNon_int, isNon_tup, isNon_ref, isNon_lst, isNon_str, isNon_bl, eG, dk_ref f1, dk_ref f2, val_isSome]
    refine ⟨trivial, trivial, ?_⟩
    by_cases h : (gt G i).a ∈ rm E
    · rw [decide_eq_true h] at *
      simp only [Bool.false_eq_true, if_false]
      by_cases h2 : (gt G i).b ∈ rm B
      · rw [decide_eq_true h2] at *
        exact g1 rfl
      · rw [decide_eq_false h2] at *
        exact g2 rfl
    · rw [decide_eq_false h] at *
      simp only [Bool.false_eq_true, if_false]
      exact g2 rfl
  simp only [dSeq, dNext, dRet, dRetN, dIfS, dAsg, dAsgG, dDrop, dPar2, dPar3, dAug, dAugS, dFor, dOp, dVar, dC, dTest, dChain, dAnd, dOr, dNot, dAndV, dOrV, dNotV, dIf, dTup, dLst, dNil, dCons, dStar, dCB, dCall, dFrz, dSl, dNoPart, dPart, dBM, dRev, dNeg, dIsi, dListRg, dTupRg, dRg1, dRg2, dLc, dIt, dEnum, dZip2, dZip3, dEnZ, dRng1, dRng2, dYes, gN, gT, gsNil, gsCons, gSb, oI, oI0, oAdd, oMulA, oSub, oFdiv, oMod, oPow, oLt, oLe, oGt, oGe, oEq, oNe, oIsN, oNotN, oIsB, oNotB, oIx, oSl, oLen, oSum, oAll, oAny, oAbs, o1I, o2I, oMin2, oMax2, oMin, oMax, oMinL, oMaxL, oInt, oBool, oList, oTuple, oSorted, oSortedT, oSortedD, dSortSet, dDNew, dDOne, oDGet, oDIn, oDSet, keyOD, oIn, oAddI, oGet, oSet, oAppend, oExtend, oPop, oPopAt, oIndexL, oIndexT, oInsert, oRemove, dTupX, dBMX, dLenSet, newL, startD, wipeD, D.tyN, List.map_cons, List.map_nil, List.cons_append, List.nil_append, List.length_cons, List.length_nil, List.getElem?_cons_zero, List.getElem?_cons_succ, List.set_cons_zero, List.set_cons_succ, List.replicate, Nat.sub_self, Nat.reduceSub, Nat.reduceAdd, Nat.zero_add, kb_ii, kb_ib, kb_it, kb_is, kb_bi, kb_bb, kb_bt, kb_bs, kb_tt, kb_ti, kb_ts, kb_ss, kb_si, kb_st, kb_nt, kb_ni, kb_ns, kb_lt, kb_li, kb_ls, ex_some, seq_tup, seq_tpx, itOf_tpx, seq_lst, seq_fz, list_lst, lsts_lst, lsts_fz, itOf_tup, itOf_lst, itOf_fz, now_int, now_bl, now_non, now_str, now_tup, now_lst, isNon_non, isNon_int, isNon_tup, isNon_ref, isNon_lst, isNon_str, isNon_bl]
  have := q _ hmin
  unfold bars at this
  rw [List.filter_congr (fun i hi => ?_)] at this
  · exact FzQ.ext hE2 this
  · have hb := hbar i (List.mem_range.mp hi)
    by_cases hB' : Bar R G (out G U 0) i
    · obtain ⟨h1, h2⟩ := hb.mpr hB'
      rw [decide_eq_true hB', decide_eq_true h1, decide_eq_true h2]; rfl
    · rw [decide_eq_false hB']
      by_cases h1 : (gt G i).a ∈ rm E
      · have h2 : (gt G i).b ∉ rm B := fun z => hB' (hb.mp ⟨h1, z⟩)
        rw [decide_eq_false h2, Bool.and_false]
      · rw [decide_eq_false h1, Bool.false_and]
end L47
namespace L47
open PySem PySem.Spec PySem.W PyProof.Rows L2 PL
/-! ### gates changed -/
def cr (S : Int → Bool) (g : Gate) : Int := if S g.a && !S g.b then g.c else 0
theorem sum_sI (f : Nat → Int) : ∀ n, ((List.range n).map f).sum = sI n f
  | 0 => rfl
  | n + 1 => by rw [List.range_succ, List.map_append, List.sum_append, sum_sI f n, sI]; simp
theorem cap_sum (G : List Gate) (S : Int → Bool) : cap G S = (G.map (cr S)).sum := by
  conv => rhs; rw [all_range G]
  rw [List.map_map, sum_sI]
  rfl
theorem cap_app (G H : List Gate) (S : Int → Bool) : cap (G ++ H) S = cap G S + cap H S := by
  rw [cap_sum, cap_sum, cap_sum, List.map_append, List.sum_append]
theorem cap_one (g : Gate) (S : Int → Bool) : cap [g] S = cr S g := by rw [cap_sum]; simp
theorem cap_map {f : Gate → Gate} {G : List Gate} {S S' : Int → Bool} {k : Int} (h : ∀ g, cr S' (f g) = k * cr S g) : cap (G.map f) S' = k * cap G S := by
  rw [cap_sum, cap_sum, List.map_map]
  induction G with
  | nil => simp
  | cons g G ih => rw [List.map_cons, List.map_cons, List.sum_cons, List.sum_cons, ih, Int.mul_add]; show cr S' (f g) + _ = _; rw [h]
theorem cap_congr {G : List Gate} {S S' : Int → Bool} (h : ∀ g ∈ G, cr S g = cr S' g) : cap G S = cap G S' := by
  rw [cap_sum, cap_sum, List.map_congr_left h]
theorem cap_nn {G : List Gate} {S : Int → Bool} (h : ∀ g ∈ G, 0 ≤ g.c) : 0 ≤ cap G S := by
  rw [cap_sum]
  induction G with
  | nil => simp
  | cons g G ih =>
    rw [List.map_cons, List.sum_cons]
    have := ih fun x hx => h x (List.mem_cons_of_mem _ hx)
    have := h g List.mem_cons_self
    have hcr : 0 ≤ cr S g := by unfold cr; split <;> omega
    omega
/-! turned about -/
def bk (R : Int) (g : Gate) : Gate := ⟨R - 1 - g.b, R - 1 - g.a, g.c⟩
def dual (R : Int) (S : Int → Bool) : Int → Bool := fun x => !S (R - 1 - x)
theorem dual_cr (R : Int) (S : Int → Bool) (g : Gate) : cr (dual R S) (bk R g) = 1 * cr S g := by
  unfold cr dual bk
  rw [Int.one_mul, show R - 1 - (R - 1 - g.b) = g.b by omega, show R - 1 - (R - 1 - g.a) = g.a by omega]
  cases S g.a <;> cases S g.b <;> rfl
theorem dual_cap (R : Int) (S : Int → Bool) (G : List Gate) : cap (G.map (bk R)) (dual R S) = cap G S := by
  rw [cap_map (dual_cr R S), Int.one_mul]
theorem dual_dual (R : Int) (S : Int → Bool) : dual R (dual R S) = S := by
  funext x
  unfold dual
  rw [show R - 1 - (R - 1 - x) = x by omega, Bool.not_not]
theorem dual_ends {R : Int} {S : Int → Bool} (h1 : S 0 = true) (h2 : S (R - 1) = false) : dual R S 0 = true ∧ dual R S (R - 1) = false := by
  unfold dual
  rw [show R - 1 - 0 = R - 1 by omega, show R - 1 - (R - 1) = 0 by omega, h1, h2]
  exact ⟨rfl, rfl⟩
theorem IsMin.back {R v : Int} {G : List Gate} (h : IsMin R G v) : IsMin R (G.map (bk R)) v := by
  obtain ⟨S, a, b, c⟩ := h.ex
  refine ⟨⟨dual R S, (dual_ends a b).1, (dual_ends a b).2, by rw [dual_cap, c]⟩, fun S' a' b' => ?_⟩
  have := h.le (dual R S') (dual_ends a' b').1 (dual_ends a' b').2
  rw [← dual_cap R (dual R S') G, dual_dual] at this
  exact this
theorem bars_back {R v : Int} {G : List Gate} : bars R (G.map (bk R)) v = bars R G v := by
  unfold bars
  rw [List.length_map]
  refine List.filter_congr fun i hi => ?_
  have hi' := List.mem_range.mp hi
  have e : Bar R (G.map (bk R)) v i ↔ Bar R G v i := by
    unfold Bar
    rw [gt_map _ hi']
    constructor
    · intro h S a b c
      have := h (dual R S) (dual_ends a b).1 (dual_ends a b).2 (by rw [dual_cap, c])
      unfold dual bk at this
      rw [show R - 1 - (R - 1 - (gt G i).b) = (gt G i).b by omega, show R - 1 - (R - 1 - (gt G i).a) = (gt G i).a by omega] at this
      simp at this
      exact ⟨this.2, this.1⟩
    · intro h S a b c
      have := h (dual R S) (dual_ends a b).1 (dual_ends a b).2 (by rw [← dual_cap R (dual R S) G, dual_dual, c])
      unfold dual at this
      unfold bk
      simp at this
      exact ⟨this.2, this.1⟩
  exact decide_eq_decide.mpr e
/-! wider, side by side, one behind the other -/
def wd (k : Int) (g : Gate) : Gate := ⟨g.a, g.b, k * g.c⟩
theorem IsMin.wide {R v k : Int} {G : List Gate} (h : IsMin R G v) (hk : 0 ≤ k) : IsMin R (G.map (wd k)) (k * v) := by
  have e : ∀ S, cap (G.map (wd k)) S = k * cap G S := fun S => cap_map fun g => by unfold cr wd; split <;> simp
  obtain ⟨S, a, b, c⟩ := h.ex
  exact ⟨⟨S, a, b, by rw [e, c]⟩, fun S' a' b' => by rw [e]; exact Int.mul_le_mul_of_nonneg_left (h.le S' a' b') hk⟩
theorem IsMin.twice {R v : Int} {G : List Gate} (h : IsMin R G v) : IsMin R (G ++ G) (2 * v) := by
  obtain ⟨S, a, b, c⟩ := h.ex
  exact ⟨⟨S, a, b, by rw [cap_app, c]; omega⟩, fun S' a' b' => by have := h.le S' a' b'; rw [cap_app]; omega⟩
theorem IsMin.beside {R v m : Int} {G : List Gate} (h : IsMin R G v) : IsMin R (G ++ [⟨0, R - 1, m⟩]) (v + m) := by
  have e : ∀ S : Int → Bool, S 0 = true → S (R - 1) = false → cap (G ++ [⟨0, R - 1, m⟩]) S = cap G S + m := fun S a b => by
    rw [cap_app, cap_one]; unfold cr; simp [a, b]
  obtain ⟨S, a, b, c⟩ := h.ex
  exact ⟨⟨S, a, b, by rw [e S a b, c]⟩, fun S' a' b' => by rw [e S' a' b']; have := h.le S' a' b'; omega⟩
theorem IsMin.behind {R v m : Int} {G : List Gate} (h : IsMin R G v) (g : GG R G) (hm : 0 ≤ m) : IsMin (R + 1) (G ++ [⟨R - 1, R, m⟩]) (min v m) := by
  have hR := g.R
  have hG : ∀ x ∈ G, 0 ≤ x.c := fun x hx => (g.c x hx).1
  have e1 : R + 1 - 1 = R := by omega
  refine ⟨?_, fun S a b => ?_⟩
  · by_cases hvm : v ≤ m
    · obtain ⟨S, a, b, c⟩ := h.ex
      refine ⟨fun x => S x && decide (x ≠ R), by simp [a]; omega, by rw [e1]; simp, ?_⟩
      rw [cap_app, cap_one, cap_congr (S' := S) fun x hx => ?_]
      · unfold cr; simp [b]; omega
      · have := g.r x hx
        simp only [cr, decide_eq_true (show x.a ≠ R by omega), decide_eq_true (show x.b ≠ R by omega), Bool.and_true, Bool.and_true]
    · refine ⟨fun x => decide (x ≠ R), by simp; omega, by rw [e1]; simp, ?_⟩
      rw [cap_app, cap_one]
      have : cap G (fun x => decide (x ≠ R)) = 0 := by
        rw [cap_sum]
        have e : G.map (cr fun x => decide (x ≠ R)) = G.map fun _ => 0 := List.map_congr_left fun x hx => by
          have := g.r x hx
          simp only [cr, decide_eq_true (show x.b ≠ R by omega)]; simp
        rw [e, List.map_const']
        simp
      rw [this]
      simp only [cr, decide_eq_true (show R - 1 ≠ R by omega), decide_eq_false (show ¬ R ≠ R by simp)]
      simp
      omega
  · rw [e1] at b
    rw [cap_app, cap_one]
    cases h1 : S (R - 1) with
    | true =>
      have := cap_nn (S := S) hG
      unfold cr
      simp [h1, b]
      omega
    | false =>
      have := h.le S a h1
      unfold cr
      simp [h1]
      omega
/-! one gate wider, narrower -/
def withG (G : List Gate) (i : Nat) (m : Int) : List Gate := G.take i ++ [⟨(gt G i).a, (gt G i).b, (gt G i).c + m⟩] ++ G.drop (i + 1)
theorem with_cap {G : List Gate} {i : Nat} (hi : i < G.length) (m : Int) (S : Int → Bool) : cap (withG G i m) S = cap G S + (if S (gt G i).a && !S (gt G i).b then m else 0) := by
  have e : G = G.take i ++ [gt G i] ++ G.drop (i + 1) := by
    have : gt G i = G[i] := by unfold gt; rw [List.getD_eq_getElem?_getD, List.getElem?_eq_getElem hi]; rfl
    rw [this, List.append_assoc, List.singleton_append, ← List.drop_eq_getElem_cons hi, List.take_append_drop]
  conv => rhs; rw [e]
  have hg : gt (G.take i ++ [gt G i] ++ G.drop (i + 1)) i = gt G i := by rw [← e]
  rw [hg]
  unfold withG
  rw [cap_app, cap_app, cap_app, cap_app, cap_one, cap_one]
  unfold cr
  cases S (gt G i).a <;> cases S (gt G i).b <;> simp <;> omega
theorem IsMin.wider {R v : Int} {G : List Gate} (h : IsMin R G v) {i : Nat} (hi : i < G.length) (hb : Bar R G v i) : IsMin R (withG G i 1) (v + 1) := by
  obtain ⟨S, a, b, c⟩ := h.ex
  have hb1 := hb S a b c
  refine ⟨⟨S, a, b, by rw [with_cap hi, c, hb1.1, hb1.2]; rfl⟩, fun S' a' b' => ?_⟩
  rw [with_cap hi]
  have h1 := h.le S' a' b'
  by_cases e : cap G S' = v
  · have := hb S' a' b' e
    rw [e, this.1, this.2]; exact Int.le_refl _
  · split <;> omega
theorem IsMin.narrower {R v : Int} {G : List Gate} (h : IsMin R G v) {i : Nat} (hi : i < G.length) (hb : Bar R G v i) : IsMin R (withG G i (-1)) (v + -1) := by
  obtain ⟨S, a, b, c⟩ := h.ex
  have hb1 := hb S a b c
  refine ⟨⟨S, a, b, by rw [with_cap hi, c, hb1.1, hb1.2]; rfl⟩, fun S' a' b' => ?_⟩
  rw [with_cap hi]
  have h1 := h.le S' a' b'
  split <;> omega
/-! the gates told from the end -/
theorem sI_rev (f : Nat → Int) : ∀ n, sI n (fun i => f (n - 1 - i)) = sI n f := fun n => by
  rw [← sum_sI, ← sum_sI]
  have : (List.range n).map (fun i => f (n - 1 - i)) = ((List.range n).map f).reverse := by
    apply List.ext_getElem (by simp)
    intro i h1 h2
    rw [List.getElem_map, List.getElem_reverse, List.getElem_map, List.getElem_range, List.getElem_range]
    simp
  rw [this]
  exact List.sum_reverse _
theorem gt_rev {G : List Gate} {i : Nat} (h : i < G.length) : gt G.reverse i = gt G (G.length - 1 - i) := getD_rev _ h
theorem at0_rev {U : List Int} {i : Nat} (h : i < U.length) : at0 U.reverse i = at0 U (U.length - 1 - i) := getD_rev 0 h
theorem out_rev {G : List Gate} {U : List Int} (hU : U.length = G.length) (r : Int) : out G.reverse U.reverse r = out G U r := by
  unfold out
  rw [List.length_reverse]
  rw [← sI_rev (fun i => if (gt G i).a = r then at0 U i else 0), ← sI_rev (fun i => if (gt G i).b = r then at0 U i else 0)]
  congr 1
  · exact sI_congr fun i hi => by simp only [gt_rev hi, at0_rev (show i < U.length by omega), hU]
  · exact sI_congr fun i hi => by simp only [gt_rev hi, at0_rev (show i < U.length by omega), hU]
theorem cap_rev (G : List Gate) (S : Int → Bool) : cap G.reverse S = cap G S := by
  rw [cap_sum, cap_sum, List.map_reverse, List.sum_reverse]
theorem Flow.rev {G : List Gate} {U : List Int} {s t : Int} (f : Flow G U s t) : Flow G.reverse U.reverse s t := by
  refine ⟨by rw [List.length_reverse, List.length_reverse, f.len], fun i hi => ?_, fun r h1 h2 => by rw [out_rev f.len]; exact f.bal r h1 h2⟩
  rw [List.length_reverse] at hi
  have := f.len
  rw [gt_rev hi, at0_rev (by omega), f.len]
  exact f.cap _ (by omega)
theorem GG.rev {R : Int} {G : List Gate} (g : GG R G) : GG R G.reverse := ⟨fun x hx => g.r x (List.mem_reverse.mp hx), fun x hx => g.c x (List.mem_reverse.mp hx), by rw [List.length_reverse]; exact g.n, g.R⟩
theorem Full.shown {R : Int} {G : List Gate} {U : List Int} {E : List Ent} (f : Full R G U E) (g : GG R G) {ys : List Int} (hp : ys.Perm (rm E)) (hs : ys.Pairwise (· ≤ ·)) : Shown R G U ys := by
  have hR := g.R
  have hnd : ys.Nodup := hp.nodup_iff.mpr f.ways.tree.nd
  have hmem : ∀ x, x ∈ ys ↔ x ∈ rm E := fun x => hp.mem_iff
  refine ⟨f.flow, ?_, by rw [hp.length_eq]; exact rooms_few f.ways.tree g (by omega), fun y hy => ?_, (hmem 0).mpr f.ways.tree.start, ?_⟩
  · exact (hs.and hnd).imp fun ⟨h1, h2⟩ => by omega
  · have h1 := f.ways.tree.rooms g (by omega) y ((hmem y).mp hy)
    have h2 : y ≠ R - 1 := fun z => f.goal (by rw [← z]; exact (hmem y).mp hy)
    omega
  · rw [f.cut g]
    congr 1
    funext x
    unfold mem_
    exact decide_eq_decide.mpr (hmem x).symm
theorem Shown.rev {R : Int} {G : List Gate} {U ys : List Int} (s : Shown R G U ys) : Shown R G.reverse U.reverse ys :=
  ⟨s.flow.rev, s.rise, s.few, s.bd, s.st, by rw [out_rev s.flow.len, cap_rev]; exact s.cut⟩
end L47
namespace L47
open PySem PySem.Spec PySem.W PyProof.Rows L2 PL
theorem eqj {a b : Int} {X Y : Prop} (h : a = b) (y : Y) : (D.okn 8 (D.int a) = true ∧ D.okn 8 (D.int b) = true) ∧ (match !eqD (D.int a) (D.int b) with | true => X | false => Y) := by
  refine ⟨⟨okn_int, okn_int⟩, ?_⟩
  rw [eqD_int, decide_eq_true h]
  exact y
def sp__law_with : DSp := fun ds S Q => ∃ (G : List Gate) (i : Nat) (m : Int), ds = [.tup (G.map eG), .int (i : Nat), .int m] ∧ i < G.length ∧ G.length ≤ 1000 ∧ Q (.tup ((withG G i m).map eG)) S
theorem pure__law_with : ∀ ds S Q, sp__law_with ds S Q → t__law_with (DeN Q) (startD N__law_with ds) S := by
  rintro ds S Q ⟨G, i, m, rfl, hi, hn, q⟩
  unfold t__law_with
  refine seqG fun v1 hv1 => ?_
  simp only [dSeq, dNext, dRet, dRetN, dIfS, dAsg, dAsgG, dDrop, dPar2, dPar3, dAug, dAugS, dFor, dOp, dVar, dC, dTest, dChain, dAnd, dOr, dNot, dAndV, dOrV, dNotV, dIf, dTup, dLst, dNil, dCons, dStar, dCB, dCall, dFrz, dSl, dNoPart, dPart, dBM, dRev, dNeg, dIsi, dListRg, dTupRg, dRg1, dRg2, dLc, dIt, dEnum, dZip2, dZip3, dEnZ, dRng1, dRng2, dYes, gN, gT, gsNil, gsCons, gSb, oI, oI0, oAdd, oMulA, oSub, oFdiv, oMod, oPow, oLt, oLe, oGt, oGe, oEq, oNe, oIsN, oNotN, oIsB, oNotB, oIx, oSl, oLen, oSum, oAll, oAny, oAbs, o1I, o2I, oMin2, oMax2, oMin, oMax, oMinL, oMaxL, oInt, oBool, oList, oTuple, oSorted, oSortedT, oSortedD, dSortSet, dDNew, dDOne, oDGet, oDIn, oDSet, keyOD, oIn, oAddI, oGet, oSet, oAppend, oExtend, oPop, oPopAt, oIndexL, oIndexT, oInsert, oRemove, dTupX, dBMX, dLenSet, newL, startD, wipeD, D.tyN, List.map_cons, List.map_nil, List.cons_append, List.nil_append, List.length_cons, List.length_nil, List.getElem?_cons_zero, List.getElem?_cons_succ, List.set_cons_zero, List.set_cons_succ, List.replicate, Nat.sub_self, Nat.reduceSub, Nat.reduceAdd, Nat.zero_add, kb_ii, kb_ib, kb_it, kb_is, kb_bi, kb_bb, kb_bt, kb_bs, kb_tt, kb_ti, kb_ts, kb_ss, kb_si, kb_st, kb_nt, kb_ni, kb_ns, kb_lt, kb_li, kb_ls, ex_some, seq_tup, seq_tpx, itOf_tpx, seq_lst, seq_fz, list_lst, lsts_lst, lsts_fz, itOf_tup, itOf_lst, itOf_fz, now_int, now_bl, now_non, now_str, now_tup, now_lst, isNon_non, isNon_int, isNon_tup, isNon_ref, isNon_lst, isNon_str, isNon_bl, ix_gt hi, eG]
  refine ⟨trivial, ?_⟩
  subst hv1
  simp only [dSeq, dNext, dRet, dRetN, dIfS, dAsg, dAsgG, dDrop, dPar2, dPar3, dAug, dAugS, dFor, dOp, dVar, dC, dTest, dChain, dAnd, dOr, dNot, dAndV, dOrV, dNotV, dIf, dTup, dLst, dNil, dCons, dStar, dCB, dCall, dFrz, dSl, dNoPart, dPart, dBM, dRev, dNeg, dIsi, dListRg, dTupRg, dRg1, dRg2, dLc, dIt, dEnum, dZip2, dZip3, dEnZ, dRng1, dRng2, dYes, gN, gT, gsNil, gsCons, gSb, oI, oI0, oAdd, oMulA, oSub, oFdiv, oMod, oPow, oLt, oLe, oGt, oGe, oEq, oNe, oIsN, oNotN, oIsB, oNotB, oIx, oSl, oLen, oSum, oAll, oAny, oAbs, o1I, o2I, oMin2, oMax2, oMin, oMax, oMinL, oMaxL, oInt, oBool, oList, oTuple, oSorted, oSortedT, oSortedD, dSortSet, dDNew, dDOne, oDGet, oDIn, oDSet, keyOD, oIn, oAddI, oGet, oSet, oAppend, oExtend, oPop, oPopAt, oIndexL, oIndexT, oInsert, oRemove, dTupX, dBMX, dLenSet, newL, startD, wipeD, D.tyN, List.map_cons, List.map_nil, List.cons_append, List.nil_append, List.length_cons, List.length_nil, List.getElem?_cons_zero, List.getElem?_cons_succ, List.set_cons_zero, List.set_cons_succ, List.replicate, Nat.sub_self, Nat.reduceSub, Nat.reduceAdd, Nat.zero_add, kb_ii, kb_ib, kb_it, kb_is, kb_bi, kb_bb, kb_bt, kb_bs, kb_tt, kb_ti, kb_ts, kb_ss, kb_si, kb_st, kb_nt, kb_ni, kb_ns, kb_lt, kb_li, kb_ls, ex_some, seq_tup, seq_tpx, itOf_tpx, seq_lst, seq_fz, list_lst, lsts_lst, lsts_fz, itOf_tup, itOf_lst, itOf_fz, now_int, now_bl, now_non, now_str, now_tup, now_lst, isNon_non, isNon_int, isNon_tup, isNon_ref, isNon_lst, isNon_str, isNon_bl]
  rw [cut_to _ _ (by omega), cut_from _ _ (by omega) (by rw [List.length_map]; omega), Int.toNat_natCast, show ((i : Int) + 1).toNat = i + 1 by omega]
  have e : (G.map eG).take i ++ [D.tup [.int (gt G i).a, .int (gt G i).b, .int ((gt G i).c + m)]] ++ (G.map eG).drop (i + 1) = (withG G i m).map eG := by
    unfold withG
    rw [List.map_append, List.map_append, List.map_take, List.map_drop]; rfl
  rw [e]
  exact ⟨small (by decide), small (by decide), small (by rw [List.length_take, List.length_map]; omega), small (by rw [List.length_append, List.length_take, List.length_drop, List.length_map]; simp; omega), .here q⟩
structure LG (R : Int) (G : List Gate) : Prop where
  g : GG R G
  R : R ≤ 30
  n : G.length ≤ 60
  c : ∀ x ∈ G, x.c ≤ 1000
theorem LG.rev1 {R : Int} {G : List Gate} (h : LG R G) : GG R (G.map (bk R)) := ⟨fun x hx => by
    obtain ⟨y, hy, rfl⟩ := List.mem_map.mp hx
    have := h.g.r y hy
    unfold bk
    simp only
    omega, fun x hx => by
    obtain ⟨y, hy, rfl⟩ := List.mem_map.mp hx
    exact h.g.c y hy, by rw [List.length_map]; exact h.g.n, h.g.R⟩
theorem LG.wd {R : Int} {G : List Gate} (h : LG R G) : GG R (G.map (wd 3)) := ⟨fun x hx => by
    obtain ⟨y, hy, rfl⟩ := List.mem_map.mp hx
    exact h.g.r y hy, fun x hx => by
    obtain ⟨y, hy, rfl⟩ := List.mem_map.mp hx
    have := h.g.c y hy
    have := h.c y hy
    unfold L47.wd
    simp only
    omega, by rw [List.length_map]; exact h.g.n, h.g.R⟩
theorem LG.two {R : Int} {G : List Gate} (h : LG R G) : GG R (G ++ G) := ⟨fun x hx => by
    rcases List.mem_append.mp hx with hx | hx <;> exact h.g.r x hx, fun x hx => by
    rcases List.mem_append.mp hx with hx | hx <;> exact h.g.c x hx, by have := h.n; rw [List.length_append]; omega, h.g.R⟩
theorem LG.one {R : Int} {G : List Gate} (h : LG R G) {m : Int} (hm : 0 ≤ m ∧ m ≤ 1000) : GG R (G ++ [⟨0, R - 1, m⟩]) := ⟨fun x hx => by
    have := h.g.R
    rcases List.mem_append.mp hx with hx | hx
    · exact h.g.r x hx
    · rw [List.mem_singleton.mp hx]; simp only; omega, fun x hx => by
    rcases List.mem_append.mp hx with hx | hx
    · exact h.g.c x hx
    · rw [List.mem_singleton.mp hx]; simp only; omega, by have := h.n; rw [List.length_append]; simp; omega, h.g.R⟩
theorem LG.more {R : Int} {G : List Gate} (h : LG R G) {m : Int} (hm : 0 ≤ m ∧ m ≤ 1000) : GG (R + 1) (G ++ [⟨R - 1, R, m⟩]) := ⟨fun x hx => by
    have := h.g.R
    rcases List.mem_append.mp hx with hx | hx
    · have := h.g.r x hx; omega
    · rw [List.mem_singleton.mp hx]; simp only; omega, fun x hx => by
    rcases List.mem_append.mp hx with hx | hx
    · exact h.g.c x hx
    · rw [List.mem_singleton.mp hx]; simp only; omega, by have := h.n; rw [List.length_append]; simp; omega, by have := h.g.R; have := h.R; omega⟩
theorem LG.with {R : Int} {G : List Gate} (h : LG R G) {i : Nat} (hi : i < G.length) {m : Int} (hm : m = 1 ∨ (m = -1 ∧ 0 < (gt G i).c)) : GG R (withG G i m) := by
  have hgi := gt_mem hi
  have hr := h.g.r _ hgi
  have hc := h.g.c _ hgi
  have hc2 := h.c _ hgi
  have mem : ∀ x ∈ withG G i m, x ∈ G ∨ x = ⟨(gt G i).a, (gt G i).b, (gt G i).c + m⟩ := fun x hx => by
    unfold withG at hx
    rcases List.mem_append.mp hx with hx | hx
    · rcases List.mem_append.mp hx with hx | hx
      · exact .inl (List.mem_of_mem_take hx)
      · exact .inr (List.mem_singleton.mp hx)
    · exact .inl (List.mem_of_mem_drop hx)
  refine ⟨fun x hx => ?_, fun x hx => ?_, ?_, h.g.R⟩
  · rcases mem x hx with hx | rfl
    · exact h.g.r x hx
    · exact hr
  · rcases mem x hx with hx | rfl
    · exact h.g.c x hx
    · simp only; omega
  · have := h.n
    unfold withG
    rw [List.length_append, List.length_append, List.length_take, List.length_drop]
    simp
    omega
theorem min_ex {R : Int} {G : List Gate} {U : List Int} {E : List Ent} (f : Full R G U E) (g : GG R G) : ∃ v, IsMin R G v := ⟨_, f.min g⟩
theorem a44 {w x y z : D} : atI [w, x, y, z] 3 = some z := rfl
def sp__law_are_gates_right : DSp := fun ds S Q => ∃ (G : List Gate) (R : Int) (p : Addr) (o : MO) (b : Nat), ds = [.ref p, .int R, .tup (G.map eG)] ∧ LG R G ∧ S p = some o ∧ PotO b o ∧ b ≤ 10000 ∧ ∀ o', PotO (b + 2) o' → Q (.bl true) (S.up p o')
open Classical in
theorem pure__law_are_gates_right : ∀ ds S Q, sp__law_are_gates_right ds S Q → t__law_are_gates_right sp_how_many_through sp_gates_that_bar sp__law_take sp__law_with sp_through sp_shows_through (DeN Q) (startD N__law_are_gates_right ds) S := by
  rintro ds S0 Q ⟨G, R, p, o, b, rfl, g, hS0, hp0, hb, q⟩
  have gg := g.g
  unfold t__law_are_gates_right
  refine seqG fun v1 hv1 => ?_
  simp only [dSeq, dNext, dRet, dRetN, dIfS, dAsg, dAsgG, dDrop, dPar2, dPar3, dAug, dAugS, dFor, dOp, dVar, dC, dTest, dChain, dAnd, dOr, dNot, dAndV, dOrV, dNotV, dIf, dTup, dLst, dNil, dCons, dStar, dCB, dCall, dFrz, dSl, dNoPart, dPart, dBM, dRev, dNeg, dIsi, dListRg, dTupRg, dRg1, dRg2, dLc, dIt, dEnum, dZip2, dZip3, dEnZ, dRng1, dRng2, dYes, gN, gT, gsNil, gsCons, gSb, oI, oI0, oAdd, oMulA, oSub, oFdiv, oMod, oPow, oLt, oLe, oGt, oGe, oEq, oNe, oIsN, oNotN, oIsB, oNotB, oIx, oSl, oLen, oSum, oAll, oAny, oAbs, o1I, o2I, oMin2, oMax2, oMin, oMax, oMinL, oMaxL, oInt, oBool, oList, oTuple, oSorted, oSortedT, oSortedD, dSortSet, dDNew, dDOne, oDGet, oDIn, oDSet, keyOD, oIn, oAddI, oGet, oSet, oAppend, oExtend, oPop, oPopAt, oIndexL, oIndexT, oInsert, oRemove, dTupX, dBMX, dLenSet, newL, startD, wipeD, D.tyN, List.map_cons, List.map_nil, List.cons_append, List.nil_append, List.length_cons, List.length_nil, List.getElem?_cons_zero, List.getElem?_cons_succ, List.set_cons_zero, List.set_cons_succ, List.replicate, Nat.sub_self, Nat.reduceSub, Nat.reduceAdd, Nat.zero_add, kb_ii, kb_ib, kb_it, kb_is, kb_bi, kb_bb, kb_bt, kb_bs, kb_tt, kb_ti, kb_ts, kb_ss, kb_si, kb_st, kb_nt, kb_ni, kb_ns, kb_lt, kb_li, kb_ls, ex_some, seq_tup, seq_tpx, itOf_tpx, seq_lst, seq_fz, list_lst, lsts_lst, lsts_fz, itOf_tup, itOf_lst, itOf_fz, now_int, now_bl, now_non, now_str, now_tup, now_lst, isNon_non, isNon_int, isNon_tup, isNon_ref, isNon_lst, isNon_str, isNon_bl]
  have hn := gg.n
  have hR := gg.R
  refine ⟨G, R, rfl, gg, fun v hv => ?_⟩
  refine ⟨G, R, rfl, gg, fun v' hv' => ?_⟩
  obtain rfl := hv'.uniq hv
  have hv0 : 0 ≤ v' ∧ v' ≤ 200 * 1000000 := by
    obtain ⟨S, a, b, c⟩ := hv.ex
    rw [← c]
    refine ⟨cap_nn fun x hx => (gg.c x hx).1, ?_⟩
    unfold cap
    have : (sI G.length fun i => if S (gt G i).a && !S (gt G i).b then (gt G i).c else 0) ≤ sI G.length fun _ => 1000000 := sI_le fun i hi => by
      have := gg.c _ (gt_mem hi)
      split <;> omega
    have e : ∀ n : Nat, sI n (fun _ => 1000000) = 1000000 * (n : Int) := fun n => by
      induction n with
      | zero => rfl
      | succ n ih => rw [sI, ih]; omega
    rw [e] at this
    omega
  have cm : ∀ a : Int, 0 ≤ a → a ≤ 10 → CMul' a v' := fun a h0 h1 => cmul_small (n := 10) (m := 200 * 1000000) (by omega) (by omega) (by decide +kernel) (by decide +kernel)
  subst hv1
  refine seqG fun v2 hv2 => ?_
  simp only [dSeq, dNext, dRet, dRetN, dIfS, dAsg, dAsgG, dDrop, dPar2, dPar3, dAug, dAugS, dFor, dOp, dVar, dC, dTest, dChain, dAnd, dOr, dNot, dAndV, dOrV, dNotV, dIf, dTup, dLst, dNil, dCons, dStar, dCB, dCall, dFrz, dSl, dNoPart, dPart, dBM, dRev, dNeg, dIsi, dListRg, dTupRg, dRg1, dRg2, dLc, dIt, dEnum, dZip2, dZip3, dEnZ, dRng1, dRng2, dYes, gN, gT, gsNil, gsCons, gSb, oI, oI0, oAdd, oMulA, oSub, oFdiv, oMod, oPow, oLt, oLe, oGt, oGe, oEq, oNe, oIsN, oNotN, oIsB, oNotB, oIx, oSl, oLen, oSum, oAll, oAny, oAbs, o1I, o2I, oMin2, oMax2, oMin, oMax, oMinL, oMaxL, oInt, oBool, oList, oTuple, oSorted, oSortedT, oSortedD, dSortSet, dDNew, dDOne, oDGet, oDIn, oDSet, keyOD, oIn, oAddI, oGet, oSet, oAppend, oExtend, oPop, oPopAt, oIndexL, oIndexT, oInsert, oRemove, dTupX, dBMX, dLenSet, newL, startD, wipeD, D.tyN, List.map_cons, List.map_nil, List.cons_append, List.nil_append, List.length_cons, List.length_nil, List.getElem?_cons_zero, List.getElem?_cons_succ, List.set_cons_zero, List.set_cons_succ, List.replicate, Nat.sub_self, Nat.reduceSub, Nat.reduceAdd, Nat.zero_add, kb_ii, kb_ib, kb_it, kb_is, kb_bi, kb_bb, kb_bt, kb_bs, kb_tt, kb_ti, kb_ts, kb_ss, kb_si, kb_st, kb_nt, kb_ni, kb_ns, kb_lt, kb_li, kb_ls, ex_some, seq_tup, seq_tpx, itOf_tpx, seq_lst, seq_fz, list_lst, lsts_lst, lsts_fz, itOf_tup, itOf_lst, itOf_fz, now_int, now_bl, now_non, now_str, now_tup, now_lst, isNon_non, isNon_int, isNon_tup, isNon_ref, isNon_lst, isNon_str, isNon_bl]
  refine lc_mapE G eG (fun x => eG (bk R x)) (fun _ _ => trivial) (small (by omega)) (fun x hx S' e N M h => ?_) ?_
  · simp only [dSeq, dNext, dRet, dRetN, dIfS, dAsg, dAsgG, dDrop, dPar2, dPar3, dAug, dAugS, dFor, dOp, dVar, dC, dTest, dChain, dAnd, dOr, dNot, dAndV, dOrV, dNotV, dIf, dTup, dLst, dNil, dCons, dStar, dCB, dCall, dFrz, dSl, dNoPart, dPart, dBM, dRev, dNeg, dIsi, dListRg, dTupRg, dRg1, dRg2, dLc, dIt, dEnum, dZip2, dZip3, dEnZ, dRng1, dRng2, dYes, gN, gT, gsNil, gsCons, gSb, oI, oI0, oAdd, oMulA, oSub, oFdiv, oMod, oPow, oLt, oLe, oGt, oGe, oEq, oNe, oIsN, oNotN, oIsB, oNotB, oIx, oSl, oLen, oSum, oAll, oAny, oAbs, o1I, o2I, oMin2, oMax2, oMin, oMax, oMinL, oMaxL, oInt, oBool, oList, oTuple, oSorted, oSortedT, oSortedD, dSortSet, dDNew, dDOne, oDGet, oDIn, oDSet, keyOD, oIn, oAddI, oGet, oSet, oAppend, oExtend, oPop, oPopAt, oIndexL, oIndexT, oInsert, oRemove, dTupX, dBMX, dLenSet, newL, startD, wipeD, D.tyN, List.map_cons, List.map_nil, List.cons_append, List.nil_append, List.length_cons, List.length_nil, List.getElem?_cons_zero, List.getElem?_cons_succ, List.set_cons_zero, List.set_cons_succ, List.replicate, Nat.sub_self, Nat.reduceSub, Nat.reduceAdd, Nat.zero_add, kb_ii, kb_ib, kb_it, kb_is, kb_bi, kb_bb, kb_bt, kb_bs, kb_tt, kb_ti, kb_ts, kb_ss, kb_si, kb_st, kb_nt, kb_ni, kb_ns, kb_lt, kb_li, kb_ls, ex_some, seq_tup, seq_tpx, itOf_tpx, seq_lst, seq_fz, list_lst, lsts_lst, lsts_fz, itOf_tup, itOf_lst, itOf_fz, now_int, now_bl, now_non, now_str, now_tup, now_lst, isNon_non, isNon_int, isNon_tup, isNon_ref, isNon_lst, isNon_str, isNon_bl, eG]
    exact ⟨trivial, small (by decide), h⟩
  simp only [dSeq, dNext, dRet, dRetN, dIfS, dAsg, dAsgG, dDrop, dPar2, dPar3, dAug, dAugS, dFor, dOp, dVar, dC, dTest, dChain, dAnd, dOr, dNot, dAndV, dOrV, dNotV, dIf, dTup, dLst, dNil, dCons, dStar, dCB, dCall, dFrz, dSl, dNoPart, dPart, dBM, dRev, dNeg, dIsi, dListRg, dTupRg, dRg1, dRg2, dLc, dIt, dEnum, dZip2, dZip3, dEnZ, dRng1, dRng2, dYes, gN, gT, gsNil, gsCons, gSb, oI, oI0, oAdd, oMulA, oSub, oFdiv, oMod, oPow, oLt, oLe, oGt, oGe, oEq, oNe, oIsN, oNotN, oIsB, oNotB, oIx, oSl, oLen, oSum, oAll, oAny, oAbs, o1I, o2I, oMin2, oMax2, oMin, oMax, oMinL, oMaxL, oInt, oBool, oList, oTuple, oSorted, oSortedT, oSortedD, dSortSet, dDNew, dDOne, oDGet, oDIn, oDSet, keyOD, oIn, oAddI, oGet, oSet, oAppend, oExtend, oPop, oPopAt, oIndexL, oIndexT, oInsert, oRemove, dTupX, dBMX, dLenSet, newL, startD, wipeD, D.tyN, List.map_cons, List.map_nil, List.cons_append, List.nil_append, List.length_cons, List.length_nil, List.getElem?_cons_zero, List.getElem?_cons_succ, List.set_cons_zero, List.set_cons_succ, List.replicate, Nat.sub_self, Nat.reduceSub, Nat.reduceAdd, Nat.zero_add, kb_ii, kb_ib, kb_it, kb_is, kb_bi, kb_bb, kb_bt, kb_bs, kb_tt, kb_ti, kb_ts, kb_ss, kb_si, kb_st, kb_nt, kb_ni, kb_ns, kb_lt, kb_li, kb_ls, ex_some, seq_tup, seq_tpx, itOf_tpx, seq_lst, seq_fz, list_lst, lsts_lst, lsts_fz, itOf_tup, itOf_lst, itOf_fz, now_int, now_bl, now_non, now_str, now_tup, now_lst, isNon_non, isNon_int, isNon_tup, isNon_ref, isNon_lst, isNon_str, isNon_bl]
  have ebk : G.map (fun x => eG (bk R x)) = (G.map (bk R)).map eG := by rw [List.map_map]; rfl
  rw [ebk]
  subst hv2
  refine seqG fun v3 hv3 => ?_
  simp only [dSeq, dNext, dRet, dRetN, dIfS, dAsg, dAsgG, dDrop, dPar2, dPar3, dAug, dAugS, dFor, dOp, dVar, dC, dTest, dChain, dAnd, dOr, dNot, dAndV, dOrV, dNotV, dIf, dTup, dLst, dNil, dCons, dStar, dCB, dCall, dFrz, dSl, dNoPart, dPart, dBM, dRev, dNeg, dIsi, dListRg, dTupRg, dRg1, dRg2, dLc, dIt, dEnum, dZip2, dZip3, dEnZ, dRng1, dRng2, dYes, gN, gT, gsNil, gsCons, gSb, oI, oI0, oAdd, oMulA, oSub, oFdiv, oMod, oPow, oLt, oLe, oGt, oGe, oEq, oNe, oIsN, oNotN, oIsB, oNotB, oIx, oSl, oLen, oSum, oAll, oAny, oAbs, o1I, o2I, oMin2, oMax2, oMin, oMax, oMinL, oMaxL, oInt, oBool, oList, oTuple, oSorted, oSortedT, oSortedD, dSortSet, dDNew, dDOne, oDGet, oDIn, oDSet, keyOD, oIn, oAddI, oGet, oSet, oAppend, oExtend, oPop, oPopAt, oIndexL, oIndexT, oInsert, oRemove, dTupX, dBMX, dLenSet, newL, startD, wipeD, D.tyN, List.map_cons, List.map_nil, List.cons_append, List.nil_append, List.length_cons, List.length_nil, List.getElem?_cons_zero, List.getElem?_cons_succ, List.set_cons_zero, List.set_cons_succ, List.replicate, Nat.sub_self, Nat.reduceSub, Nat.reduceAdd, Nat.zero_add, kb_ii, kb_ib, kb_it, kb_is, kb_bi, kb_bb, kb_bt, kb_bs, kb_tt, kb_ti, kb_ts, kb_ss, kb_si, kb_st, kb_nt, kb_ni, kb_ns, kb_lt, kb_li, kb_ls, ex_some, seq_tup, seq_tpx, itOf_tpx, seq_lst, seq_fz, list_lst, lsts_lst, lsts_fz, itOf_tup, itOf_lst, itOf_fz, now_int, now_bl, now_non, now_str, now_tup, now_lst, isNon_non, isNon_int, isNon_tup, isNon_ref, isNon_lst, isNon_str, isNon_bl]
  refine ⟨_, R, rfl, g.rev1, fun w hw => eqj (hw.uniq hv.back) ?_⟩
  refine ⟨_, R, rfl, g.rev1, fun w hw => ?_⟩
  obtain rfl := hw.uniq hv.back
  rw [bars_back]
  have okb : D.okn 8 (.tup ((bars R G w).map nI)) = true := by rw [okn_tup]; exact okn_nI
  refine ⟨⟨okb, okb⟩, ?_⟩
  simp only [dSeq, dNext, dRet, dRetN, dIfS, dAsg, dAsgG, dDrop, dPar2, dPar3, dAug, dAugS, dFor, dOp, dVar, dC, dTest, dChain, dAnd, dOr, dNot, dAndV, dOrV, dNotV, dIf, dTup, dLst, dNil, dCons, dStar, dCB, dCall, dFrz, dSl, dNoPart, dPart, dBM, dRev, dNeg, dIsi, dListRg, dTupRg, dRg1, dRg2, dLc, dIt, dEnum, dZip2, dZip3, dEnZ, dRng1, dRng2, dYes, gN, gT, gsNil, gsCons, gSb, oI, oI0, oAdd, oMulA, oSub, oFdiv, oMod, oPow, oLt, oLe, oGt, oGe, oEq, oNe, oIsN, oNotN, oIsB, oNotB, oIx, oSl, oLen, oSum, oAll, oAny, oAbs, o1I, o2I, oMin2, oMax2, oMin, oMax, oMinL, oMaxL, oInt, oBool, oList, oTuple, oSorted, oSortedT, oSortedD, dSortSet, dDNew, dDOne, oDGet, oDIn, oDSet, keyOD, oIn, oAddI, oGet, oSet, oAppend, oExtend, oPop, oPopAt, oIndexL, oIndexT, oInsert, oRemove, dTupX, dBMX, dLenSet, newL, startD, wipeD, D.tyN, List.map_cons, List.map_nil, List.cons_append, List.nil_append, List.length_cons, List.length_nil, List.getElem?_cons_zero, List.getElem?_cons_succ, List.set_cons_zero, List.set_cons_succ, List.replicate, Nat.sub_self, Nat.reduceSub, Nat.reduceAdd, Nat.zero_add, kb_ii, kb_ib, kb_it, kb_is, kb_bi, kb_bb, kb_bt, kb_bs, kb_tt, kb_ti, kb_ts, kb_ss, kb_si, kb_st, kb_nt, kb_ni, kb_ns, kb_lt, kb_li, kb_ls, ex_some, seq_tup, seq_tpx, itOf_tpx, seq_lst, seq_fz, list_lst, lsts_lst, lsts_fz, itOf_tup, itOf_lst, itOf_fz, now_int, now_bl, now_non, now_str, now_tup, now_lst, isNon_non, isNon_int, isNon_tup, isNon_ref, isNon_lst, isNon_str, isNon_bl]
  rw [eqD_refl okb]
  simp only [Bool.not_true]
  subst hv3
  refine seqG fun v4 hv4 => ?_
  simp only [dSeq, dNext, dRet, dRetN, dIfS, dAsg, dAsgG, dDrop, dPar2, dPar3, dAug, dAugS, dFor, dOp, dVar, dC, dTest, dChain, dAnd, dOr, dNot, dAndV, dOrV, dNotV, dIf, dTup, dLst, dNil, dCons, dStar, dCB, dCall, dFrz, dSl, dNoPart, dPart, dBM, dRev, dNeg, dIsi, dListRg, dTupRg, dRg1, dRg2, dLc, dIt, dEnum, dZip2, dZip3, dEnZ, dRng1, dRng2, dYes, gN, gT, gsNil, gsCons, gSb, oI, oI0, oAdd, oMulA, oSub, oFdiv, oMod, oPow, oLt, oLe, oGt, oGe, oEq, oNe, oIsN, oNotN, oIsB, oNotB, oIx, oSl, oLen, oSum, oAll, oAny, oAbs, o1I, o2I, oMin2, oMax2, oMin, oMax, oMinL, oMaxL, oInt, oBool, oList, oTuple, oSorted, oSortedT, oSortedD, dSortSet, dDNew, dDOne, oDGet, oDIn, oDSet, keyOD, oIn, oAddI, oGet, oSet, oAppend, oExtend, oPop, oPopAt, oIndexL, oIndexT, oInsert, oRemove, dTupX, dBMX, dLenSet, newL, startD, wipeD, D.tyN, List.map_cons, List.map_nil, List.cons_append, List.nil_append, List.length_cons, List.length_nil, List.getElem?_cons_zero, List.getElem?_cons_succ, List.set_cons_zero, List.set_cons_succ, List.replicate, Nat.sub_self, Nat.reduceSub, Nat.reduceAdd, Nat.zero_add, kb_ii, kb_ib, kb_it, kb_is, kb_bi, kb_bb, kb_bt, kb_bs, kb_tt, kb_ti, kb_ts, kb_ss, kb_si, kb_st, kb_nt, kb_ni, kb_ns, kb_lt, kb_li, kb_ls, ex_some, seq_tup, seq_tpx, itOf_tpx, seq_lst, seq_fz, list_lst, lsts_lst, lsts_fz, itOf_tup, itOf_lst, itOf_fz, now_int, now_bl, now_non, now_str, now_tup, now_lst, isNon_non, isNon_int, isNon_tup, isNon_ref, isNon_lst, isNon_str, isNon_bl]
  refine lc_mapE G eG (fun x => eG (wd 3 x)) (fun _ _ => trivial) (small (by omega)) (fun x hx S' e N M h => ?_) ?_
  · have := gg.c x hx
    simp only [dSeq, dNext, dRet, dRetN, dIfS, dAsg, dAsgG, dDrop, dPar2, dPar3, dAug, dAugS, dFor, dOp, dVar, dC, dTest, dChain, dAnd, dOr, dNot, dAndV, dOrV, dNotV, dIf, dTup, dLst, dNil, dCons, dStar, dCB, dCall, dFrz, dSl, dNoPart, dPart, dBM, dRev, dNeg, dIsi, dListRg, dTupRg, dRg1, dRg2, dLc, dIt, dEnum, dZip2, dZip3, dEnZ, dRng1, dRng2, dYes, gN, gT, gsNil, gsCons, gSb, oI, oI0, oAdd, oMulA, oSub, oFdiv, oMod, oPow, oLt, oLe, oGt, oGe, oEq, oNe, oIsN, oNotN, oIsB, oNotB, oIx, oSl, oLen, oSum, oAll, oAny, oAbs, o1I, o2I, oMin2, oMax2, oMin, oMax, oMinL, oMaxL, oInt, oBool, oList, oTuple, oSorted, oSortedT, oSortedD, dSortSet, dDNew, dDOne, oDGet, oDIn, oDSet, keyOD, oIn, oAddI, oGet, oSet, oAppend, oExtend, oPop, oPopAt, oIndexL, oIndexT, oInsert, oRemove, dTupX, dBMX, dLenSet, newL, startD, wipeD, D.tyN, List.map_cons, List.map_nil, List.cons_append, List.nil_append, List.length_cons, List.length_nil, List.getElem?_cons_zero, List.getElem?_cons_succ, List.set_cons_zero, List.set_cons_succ, List.replicate, Nat.sub_self, Nat.reduceSub, Nat.reduceAdd, Nat.zero_add, kb_ii, kb_ib, kb_it, kb_is, kb_bi, kb_bb, kb_bt, kb_bs, kb_tt, kb_ti, kb_ts, kb_ss, kb_si, kb_st, kb_nt, kb_ni, kb_ns, kb_lt, kb_li, kb_ls, ex_some, seq_tup, seq_tpx, itOf_tpx, seq_lst, seq_fz, list_lst, lsts_lst, lsts_fz, itOf_tup, itOf_lst, itOf_fz, now_int, now_bl, now_non, now_str, now_tup, now_lst, isNon_non, isNon_int, isNon_tup, isNon_ref, isNon_lst, isNon_str, isNon_bl, eG]
    exact ⟨trivial, cmul_small (n := 3) (m := 1000000) (by omega) (by omega) (by decide +kernel) (by decide +kernel), small (by decide), h⟩
  simp only [dSeq, dNext, dRet, dRetN, dIfS, dAsg, dAsgG, dDrop, dPar2, dPar3, dAug, dAugS, dFor, dOp, dVar, dC, dTest, dChain, dAnd, dOr, dNot, dAndV, dOrV, dNotV, dIf, dTup, dLst, dNil, dCons, dStar, dCB, dCall, dFrz, dSl, dNoPart, dPart, dBM, dRev, dNeg, dIsi, dListRg, dTupRg, dRg1, dRg2, dLc, dIt, dEnum, dZip2, dZip3, dEnZ, dRng1, dRng2, dYes, gN, gT, gsNil, gsCons, gSb, oI, oI0, oAdd, oMulA, oSub, oFdiv, oMod, oPow, oLt, oLe, oGt, oGe, oEq, oNe, oIsN, oNotN, oIsB, oNotB, oIx, oSl, oLen, oSum, oAll, oAny, oAbs, o1I, o2I, oMin2, oMax2, oMin, oMax, oMinL, oMaxL, oInt, oBool, oList, oTuple, oSorted, oSortedT, oSortedD, dSortSet, dDNew, dDOne, oDGet, oDIn, oDSet, keyOD, oIn, oAddI, oGet, oSet, oAppend, oExtend, oPop, oPopAt, oIndexL, oIndexT, oInsert, oRemove, dTupX, dBMX, dLenSet, newL, startD, wipeD, D.tyN, List.map_cons, List.map_nil, List.cons_append, List.nil_append, List.length_cons, List.length_nil, List.getElem?_cons_zero, List.getElem?_cons_succ, List.set_cons_zero, List.set_cons_succ, List.replicate, Nat.sub_self, Nat.reduceSub, Nat.reduceAdd, Nat.zero_add, kb_ii, kb_ib, kb_it, kb_is, kb_bi, kb_bb, kb_bt, kb_bs, kb_tt, kb_ti, kb_ts, kb_ss, kb_si, kb_st, kb_nt, kb_ni, kb_ns, kb_lt, kb_li, kb_ls, ex_some, seq_tup, seq_tpx, itOf_tpx, seq_lst, seq_fz, list_lst, lsts_lst, lsts_fz, itOf_tup, itOf_lst, itOf_fz, now_int, now_bl, now_non, now_str, now_tup, now_lst, isNon_non, isNon_int, isNon_tup, isNon_ref, isNon_lst, isNon_str, isNon_bl]
  have ewd : G.map (fun x => eG (wd 3 x)) = (G.map (wd 3)).map eG := by rw [List.map_map]; rfl
  rw [ewd]
  subst hv4
  refine seqG fun v5 hv5 => ?_
  simp only [dSeq, dNext, dRet, dRetN, dIfS, dAsg, dAsgG, dDrop, dPar2, dPar3, dAug, dAugS, dFor, dOp, dVar, dC, dTest, dChain, dAnd, dOr, dNot, dAndV, dOrV, dNotV, dIf, dTup, dLst, dNil, dCons, dStar, dCB, dCall, dFrz, dSl, dNoPart, dPart, dBM, dRev, dNeg, dIsi, dListRg, dTupRg, dRg1, dRg2, dLc, dIt, dEnum, dZip2, dZip3, dEnZ, dRng1, dRng2, dYes, gN, gT, gsNil, gsCons, gSb, oI, oI0, oAdd, oMulA, oSub, oFdiv, oMod, oPow, oLt, oLe, oGt, oGe, oEq, oNe, oIsN, oNotN, oIsB, oNotB, oIx, oSl, oLen, oSum, oAll, oAny, oAbs, o1I, o2I, oMin2, oMax2, oMin, oMax, oMinL, oMaxL, oInt, oBool, oList, oTuple, oSorted, oSortedT, oSortedD, dSortSet, dDNew, dDOne, oDGet, oDIn, oDSet, keyOD, oIn, oAddI, oGet, oSet, oAppend, oExtend, oPop, oPopAt, oIndexL, oIndexT, oInsert, oRemove, dTupX, dBMX, dLenSet, newL, startD, wipeD, D.tyN, List.map_cons, List.map_nil, List.cons_append, List.nil_append, List.length_cons, List.length_nil, List.getElem?_cons_zero, List.getElem?_cons_succ, List.set_cons_zero, List.set_cons_succ, List.replicate, Nat.sub_self, Nat.reduceSub, Nat.reduceAdd, Nat.zero_add, kb_ii, kb_ib, kb_it, kb_is, kb_bi, kb_bb, kb_bt, kb_bs, kb_tt, kb_ti, kb_ts, kb_ss, kb_si, kb_st, kb_nt, kb_ni, kb_ns, kb_lt, kb_li, kb_ls, ex_some, seq_tup, seq_tpx, itOf_tpx, seq_lst, seq_fz, list_lst, lsts_lst, lsts_fz, itOf_tup, itOf_lst, itOf_fz, now_int, now_bl, now_non, now_str, now_tup, now_lst, isNon_non, isNon_int, isNon_tup, isNon_ref, isNon_lst, isNon_str, isNon_bl]
  refine ⟨_, R, rfl, g.wd, fun w3 hw3 => ⟨cm 3 (by decide) (by decide), eqj (hw3.uniq (hv.wide (by decide))) ?_⟩⟩
  rw [← List.map_append]
  refine ⟨small (by rw [List.length_map]; omega), _, R, rfl, g.two, fun w2 hw2 => ⟨cm 2 (by decide) (by decide), eqj (hw2.uniq hv.twice) ?_⟩⟩
  subst hv5
  refine seqG fun v6 hv6 => ?_
  simp only [dSeq, dNext, dRet, dRetN, dIfS, dAsg, dAsgG, dDrop, dPar2, dPar3, dAug, dAugS, dFor, dOp, dVar, dC, dTest, dChain, dAnd, dOr, dNot, dAndV, dOrV, dNotV, dIf, dTup, dLst, dNil, dCons, dStar, dCB, dCall, dFrz, dSl, dNoPart, dPart, dBM, dRev, dNeg, dIsi, dListRg, dTupRg, dRg1, dRg2, dLc, dIt, dEnum, dZip2, dZip3, dEnZ, dRng1, dRng2, dYes, gN, gT, gsNil, gsCons, gSb, oI, oI0, oAdd, oMulA, oSub, oFdiv, oMod, oPow, oLt, oLe, oGt, oGe, oEq, oNe, oIsN, oNotN, oIsB, oNotB, oIx, oSl, oLen, oSum, oAll, oAny, oAbs, o1I, o2I, oMin2, oMax2, oMin, oMax, oMinL, oMaxL, oInt, oBool, oList, oTuple, oSorted, oSortedT, oSortedD, dSortSet, dDNew, dDOne, oDGet, oDIn, oDSet, keyOD, oIn, oAddI, oGet, oSet, oAppend, oExtend, oPop, oPopAt, oIndexL, oIndexT, oInsert, oRemove, dTupX, dBMX, dLenSet, newL, startD, wipeD, D.tyN, List.map_cons, List.map_nil, List.cons_append, List.nil_append, List.length_cons, List.length_nil, List.getElem?_cons_zero, List.getElem?_cons_succ, List.set_cons_zero, List.set_cons_succ, List.replicate, Nat.sub_self, Nat.reduceSub, Nat.reduceAdd, Nat.zero_add, kb_ii, kb_ib, kb_it, kb_is, kb_bi, kb_bb, kb_bt, kb_bs, kb_tt, kb_ti, kb_ts, kb_ss, kb_si, kb_st, kb_nt, kb_ni, kb_ns, kb_lt, kb_li, kb_ls, ex_some, seq_tup, seq_tpx, itOf_tpx, seq_lst, seq_fz, list_lst, lsts_lst, lsts_fz, itOf_tup, itOf_lst, itOf_fz, now_int, now_bl, now_non, now_str, now_tup, now_lst, isNon_non, isNon_int, isNon_tup, isNon_ref, isNon_lst, isNon_str, isNon_bl]
  refine ⟨p, 9, b, o, rfl, by decide, by decide, hS0, hp0, by omega, fun k1 oa h10 h11 hpa => ?_⟩
  simp only []
  subst hv6
  refine seqG fun v7 hv7 => ?_
  simp only [dSeq, dNext, dRet, dRetN, dIfS, dAsg, dAsgG, dDrop, dPar2, dPar3, dAug, dAugS, dFor, dOp, dVar, dC, dTest, dChain, dAnd, dOr, dNot, dAndV, dOrV, dNotV, dIf, dTup, dLst, dNil, dCons, dStar, dCB, dCall, dFrz, dSl, dNoPart, dPart, dBM, dRev, dNeg, dIsi, dListRg, dTupRg, dRg1, dRg2, dLc, dIt, dEnum, dZip2, dZip3, dEnZ, dRng1, dRng2, dYes, gN, gT, gsNil, gsCons, gSb, oI, oI0, oAdd, oMulA, oSub, oFdiv, oMod, oPow, oLt, oLe, oGt, oGe, oEq, oNe, oIsN, oNotN, oIsB, oNotB, oIx, oSl, oLen, oSum, oAll, oAny, oAbs, o1I, o2I, oMin2, oMax2, oMin, oMax, oMinL, oMaxL, oInt, oBool, oList, oTuple, oSorted, oSortedT, oSortedD, dSortSet, dDNew, dDOne, oDGet, oDIn, oDSet, keyOD, oIn, oAddI, oGet, oSet, oAppend, oExtend, oPop, oPopAt, oIndexL, oIndexT, oInsert, oRemove, dTupX, dBMX, dLenSet, newL, startD, wipeD, D.tyN, List.map_cons, List.map_nil, List.cons_append, List.nil_append, List.length_cons, List.length_nil, List.getElem?_cons_zero, List.getElem?_cons_succ, List.set_cons_zero, List.set_cons_succ, List.replicate, Nat.sub_self, Nat.reduceSub, Nat.reduceAdd, Nat.zero_add, kb_ii, kb_ib, kb_it, kb_is, kb_bi, kb_bb, kb_bt, kb_bs, kb_tt, kb_ti, kb_ts, kb_ss, kb_si, kb_st, kb_nt, kb_ni, kb_ns, kb_lt, kb_li, kb_ls, ex_some, seq_tup, seq_tpx, itOf_tpx, seq_lst, seq_fz, list_lst, lsts_lst, lsts_fz, itOf_tup, itOf_lst, itOf_fz, now_int, now_bl, now_non, now_str, now_tup, now_lst, isNon_non, isNon_int, isNon_tup, isNon_ref, isNon_lst, isNon_str, isNon_bl]
  have e1 : G.map eG ++ [D.tup [.int 0, .int (R - 1), .int k1]] = (G ++ [(⟨0, R - 1, k1⟩ : Gate)]).map eG := by rw [List.map_append]; rfl
  rw [e1]
  refine ⟨small (by decide), small (by decide), small (by rw [List.length_map]; omega), _, R, rfl, g.one ⟨h10, by omega⟩, fun w4 hw4 => eqj (hw4.uniq hv.beside) ?_⟩
  subst hv7
  refine seqG fun v8 hv8 => ?_
  simp only [dSeq, dNext, dRet, dRetN, dIfS, dAsg, dAsgG, dDrop, dPar2, dPar3, dAug, dAugS, dFor, dOp, dVar, dC, dTest, dChain, dAnd, dOr, dNot, dAndV, dOrV, dNotV, dIf, dTup, dLst, dNil, dCons, dStar, dCB, dCall, dFrz, dSl, dNoPart, dPart, dBM, dRev, dNeg, dIsi, dListRg, dTupRg, dRg1, dRg2, dLc, dIt, dEnum, dZip2, dZip3, dEnZ, dRng1, dRng2, dYes, gN, gT, gsNil, gsCons, gSb, oI, oI0, oAdd, oMulA, oSub, oFdiv, oMod, oPow, oLt, oLe, oGt, oGe, oEq, oNe, oIsN, oNotN, oIsB, oNotB, oIx, oSl, oLen, oSum, oAll, oAny, oAbs, o1I, o2I, oMin2, oMax2, oMin, oMax, oMinL, oMaxL, oInt, oBool, oList, oTuple, oSorted, oSortedT, oSortedD, dSortSet, dDNew, dDOne, oDGet, oDIn, oDSet, keyOD, oIn, oAddI, oGet, oSet, oAppend, oExtend, oPop, oPopAt, oIndexL, oIndexT, oInsert, oRemove, dTupX, dBMX, dLenSet, newL, startD, wipeD, D.tyN, List.map_cons, List.map_nil, List.cons_append, List.nil_append, List.length_cons, List.length_nil, List.getElem?_cons_zero, List.getElem?_cons_succ, List.set_cons_zero, List.set_cons_succ, List.replicate, Nat.sub_self, Nat.reduceSub, Nat.reduceAdd, Nat.zero_add, kb_ii, kb_ib, kb_it, kb_is, kb_bi, kb_bb, kb_bt, kb_bs, kb_tt, kb_ti, kb_ts, kb_ss, kb_si, kb_st, kb_nt, kb_ni, kb_ns, kb_lt, kb_li, kb_ls, ex_some, seq_tup, seq_tpx, itOf_tpx, seq_lst, seq_fz, list_lst, lsts_lst, lsts_fz, itOf_tup, itOf_lst, itOf_fz, now_int, now_bl, now_non, now_str, now_tup, now_lst, isNon_non, isNon_int, isNon_tup, isNon_ref, isNon_lst, isNon_str, isNon_bl]
  refine ⟨p, 12, b + 1, oa, rfl, by decide, by decide, Sto.up_same, hpa, by omega, fun k2 ob h20 h21 hpb => ?_⟩
  simp only [Sto.up_up]
  subst hv8
  refine seqG fun v9 hv9 => ?_
  simp only [dSeq, dNext, dRet, dRetN, dIfS, dAsg, dAsgG, dDrop, dPar2, dPar3, dAug, dAugS, dFor, dOp, dVar, dC, dTest, dChain, dAnd, dOr, dNot, dAndV, dOrV, dNotV, dIf, dTup, dLst, dNil, dCons, dStar, dCB, dCall, dFrz, dSl, dNoPart, dPart, dBM, dRev, dNeg, dIsi, dListRg, dTupRg, dRg1, dRg2, dLc, dIt, dEnum, dZip2, dZip3, dEnZ, dRng1, dRng2, dYes, gN, gT, gsNil, gsCons, gSb, oI, oI0, oAdd, oMulA, oSub, oFdiv, oMod, oPow, oLt, oLe, oGt, oGe, oEq, oNe, oIsN, oNotN, oIsB, oNotB, oIx, oSl, oLen, oSum, oAll, oAny, oAbs, o1I, o2I, oMin2, oMax2, oMin, oMax, oMinL, oMaxL, oInt, oBool, oList, oTuple, oSorted, oSortedT, oSortedD, dSortSet, dDNew, dDOne, oDGet, oDIn, oDSet, keyOD, oIn, oAddI, oGet, oSet, oAppend, oExtend, oPop, oPopAt, oIndexL, oIndexT, oInsert, oRemove, dTupX, dBMX, dLenSet, newL, startD, wipeD, D.tyN, List.map_cons, List.map_nil, List.cons_append, List.nil_append, List.length_cons, List.length_nil, List.getElem?_cons_zero, List.getElem?_cons_succ, List.set_cons_zero, List.set_cons_succ, List.replicate, Nat.sub_self, Nat.reduceSub, Nat.reduceAdd, Nat.zero_add, kb_ii, kb_ib, kb_it, kb_is, kb_bi, kb_bb, kb_bt, kb_bs, kb_tt, kb_ti, kb_ts, kb_ss, kb_si, kb_st, kb_nt, kb_ni, kb_ns, kb_lt, kb_li, kb_ls, ex_some, seq_tup, seq_tpx, itOf_tpx, seq_lst, seq_fz, list_lst, lsts_lst, lsts_fz, itOf_tup, itOf_lst, itOf_fz, now_int, now_bl, now_non, now_str, now_tup, now_lst, isNon_non, isNon_int, isNon_tup, isNon_ref, isNon_lst, isNon_str, isNon_bl]
  have e2 : G.map eG ++ [D.tup [.int (R - 1), .int R, .int k2]] = (G ++ [(⟨R - 1, R, k2⟩ : Gate)]).map eG := by rw [List.map_append]; rfl
  rw [e2]
  refine ⟨small (by decide), small (by decide), small (by rw [List.length_map]; omega), _, R + 1, rfl, g.more ⟨h20, by omega⟩, fun w5 hw5 => eqj ?_ ?_⟩
  · have := hw5.uniq (hv.behind gg h20)
    split <;> omega
  have hSb : (S0.up p ob) p = some ob := Sto.up_same
  generalize hS1 : S0.up p ob = S1 at hSb ⊢
  have fin : FzQ Q (.bl true) S1 := by rw [← hS1]; exact .here (q ob hpb)
  subst hv9
  refine seqG fun v10 hv10 => ?_
  refine forG fun τ hτ => ?_
  simp only [dSeq, dNext, dRet, dRetN, dIfS, dAsg, dAsgG, dDrop, dPar2, dPar3, dAug, dAugS, dFor, dOp, dVar, dC, dTest, dChain, dAnd, dOr, dNot, dAndV, dOrV, dNotV, dIf, dTup, dLst, dNil, dCons, dStar, dCB, dCall, dFrz, dSl, dNoPart, dPart, dBM, dRev, dNeg, dIsi, dListRg, dTupRg, dRg1, dRg2, dLc, dIt, dEnum, dZip2, dZip3, dEnZ, dRng1, dRng2, dYes, gN, gT, gsNil, gsCons, gSb, oI, oI0, oAdd, oMulA, oSub, oFdiv, oMod, oPow, oLt, oLe, oGt, oGe, oEq, oNe, oIsN, oNotN, oIsB, oNotB, oIx, oSl, oLen, oSum, oAll, oAny, oAbs, o1I, o2I, oMin2, oMax2, oMin, oMax, oMinL, oMaxL, oInt, oBool, oList, oTuple, oSorted, oSortedT, oSortedD, dSortSet, dDNew, dDOne, oDGet, oDIn, oDSet, keyOD, oIn, oAddI, oGet, oSet, oAppend, oExtend, oPop, oPopAt, oIndexL, oIndexT, oInsert, oRemove, dTupX, dBMX, dLenSet, newL, startD, wipeD, D.tyN, List.map_cons, List.map_nil, List.cons_append, List.nil_append, List.length_cons, List.length_nil, List.getElem?_cons_zero, List.getElem?_cons_succ, List.set_cons_zero, List.set_cons_succ, List.replicate, Nat.sub_self, Nat.reduceSub, Nat.reduceAdd, Nat.zero_add, kb_ii, kb_ib, kb_it, kb_is, kb_bi, kb_bb, kb_bt, kb_bs, kb_tt, kb_ti, kb_ts, kb_ss, kb_si, kb_st, kb_nt, kb_ni, kb_ns, kb_lt, kb_li, kb_ls, ex_some, seq_tup, seq_tpx, itOf_tpx, seq_lst, seq_fz, list_lst, lsts_lst, lsts_fz, itOf_tup, itOf_lst, itOf_fz, now_int, now_bl, now_non, now_str, now_tup, now_lst, isNon_non, isNon_int, isNon_tup, isNon_ref, isNon_lst, isNon_str, isNon_bl]
  refine ⟨trivial, ?_⟩
  refine loopD_invE (α := Nat) nI (fun xs ρ S => ∃ o12, ρ = [some (.ref p), some (.int R), some (.tup (G.map eG)), some (.int w), some (.tup ((bars R G w).map nI)), some (.tup ((G.map (bk R)).map eG)), none, none, none, some (.tup ((G.map (wd 3)).map eG)), some (.int k1), some (.int k2), o12, none] ∧ S = S1 ∧ ∀ i ∈ xs, i < G.length ∧ Bar R G w i) ?_ ?_ _ _ _
    ⟨none, rfl, rfl, fun i hi => by
      unfold bars at hi
      obtain ⟨h1, h2⟩ := List.mem_filter.mp hi
      exact ⟨List.mem_range.mp h1, of_decide_eq_true h2⟩⟩ trivial
  · rintro i xs ρ S ⟨o12, rfl, rfl, hb⟩ _ M hM
    obtain ⟨hi, hbar⟩ := hb i List.mem_cons_self
    have hci := gg.c _ (gt_mem hi)
    have nxt : M [some (.ref p), some (.int R), some (.tup (G.map eG)), some (.int w), some (.tup ((bars R G w).map nI)), some (.tup ((G.map (bk R)).map eG)), none, none, none, some (.tup ((G.map (wd 3)).map eG)), some (.int k1), some (.int k2), some (nI i), none] S := hM _ _ trivial ⟨_, rfl, rfl, fun j hj => hb j (List.mem_cons_of_mem _ hj)⟩
    subst hτ
    simp only [gN, List.set_cons_zero, List.set_cons_succ]
    refine seqG fun v11 hv11 => ?_
    simp only [dSeq, dNext, dRet, dRetN, dIfS, dAsg, dAsgG, dDrop, dPar2, dPar3, dAug, dAugS, dFor, dOp, dVar, dC, dTest, dChain, dAnd, dOr, dNot, dAndV, dOrV, dNotV, dIf, dTup, dLst, dNil, dCons, dStar, dCB, dCall, dFrz, dSl, dNoPart, dPart, dBM, dRev, dNeg, dIsi, dListRg, dTupRg, dRg1, dRg2, dLc, dIt, dEnum, dZip2, dZip3, dEnZ, dRng1, dRng2, dYes, gN, gT, gsNil, gsCons, gSb, oI, oI0, oAdd, oMulA, oSub, oFdiv, oMod, oPow, oLt, oLe, oGt, oGe, oEq, oNe, oIsN, oNotN, oIsB, oNotB, oIx, oSl, oLen, oSum, oAll, oAny, oAbs, o1I, o2I, oMin2, oMax2, oMin, oMax, oMinL, oMaxL, oInt, oBool, oList, oTuple, oSorted, oSortedT, oSortedD, dSortSet, dDNew, dDOne, oDGet, oDIn, oDSet, keyOD, oIn, oAddI, oGet, oSet, oAppend, oExtend, oPop, oPopAt, oIndexL, oIndexT, oInsert, oRemove, dTupX, dBMX, dLenSet, newL, startD, wipeD, D.tyN, List.map_cons, List.map_nil, List.cons_append, List.nil_append, List.length_cons, List.length_nil, List.getElem?_cons_zero, List.getElem?_cons_succ, List.set_cons_zero, List.set_cons_succ, List.replicate, Nat.sub_self, Nat.reduceSub, Nat.reduceAdd, Nat.zero_add, kb_ii, kb_ib, kb_it, kb_is, kb_bi, kb_bb, kb_bt, kb_bs, kb_tt, kb_ti, kb_ts, kb_ss, kb_si, kb_st, kb_nt, kb_ni, kb_ns, kb_lt, kb_li, kb_ls, ex_some, seq_tup, seq_tpx, itOf_tpx, seq_lst, seq_fz, list_lst, lsts_lst, lsts_fz, itOf_tup, itOf_lst, itOf_fz, now_int, now_bl, now_non, now_str, now_tup, now_lst, isNon_non, isNon_int, isNon_tup, isNon_ref, isNon_lst, isNon_str, isNon_bl, nI]
    refine ⟨G, i, 1, rfl, hi, by omega, _, R, rfl, g.with hi (.inl rfl), fun w6 hw6 => eqj (hw6.uniq (hv.wider hi hbar)) ?_⟩
    subst hv11
    simp only [dSeq, dNext, dRet, dRetN, dIfS, dAsg, dAsgG, dDrop, dPar2, dPar3, dAug, dAugS, dFor, dOp, dVar, dC, dTest, dChain, dAnd, dOr, dNot, dAndV, dOrV, dNotV, dIf, dTup, dLst, dNil, dCons, dStar, dCB, dCall, dFrz, dSl, dNoPart, dPart, dBM, dRev, dNeg, dIsi, dListRg, dTupRg, dRg1, dRg2, dLc, dIt, dEnum, dZip2, dZip3, dEnZ, dRng1, dRng2, dYes, gN, gT, gsNil, gsCons, gSb, oI, oI0, oAdd, oMulA, oSub, oFdiv, oMod, oPow, oLt, oLe, oGt, oGe, oEq, oNe, oIsN, oNotN, oIsB, oNotB, oIx, oSl, oLen, oSum, oAll, oAny, oAbs, o1I, o2I, oMin2, oMax2, oMin, oMax, oMinL, oMaxL, oInt, oBool, oList, oTuple, oSorted, oSortedT, oSortedD, dSortSet, dDNew, dDOne, oDGet, oDIn, oDSet, keyOD, oIn, oAddI, oGet, oSet, oAppend, oExtend, oPop, oPopAt, oIndexL, oIndexT, oInsert, oRemove, dTupX, dBMX, dLenSet, newL, startD, wipeD, D.tyN, List.map_cons, List.map_nil, List.cons_append, List.nil_append, List.length_cons, List.length_nil, List.getElem?_cons_zero, List.getElem?_cons_succ, List.set_cons_zero, List.set_cons_succ, List.replicate, Nat.sub_self, Nat.reduceSub, Nat.reduceAdd, Nat.zero_add, kb_ii, kb_ib, kb_it, kb_is, kb_bi, kb_bb, kb_bt, kb_bs, kb_tt, kb_ti, kb_ts, kb_ss, kb_si, kb_st, kb_nt, kb_ni, kb_ns, kb_lt, kb_li, kb_ls, ex_some, seq_tup, seq_tpx, itOf_tpx, seq_lst, seq_fz, list_lst, lsts_lst, lsts_fz, itOf_tup, itOf_lst, itOf_fz, now_int, now_bl, now_non, now_str, now_tup, now_lst, isNon_non, isNon_int, isNon_tup, isNon_ref, isNon_lst, isNon_str, isNon_bl, ix_gt hi, eG, a32]
    by_cases hc : 0 < (gt G i).c
    · rw [decide_eq_true hc]
      simp only []
      refine ⟨G, i, -1, rfl, hi, by omega, _, R, rfl, g.with hi (.inr ⟨rfl, hc⟩), fun w7 hw7 => eqj (hw7.uniq (hv.narrower hi hbar)) ?_⟩
      exact nxt
    · rw [decide_eq_false hc]
      exact nxt
  · rintro ρ S ⟨o12, rfl, rfl, hb⟩
    show v10 _ _ _
    subst hv10
    refine seqG fun v11 hv11 => ?_
    simp only [dSeq, dNext, dRet, dRetN, dIfS, dAsg, dAsgG, dDrop, dPar2, dPar3, dAug, dAugS, dFor, dOp, dVar, dC, dTest, dChain, dAnd, dOr, dNot, dAndV, dOrV, dNotV, dIf, dTup, dLst, dNil, dCons, dStar, dCB, dCall, dFrz, dSl, dNoPart, dPart, dBM, dRev, dNeg, dIsi, dListRg, dTupRg, dRg1, dRg2, dLc, dIt, dEnum, dZip2, dZip3, dEnZ, dRng1, dRng2, dYes, gN, gT, gsNil, gsCons, gSb, oI, oI0, oAdd, oMulA, oSub, oFdiv, oMod, oPow, oLt, oLe, oGt, oGe, oEq, oNe, oIsN, oNotN, oIsB, oNotB, oIx, oSl, oLen, oSum, oAll, oAny, oAbs, o1I, o2I, oMin2, oMax2, oMin, oMax, oMinL, oMaxL, oInt, oBool, oList, oTuple, oSorted, oSortedT, oSortedD, dSortSet, dDNew, dDOne, oDGet, oDIn, oDSet, keyOD, oIn, oAddI, oGet, oSet, oAppend, oExtend, oPop, oPopAt, oIndexL, oIndexT, oInsert, oRemove, dTupX, dBMX, dLenSet, newL, startD, wipeD, D.tyN, List.map_cons, List.map_nil, List.cons_append, List.nil_append, List.length_cons, List.length_nil, List.getElem?_cons_zero, List.getElem?_cons_succ, List.set_cons_zero, List.set_cons_succ, List.replicate, Nat.sub_self, Nat.reduceSub, Nat.reduceAdd, Nat.zero_add, kb_ii, kb_ib, kb_it, kb_is, kb_bi, kb_bb, kb_bt, kb_bs, kb_tt, kb_ti, kb_ts, kb_ss, kb_si, kb_st, kb_nt, kb_ni, kb_ns, kb_lt, kb_li, kb_ls, ex_some, seq_tup, seq_tpx, itOf_tpx, seq_lst, seq_fz, list_lst, lsts_lst, lsts_fz, itOf_tup, itOf_lst, itOf_fz, now_int, now_bl, now_non, now_str, now_tup, now_lst, isNon_non, isNon_int, isNon_tup, isNon_ref, isNon_lst, isNon_str, isNon_bl]
    refine ⟨G, R, rfl, gg, fun U E ys hf hp2 hs2 => ?_⟩
    have sh := hf.shown gg hp2 hs2
    subst hv11
    refine seqG fun v12 hv12 => ?_
    simp only [dSeq, dNext, dRet, dRetN, dIfS, dAsg, dAsgG, dDrop, dPar2, dPar3, dAug, dAugS, dFor, dOp, dVar, dC, dTest, dChain, dAnd, dOr, dNot, dAndV, dOrV, dNotV, dIf, dTup, dLst, dNil, dCons, dStar, dCB, dCall, dFrz, dSl, dNoPart, dPart, dBM, dRev, dNeg, dIsi, dListRg, dTupRg, dRg1, dRg2, dLc, dIt, dEnum, dZip2, dZip3, dEnZ, dRng1, dRng2, dYes, gN, gT, gsNil, gsCons, gSb, oI, oI0, oAdd, oMulA, oSub, oFdiv, oMod, oPow, oLt, oLe, oGt, oGe, oEq, oNe, oIsN, oNotN, oIsB, oNotB, oIx, oSl, oLen, oSum, oAll, oAny, oAbs, o1I, o2I, oMin2, oMax2, oMin, oMax, oMinL, oMaxL, oInt, oBool, oList, oTuple, oSorted, oSortedT, oSortedD, dSortSet, dDNew, dDOne, oDGet, oDIn, oDSet, keyOD, oIn, oAddI, oGet, oSet, oAppend, oExtend, oPop, oPopAt, oIndexL, oIndexT, oInsert, oRemove, dTupX, dBMX, dLenSet, newL, startD, wipeD, D.tyN, List.map_cons, List.map_nil, List.cons_append, List.nil_append, List.length_cons, List.length_nil, List.getElem?_cons_zero, List.getElem?_cons_succ, List.set_cons_zero, List.set_cons_succ, List.replicate, Nat.sub_self, Nat.reduceSub, Nat.reduceAdd, Nat.zero_add, kb_ii, kb_ib, kb_it, kb_is, kb_bi, kb_bb, kb_bt, kb_bs, kb_tt, kb_ti, kb_ts, kb_ss, kb_si, kb_st, kb_nt, kb_ni, kb_ns, kb_lt, kb_li, kb_ls, ex_some, seq_tup, seq_tpx, itOf_tpx, seq_lst, seq_fz, list_lst, lsts_lst, lsts_fz, itOf_tup, itOf_lst, itOf_fz, now_int, now_bl, now_non, now_str, now_tup, now_lst, isNon_non, isNon_int, isNon_tup, isNon_ref, isNon_lst, isNon_str, isNon_bl, a42, a44]
    have hlen : U.length = G.length := sh.flow.len
    have eu : out G U 0 = out G.reverse U.reverse 0 := (out_rev hlen 0).symm
    refine ⟨small (by decide), small (by show 4 ≤ _; decide), G.reverse, R, U.reverse, ys, ?_, gg.rev, sh.rev, ?_⟩
    · rw [← eu, List.map_reverse, List.map_reverse]
      rfl
    simp only [decide_true, Bool.not_true]
    subst hv12
    simp only [dSeq, dNext, dRet, dRetN, dIfS, dAsg, dAsgG, dDrop, dPar2, dPar3, dAug, dAugS, dFor, dOp, dVar, dC, dTest, dChain, dAnd, dOr, dNot, dAndV, dOrV, dNotV, dIf, dTup, dLst, dNil, dCons, dStar, dCB, dCall, dFrz, dSl, dNoPart, dPart, dBM, dRev, dNeg, dIsi, dListRg, dTupRg, dRg1, dRg2, dLc, dIt, dEnum, dZip2, dZip3, dEnZ, dRng1, dRng2, dYes, gN, gT, gsNil, gsCons, gSb, oI, oI0, oAdd, oMulA, oSub, oFdiv, oMod, oPow, oLt, oLe, oGt, oGe, oEq, oNe, oIsN, oNotN, oIsB, oNotB, oIx, oSl, oLen, oSum, oAll, oAny, oAbs, o1I, o2I, oMin2, oMax2, oMin, oMax, oMinL, oMaxL, oInt, oBool, oList, oTuple, oSorted, oSortedT, oSortedD, dSortSet, dDNew, dDOne, oDGet, oDIn, oDSet, keyOD, oIn, oAddI, oGet, oSet, oAppend, oExtend, oPop, oPopAt, oIndexL, oIndexT, oInsert, oRemove, dTupX, dBMX, dLenSet, newL, startD, wipeD, D.tyN, List.map_cons, List.map_nil, List.cons_append, List.nil_append, List.length_cons, List.length_nil, List.getElem?_cons_zero, List.getElem?_cons_succ, List.set_cons_zero, List.set_cons_succ, List.replicate, Nat.sub_self, Nat.reduceSub, Nat.reduceAdd, Nat.zero_add, kb_ii, kb_ib, kb_it, kb_is, kb_bi, kb_bb, kb_bt, kb_bs, kb_tt, kb_ti, kb_ts, kb_ss, kb_si, kb_st, kb_nt, kb_ni, kb_ns, kb_lt, kb_li, kb_ls, ex_some, seq_tup, seq_tpx, itOf_tpx, seq_lst, seq_fz, list_lst, lsts_lst, lsts_fz, itOf_tup, itOf_lst, itOf_fz, now_int, now_bl, now_non, now_str, now_tup, now_lst, isNon_non, isNon_int, isNon_tup, isNon_ref, isNon_lst, isNon_str, isNon_bl]
    refine ⟨G, R, U, ys, rfl, gg, sh, ?_⟩
    show FzQ Q (.bl (decide (true = true))) _
    rw [decide_eq_true rfl]
    exact fin
end L47
namespace L47
open PySem PySem.Spec PySem.W PyProof.Rows L2 PL
def topG : List Gate := (List.range 6).map fun (c : Nat) => ⟨0, 1 + (c : Int), 100000⟩
def botG : List Gate := (List.range 6).map fun (c : Nat) => ⟨31 + (c : Int), 37, 100000⟩
def pairG (r k : Nat) : List Gate := [⟨1 + 6 * (r : Int) + (k : Int), 1 + 6 * (r : Int) + (k : Int) + 1, 100000⟩, ⟨1 + 6 * (r : Int) + (k : Int) + 1, 1 + 6 * (r : Int) + (k : Int), 100000⟩]
def sideG (r : Nat) : List Gate := (List.range 5).flatMap (pairG r)
def rowG (q : List Int × Nat) : List Gate := (q.1.zipIdx).map fun z => ⟨1 + 6 * (q.2 : Int) + (z.2 : Int), 7 + 6 * (q.2 : Int) + (z.2 : Int), z.1⟩
def field (rows : List (List Int)) : List Gate := topG ++ botG ++ (List.range 6).flatMap sideG ++ (rows.zipIdx).flatMap rowG
structure FR (rows : List (List Int)) : Prop where
  n : rows.length = 5
  m : ∀ ms ∈ rows, ms.length = 6
  c : ∀ ms ∈ rows, ∀ x ∈ ms, 1 ≤ x ∧ x ≤ 9
theorem mem_top {g : Gate} (h : g ∈ topG) : ∃ c : Nat, c < 6 ∧ g = ⟨0, 1 + (c : Int), 100000⟩ := by
  obtain ⟨c, hc, rfl⟩ := List.mem_map.mp h
  exact ⟨c, List.mem_range.mp hc, rfl⟩
theorem mem_bot {g : Gate} (h : g ∈ botG) : ∃ c : Nat, c < 6 ∧ g = ⟨31 + (c : Int), 37, 100000⟩ := by
  obtain ⟨c, hc, rfl⟩ := List.mem_map.mp h
  exact ⟨c, List.mem_range.mp hc, rfl⟩
theorem mem_side {g : Gate} (h : g ∈ (List.range 6).flatMap sideG) : ∃ r k : Nat, r < 6 ∧ k < 5 ∧ (g = ⟨1 + 6 * (r : Int) + (k : Int), 1 + 6 * (r : Int) + (k : Int) + 1, 100000⟩ ∨ g = ⟨1 + 6 * (r : Int) + (k : Int) + 1, 1 + 6 * (r : Int) + (k : Int), 100000⟩) := by
  obtain ⟨r, hr, h⟩ := List.mem_flatMap.mp h
  obtain ⟨k, hk, h⟩ := List.mem_flatMap.mp h
  refine ⟨r, k, List.mem_range.mp hr, List.mem_range.mp hk, ?_⟩
  unfold pairG at h
  simpa using h
theorem mem_row {rows : List (List Int)} (f : FR rows) {q : List Int × Nat} (hq : q ∈ rows.zipIdx) {g : Gate} (h : g ∈ rowG q) : ∃ c : Nat, q.2 < 5 ∧ c < 6 ∧ g.a = 1 + 6 * (q.2 : Int) + (c : Int) ∧ g.b = 7 + 6 * (q.2 : Int) + (c : Int) ∧ 1 ≤ g.c ∧ g.c ≤ 9 := by
  obtain ⟨z, hz, rfl⟩ := List.mem_map.mp h
  obtain ⟨ms, r⟩ := q
  obtain ⟨x, c⟩ := z
  have h1 := List.mem_zipIdx_iff_getElem?.mp hq
  have h2 := List.mem_zipIdx_iff_getElem?.mp hz
  simp only at h1 h2
  obtain ⟨l1, e1⟩ := List.getElem?_eq_some_iff.mp h1
  obtain ⟨l2, e2⟩ := List.getElem?_eq_some_iff.mp h2
  have hm : ms ∈ rows := List.mem_of_getElem? h1
  have hx : x ∈ ms := List.mem_of_getElem? h2
  have := f.n
  have := f.m ms hm
  have := f.c ms hm x hx
  exact ⟨c, by show r < 5; omega, by omega, rfl, rfl, this⟩
theorem mem_down {rows : List (List Int)} (f : FR rows) {g : Gate} (h : g ∈ (rows.zipIdx).flatMap rowG) : ∃ r c : Nat, r < 5 ∧ c < 6 ∧ g.a = 1 + 6 * (r : Int) + (c : Int) ∧ g.b = 7 + 6 * (r : Int) + (c : Int) ∧ 1 ≤ g.c ∧ g.c ≤ 9 := by
  obtain ⟨q, hq, h⟩ := List.mem_flatMap.mp h
  obtain ⟨c, hc⟩ := mem_row f hq h
  exact ⟨q.2, c, hc⟩
theorem mem_field {rows : List (List Int)} {g : Gate} : g ∈ field rows ↔ g ∈ topG ∨ g ∈ botG ∨ g ∈ (List.range 6).flatMap sideG ∨ g ∈ (rows.zipIdx).flatMap rowG := by
  unfold field
  simp only [List.mem_append, or_assoc]
theorem len_flat {α : Type} (f : α → List Gate) (n : Nat) : ∀ l : List α, (∀ x ∈ l, (f x).length = n) → (l.flatMap f).length = n * l.length
  | [], _ => rfl
  | x :: l, h => by
    rw [List.flatMap_cons, List.length_append, h x List.mem_cons_self, len_flat f n l fun y hy => h y (List.mem_cons_of_mem _ hy), List.length_cons, Nat.mul_add]
    omega
theorem field_len {rows : List (List Int)} (f : FR rows) : (field rows).length = 102 := by
  unfold field
  rw [List.length_append, List.length_append, List.length_append, len_flat rowG 6 _ fun q hq => ?_, List.length_zipIdx, f.n, len_flat sideG 10 _ fun r _ => ?_]
  · rfl
  · rfl
  · obtain ⟨ms, r⟩ := q
    have h1 := List.mem_zipIdx_iff_getElem?.mp hq
    unfold rowG
    rw [List.length_map, List.length_zipIdx]
    exact f.m _ (List.mem_of_getElem? h1)
theorem field_GG {rows : List (List Int)} (f : FR rows) : GG 38 (field rows) := by
  have key : ∀ g ∈ field rows, (0 ≤ g.a ∧ g.a < 38 ∧ 0 ≤ g.b ∧ g.b < 38 ∧ g.a ≠ g.b) ∧ 0 ≤ g.c ∧ g.c ≤ 1000000 := fun g hg => by
    rcases mem_field.mp hg with h | h | h | h
    · obtain ⟨c, hc, rfl⟩ := mem_top h
      simp only; omega
    · obtain ⟨c, hc, rfl⟩ := mem_bot h
      simp only; omega
    · obtain ⟨r, k, hr, hk, rfl | rfl⟩ := mem_side h
      · simp only; omega
      · simp only; omega
    · obtain ⟨r, c, hr, hc, h1, h2, h3, h4⟩ := mem_down f h
      omega
  have := field_len f
  refine ⟨fun g hg => ?_, fun g hg => (key g hg).2, by omega, by omega⟩
  have := (key g hg).1
  omega
theorem cap_flat {α : Type} (f : α → List Gate) (S : Int → Bool) : ∀ l : List α, cap (l.flatMap f) S = (l.map fun x => cap (f x) S).sum
  | [] => by rw [List.flatMap_nil, cap_sum]; rfl
  | x :: l => by rw [List.flatMap_cons, cap_app, cap_flat f S l, List.map_cons, List.sum_cons]
theorem cap_zero {G : List Gate} {S : Int → Bool} (h : ∀ g ∈ G, cr S g = 0) : cap G S = 0 := by
  rw [cap_sum]
  induction G with
  | nil => rfl
  | cons g G ih =>
    rw [List.map_cons, List.sum_cons, h g List.mem_cons_self, ih fun x hx => h x (List.mem_cons_of_mem _ hx)]
    rfl
theorem sum_ge {l : List Int} (h : ∀ x ∈ l, 0 ≤ x) {y : Int} (hy : y ∈ l) : y ≤ l.sum := by
  induction l with
  | nil => cases hy
  | cons x l ih =>
    have n0 : 0 ≤ l.sum := by
      clear ih hy
      have h' := fun z hz => h z (List.mem_cons_of_mem x hz)
      clear h
      induction l with
      | nil => exact Int.le_refl 0
      | cons z l ih2 =>
        rw [List.sum_cons]
        have := h' z List.mem_cons_self
        have := ih2 fun w hw => h' w (List.mem_cons_of_mem _ hw)
        omega
    rw [List.sum_cons]
    rcases List.mem_cons.mp hy with rfl | hy
    · omega
    · have := ih (fun z hz => h z (List.mem_cons_of_mem _ hz)) hy
      have := h x List.mem_cons_self
      omega
theorem cr_nn {S : Int → Bool} {g : Gate} (h : 0 ≤ g.c) : 0 ≤ cr S g := by
  unfold cr
  split <;> omega
theorem cap_mem {G : List Gate} {S : Int → Bool} (h : ∀ g ∈ G, 0 ≤ g.c) {g : Gate} (hg : g ∈ G) : cr S g ≤ cap G S := by
  rw [cap_sum]
  refine sum_ge (fun x hx => ?_) (List.mem_map_of_mem hg)
  obtain ⟨y, hy, rfl⟩ := List.mem_map.mp hx
  exact cr_nn (h y hy)
theorem cap_row {S : Int → Bool} {ms : List Int} {r : Nat} (h : ∀ c : Nat, c < ms.length → S (1 + 6 * (r : Int) + (c : Int)) = true ∧ S (7 + 6 * (r : Int) + (c : Int)) = false) : cap (rowG (ms, r)) S = ms.sum := by
  unfold rowG
  rw [cap_sum, List.map_map]
  have e : (ms.zipIdx).map (cr S ∘ fun z => (⟨1 + 6 * (r : Int) + (z.2 : Int), 7 + 6 * (r : Int) + (z.2 : Int), z.1⟩ : Gate)) = (ms.zipIdx).map Prod.fst := List.map_congr_left fun z hz => by
    obtain ⟨x, c⟩ := z
    have h2 := List.mem_zipIdx_iff_getElem?.mp hz
    obtain ⟨l2, e2⟩ := List.getElem?_eq_some_iff.mp h2
    obtain ⟨a, b⟩ := h c l2
    simp [cr, a, b]
  have e2 : (ms.zipIdx).map Prod.fst = ms := by
    apply List.ext_getElem?
    intro i
    rw [List.getElem?_map, List.getElem?_zipIdx]
    cases ms[i]? <;> simp
  simp only
  rw [e, e2]
theorem row_le {rows : List (List Int)} (f : FR rows) {ms : List Int} (h : ms ∈ rows) : 6 ≤ ms.sum ∧ ms.sum ≤ 54 := by
  have h6 := f.m ms h
  have hc := f.c ms h
  have key : ∀ l : List Int, (∀ x ∈ l, 1 ≤ x ∧ x ≤ 9) → (l.length : Int) ≤ l.sum ∧ l.sum ≤ 9 * (l.length : Int) := fun l => by
    induction l with
    | nil => intro _; simp
    | cons x l ih =>
      intro h
      have := h x List.mem_cons_self
      have := ih fun z hz => h z (List.mem_cons_of_mem _ hz)
      rw [List.sum_cons, List.length_cons]
      omega
  have := key ms hc
  omega
/-- going down the rows, somewhere it goes from in to out -/
theorem step_out (s : Nat → Bool) (h0 : s 0 = true) : ∀ n, s n = false → ∃ r, r < n ∧ s r = true ∧ s (r + 1) = false
  | 0, h => by rw [h0] at h; cases h
  | n + 1, h => by
    cases hn : s n with
    | true => exact ⟨n, by omega, hn, h⟩
    | false =>
      obtain ⟨r, a, b⟩ := step_out s h0 n hn
      exact ⟨r, by omega, b⟩
theorem field_le {rows : List (List Int)} (f : FR rows) {S : Int → Bool} (h0 : S 0 = true) (h1 : S 37 = false) : ∃ ms ∈ rows, ms.sum ≤ cap (field rows) S := by
  have nn : ∀ g ∈ field rows, 0 ≤ g.c := fun g hg => ((field_GG f).c g hg).1
  have big : ∀ g ∈ field rows, S g.a = true → S g.b = false → g.c = 100000 → ∃ ms ∈ rows, ms.sum ≤ cap (field rows) S := fun g hg a b c => by
    obtain ⟨ms, hms⟩ : ∃ ms, ms ∈ rows := by
      have := f.n
      cases rows with
      | nil => cases this
      | cons ms _ => exact ⟨ms, List.mem_cons_self⟩
    refine ⟨ms, hms, ?_⟩
    have := cap_mem (S := S) nn hg
    have e : cr S g = 100000 := by unfold cr; rw [a, b, c]; rfl
    have := row_le f hms
    omega
  by_cases ht : ∃ c : Nat, c < 6 ∧ S (1 + (c : Int)) = false
  · obtain ⟨c, hc, hs⟩ := ht
    exact big ⟨0, 1 + (c : Int), 100000⟩ (mem_field.mpr (.inl (List.mem_map.mpr ⟨c, List.mem_range.mpr hc, rfl⟩))) h0 hs rfl
  by_cases hb : ∃ c : Nat, c < 6 ∧ S (31 + (c : Int)) = true
  · obtain ⟨c, hc, hs⟩ := hb
    exact big ⟨31 + (c : Int), 37, 100000⟩ (mem_field.mpr (.inr (.inl (List.mem_map.mpr ⟨c, List.mem_range.mpr hc, rfl⟩)))) hs h1 rfl
  by_cases hs : ∃ r k : Nat, r < 6 ∧ k < 5 ∧ S (1 + 6 * (r : Int) + (k : Int)) ≠ S (1 + 6 * (r : Int) + (k : Int) + 1)
  · obtain ⟨r, k, hr, hk, hs⟩ := hs
    have hm : ∀ g ∈ pairG r k, g ∈ field rows := fun g hg => mem_field.mpr (.inr (.inr (.inl (List.mem_flatMap.mpr ⟨r, List.mem_range.mpr hr, List.mem_flatMap.mpr ⟨k, List.mem_range.mpr hk, hg⟩⟩))))
    cases e1 : S (1 + 6 * (r : Int) + (k : Int)) with
    | true =>
      cases e2 : S (1 + 6 * (r : Int) + (k : Int) + 1) with
      | true => rw [e1, e2] at hs; exact absurd rfl hs
      | false => exact big ⟨1 + 6 * (r : Int) + (k : Int), 1 + 6 * (r : Int) + (k : Int) + 1, 100000⟩ (hm _ (by unfold pairG; simp)) e1 e2 rfl
    | false =>
      cases e2 : S (1 + 6 * (r : Int) + (k : Int) + 1) with
      | false => rw [e1, e2] at hs; exact absurd rfl hs
      | true => exact big ⟨1 + 6 * (r : Int) + (k : Int) + 1, 1 + 6 * (r : Int) + (k : Int), 100000⟩ (hm _ (by unfold pairG; simp)) e2 e1 rfl
  have same : ∀ r : Nat, r < 6 → ∀ k : Nat, k < 6 → S (1 + 6 * (r : Int) + (k : Int)) = S (1 + 6 * (r : Int)) := fun r hr k => by
    induction k with
    | zero => intro _; exact congrArg S (by omega)
    | succ k ih =>
      intro hk
      rw [← ih (by omega)]
      have : S (1 + 6 * (r : Int) + (k : Int)) = S (1 + 6 * (r : Int) + (k : Int) + 1) := by
        by_cases z : S (1 + 6 * (r : Int) + (k : Int)) = S (1 + 6 * (r : Int) + (k : Int) + 1)
        · exact z
        · exact absurd ⟨r, k, hr, by omega, z⟩ hs
      rw [this]
      congr 1
  have a0 : S (1 + 6 * ((0 : Nat) : Int)) = true := by
    cases z : S (1 + 6 * ((0 : Nat) : Int)) with
    | true => rfl
    | false => exact absurd ⟨0, by decide, by rw [← z]; rfl⟩ ht
  have a5 : S (1 + 6 * ((5 : Nat) : Int)) = false := by
    cases z : S (1 + 6 * ((5 : Nat) : Int)) with
    | false => rfl
    | true => exact absurd ⟨0, by decide, by rw [← z]; rfl⟩ hb
  obtain ⟨r, hr, b1, b2⟩ := step_out (fun r => S (1 + 6 * (r : Int))) a0 5 a5
  have hrl : r < rows.length := by rw [f.n]; exact hr
  refine ⟨rows[r], List.getElem_mem hrl, ?_⟩
  have e : cap (rowG (rows[r], r)) S = rows[r].sum := cap_row fun c hc => by
    rw [f.m _ (List.getElem_mem hrl)] at hc
    refine ⟨by rw [same r (by omega) c hc]; exact b1, ?_⟩
    have := same (r + 1) (by omega) c hc
    have b2' : S (1 + 6 * ((r + 1 : Nat) : Int)) = false := b2
    rw [b2'] at this
    rw [← this]
    congr 1
    omega
  rw [← e]
  have h2 : cap (rowG (rows[r], r)) S ≤ cap ((rows.zipIdx).flatMap rowG) S := by
    rw [cap_flat]
    refine sum_ge (fun x hx => ?_) (List.mem_map.mpr ⟨(rows[r], r), List.mem_zipIdx_iff_getElem?.mpr (List.getElem?_eq_getElem hrl), rfl⟩)
    obtain ⟨q, hq, rfl⟩ := List.mem_map.mp hx
    refine cap_nn fun g hg => ?_
    have := (mem_row f hq hg).choose_spec
    omega
  have h3 : 0 ≤ cap (topG ++ botG ++ (List.range 6).flatMap sideG) S := cap_nn fun g hg => nn g (by unfold field; exact List.mem_append_left _ hg)
  unfold field
  rw [cap_app]
  omega
theorem field_ex {rows : List (List Int)} (f : FR rows) {ms : List Int} (h : ms ∈ rows) : ∃ S : Int → Bool, S 0 = true ∧ S 37 = false ∧ cap (field rows) S = ms.sum := by
  obtain ⟨r, hr, rfl⟩ := List.getElem_of_mem h
  have hr5 : r < 5 := by rw [← f.n]; exact hr
  refine ⟨fun x => decide (x ≤ 6 * ((r : Int) + 1)), decide_eq_true (by omega), decide_eq_false (by omega), ?_⟩
  generalize hS : (fun x : Int => decide (x ≤ 6 * ((r : Int) + 1))) = S
  have st : ∀ x, x ≤ 6 * ((r : Int) + 1) → S x = true := fun x hx => by rw [← hS]; exact decide_eq_true hx
  have sf : ∀ x, ¬ x ≤ 6 * ((r : Int) + 1) → S x = false := fun x hx => by rw [← hS]; exact decide_eq_false hx
  have both : ∀ g : Gate, (g.b ≤ 6 * ((r : Int) + 1) ∨ ¬ g.a ≤ 6 * ((r : Int) + 1)) → cr S g = 0 := fun g hg => by
    unfold cr
    rcases hg with z | z
    · rw [st _ z]; simp
    · rw [sf _ z]; simp
  unfold field
  rw [cap_app, cap_app, cap_app]
  rw [cap_zero (G := topG) fun g hg => ?_, cap_zero (G := botG) fun g hg => ?_, cap_zero (G := (List.range 6).flatMap sideG) fun g hg => ?_]
  · rw [cap_flat]
    have e : ∀ (l : List (List Int)) (k : Nat), (∀ i (hi : i < l.length), k + i < 5 ∧ l[i].length = 6) → ((l.zipIdx k).map fun x => cap (rowG x) S).sum = if hk : k ≤ r ∧ r - k < l.length then (l[r - k]'hk.2).sum else 0 := fun l => by
      induction l with
      | nil => intro k _; simp
      | cons m l ih =>
        intro k hk
        rw [List.zipIdx_cons, List.map_cons, List.sum_cons, ih (k + 1) fun i hi => ⟨by have := (hk (i + 1) (by rw [List.length_cons]; omega)).1; omega, (hk (i + 1) (by rw [List.length_cons]; omega)).2⟩]
        have h6 : m.length = 6 := (hk 0 (by simp)).2
        rcases Nat.lt_trichotomy k r with z | z | z
        · rw [cap_zero fun g hg => ?_]
          · obtain ⟨d, hd⟩ : ∃ d, r - k = d + 1 := ⟨r - k - 1, by omega⟩
            have hd2 : r - (k + 1) = d := by omega
            by_cases hz : d < l.length
            · rw [dif_pos ⟨by omega, by omega⟩, dif_pos ⟨by omega, by rw [List.length_cons]; omega⟩, Int.zero_add]
              congr 1
              simp only [hd, hd2, List.getElem_cons_succ]
            · rw [dif_neg (by omega), dif_neg (by rw [List.length_cons]; omega)]; rfl
          · obtain ⟨z', hz', rfl⟩ := List.mem_map.mp hg
            have h2 := List.mem_zipIdx_iff_getElem?.mp hz'
            obtain ⟨l2, _⟩ := List.getElem?_eq_some_iff.mp h2
            exact both _ (.inl (by simp only at l2 ⊢; omega))
        · subst z
          rw [cap_row fun c hc => ⟨st _ (by omega), sf _ (by omega)⟩, dif_neg (by omega), dif_pos ⟨Nat.le_refl _, by simp⟩]
          simp
        · rw [cap_zero fun g hg => ?_, dif_neg (by omega), dif_neg (by omega)]
          · rfl
          · obtain ⟨z', hz', rfl⟩ := List.mem_map.mp hg
            exact both _ (.inr (by simp only; omega))
    rw [e rows 0 fun i hi => ⟨by have := f.n; omega, f.m _ (List.getElem_mem hi)⟩, dif_pos ⟨Nat.zero_le _, hr⟩]
    simp
  · obtain ⟨x, k, hx, hk, rfl | rfl⟩ := mem_side hg
    · exact both _ (by simp only; omega)
    · exact both _ (by simp only; omega)
  · obtain ⟨c, hc, rfl⟩ := mem_bot hg
    exact both _ (.inr (by simp only; omega))
  · obtain ⟨c, hc, rfl⟩ := mem_top hg
    exact both _ (.inl (by simp only; omega))
theorem field_min {rows : List (List Int)} (f : FR rows) {v : Int} (h1 : ∃ ms ∈ rows, ms.sum = v) (h2 : ∀ ms ∈ rows, v ≤ ms.sum) : IsMin 38 (field rows) v := by
  obtain ⟨ms, hm, rfl⟩ := h1
  refine ⟨field_ex f hm, fun S a b => ?_⟩
  obtain ⟨m2, hm2, hle⟩ := field_le f a b
  have := h2 m2 hm2
  omega
end L47
namespace L47
open PySem PySem.Spec PySem.W PyProof.Rows L2 PL
/-- a comprehension that draws c times for each item, and may build beside -/
theorem lc_drawsF {α β : Type} {p : Addr} {c b : Nat} {o : MO} {S : Sto} {Q : QD} {ρ0 : DEnv} {γ : TGD} {el : TED} (l : List α) (enc : α → D) (fb : β → D) (R : α → β → Prop) (hS : S p = some o) (hp : PotO b o) (hl : l.length ≤ 1000) (hc : c ≤ 50)
    (hγ : ∀ x ∈ l, ∀ S' N o0 b0, S' p = some o0 → PotO b0 o0 → b0 ≤ 100000 → (∀ y o' S'', R x y → PotO (b0 + c) o' → S'' p = some o' → Fr p S' S'' → N (fb y) S'') → γ (enc x) ρ0 S' fun ρ' S1 => el ρ' S1 N)
    (hb : b ≤ 50000) (q : ∀ (ys : List β) o' S', All2 R l ys → S' p = some o' → PotO (b + c * l.length) o' → Fr p S S' → Q (.lst (ys.map fb)) S') :
    ∀ Dl, S Dl = none → True ∧ lcD Dl (fun _ => True) ρ0 γ dYes el (l.map enc) [] (S.up Dl (.lst [])) (endL false Dl Q) := by
  have inv := lc_run (r := false) (ρ0 := ρ0) (γ := γ) (t := dYes) (el := el) (it := ⟨l.map enc, fun _ => True⟩) (S := S) (Q := Q) (fun xs acc S' => ∃ (ds re : List α) (ys : List β) (o' : MO), xs = re.map enc ∧ ds ++ re = l ∧ acc = ys.map fb ∧ All2 R ds ys ∧ S' p = some o' ∧ PotO (b + c * ys.length) o' ∧ Fr p S S')
    (fun _ => trivial) (small (by show (l.map enc).length ≤ _; rw [List.length_map]; omega)) (fun Dl hD => ⟨[], l, [], o, rfl, rfl, rfl, .nil, by rw [Sto.up_ne (ne_of_in hS hD)]; exact hS, hp, Fr.refl.new hD⟩) ?_ ?_ ?_
  · exact inv
  · rintro x xs acc S' _ ⟨ds, re, ys, o', hx, hdr, rfl, hA, hS', hp', hfr⟩ Dl hD hDl N M hN
    cases re with
    | nil => cases hx
    | cons a re =>
    obtain ⟨rfl, rfl⟩ := List.cons.inj hx
    have hDp : Dl ≠ p := fun z => by subst z; rw [hD] at hS; cases hS
    simp only [dYes]
    have hlen : ys.length + (re.length + 1) = l.length := by rw [hA.len, ← hdr, List.length_append, List.length_cons]
    have hb2 : c * ys.length ≤ 50 * 1000 := Nat.mul_le_mul hc (by omega)
    refine hγ a (by rw [← hdr]; simp) S' N o' _ hS' hp' (by omega) (fun y o2 S'' hr h2 h3 h4 => ?_)
    refine hN _ _ (h4 _ _ hDp hDl) (by rw [List.length_map, sizeLine_eq]; omega) ⟨ds ++ [a], re, ys ++ [y], o2, rfl, by rw [← hdr]; simp, by rw [List.map_append]; rfl, hA.snoc hr, ?_, ?_, ?_⟩
    · rw [Sto.up_ne (Ne.symm hDp)]; exact h3
    · rw [List.length_append, List.length_cons, List.length_nil, Nat.mul_add, Nat.mul_one]; exact h2.mono (by omega)
    · exact (hfr.trans h4).old hD
  · rintro x xs acc S' ⟨ds, re, ys, o', hx, hdr, rfl, hA, _⟩
    rw [List.length_map, hA.len, hx, List.length_map]
    show _ ≤ (l.map enc).length
    rw [List.length_map, ← hdr, List.length_append]
    exact Nat.le_refl _
  · rintro Dl acc S' hD ⟨ds, re, ys, o', hx, hdr, rfl, hA, hS', hp', hfr⟩ hDl
    have : re = [] := by cases re with
      | nil => rfl
      | cons a re => cases hx
    subst this
    rw [List.append_nil] at hdr
    subst hdr
    show Q (.lst _) _
    rw [hA.len] at hp'
    have hDp : Dl ≠ p := fun z => by subst z; rw [hD] at hS; cases hS
    exact q ys o' _ hA (by rw [Sto.del_ne (Ne.symm hDp)]; exact hS') hp' (hfr.del hD)
def eRw (ms : List Int) : D := .lst (ms.map D.int)
def sp__law_field : DSp := fun ds S Q => ∃ (p : Addr) (o : MO) (b : Nat), ds = [.ref p] ∧ S p = some o ∧ PotO b o ∧ b ≤ 10000 ∧ ∀ rows v o', FR rows → IsMin 38 (field rows) v → PotO (b + 30) o' → Q (.tup [.tup ((field rows).map eG), .int v]) (S.up p o')
theorem pure__law_field : ∀ ds S Q, sp__law_field ds S Q → t__law_field sp__law_take (DeN Q) (startD N__law_field ds) S := by
  rintro ds S0 Q ⟨p, o0, b, rfl, hS0, hp0, hb, q⟩
  unfold t__law_field
  refine seqG fun v1 hv1 => ?_
  simp only [dSeq, dNext, dRet, dRetN, dIfS, dAsg, dAsgG, dDrop, dPar2, dPar3, dAug, dAugS, dFor, dOp, dVar, dC, dTest, dChain, dAnd, dOr, dNot, dAndV, dOrV, dNotV, dIf, dTup, dLst, dNil, dCons, dStar, dCB, dCall, dFrz, dSl, dNoPart, dPart, dBM, dRev, dNeg, dIsi, dListRg, dTupRg, dRg1, dRg2, dLc, dIt, dEnum, dZip2, dZip3, dEnZ, dRng1, dRng2, dYes, gN, gT, gsNil, gsCons, gSb, oI, oI0, oAdd, oMulA, oSub, oFdiv, oMod, oPow, oLt, oLe, oGt, oGe, oEq, oNe, oIsN, oNotN, oIsB, oNotB, oIx, oSl, oLen, oSum, oAll, oAny, oAbs, o1I, o2I, oMin2, oMax2, oMin, oMax, oMinL, oMaxL, oInt, oBool, oList, oTuple, oSorted, oSortedT, oSortedD, dSortSet, dDNew, dDOne, oDGet, oDIn, oDSet, keyOD, oIn, oAddI, oGet, oSet, oAppend, oExtend, oPop, oPopAt, oIndexL, oIndexT, oInsert, oRemove, dTupX, dBMX, dLenSet, newL, startD, wipeD, D.tyN, List.map_cons, List.map_nil, List.cons_append, List.nil_append, List.length_cons, List.length_nil, List.getElem?_cons_zero, List.getElem?_cons_succ, List.set_cons_zero, List.set_cons_succ, List.replicate, Nat.sub_self, Nat.reduceSub, Nat.reduceAdd, Nat.zero_add, kb_ii, kb_ib, kb_it, kb_is, kb_bi, kb_bb, kb_bt, kb_bs, kb_tt, kb_ti, kb_ts, kb_ss, kb_si, kb_st, kb_nt, kb_ni, kb_ns, kb_lt, kb_li, kb_ls, ex_some, seq_tup, seq_tpx, itOf_tpx, seq_lst, seq_fz, list_lst, lsts_lst, lsts_fz, itOf_tup, itOf_lst, itOf_fz, now_int, now_bl, now_non, now_str, now_tup, now_lst, isNon_non, isNon_int, isNon_tup, isNon_ref, isNon_lst, isNon_str, isNon_bl]
  refine ⟨by decide, ?_⟩
  refine lc_drawsF (c := 6) (List.range 5) (fun i => .int (0 + (i : Nat))) eRw (fun _ ms => ms.length = 6 ∧ ∀ x ∈ ms, 1 ≤ x ∧ x ≤ 9) hS0 hp0 (by decide) (by decide) (fun r hr S' N o b0 hS' hp' hb0 hN => ?_) (by omega) fun rows o1 S1 hA hS1 hp1 hfr1 => ?_
  · simp only [dSeq, dNext, dRet, dRetN, dIfS, dAsg, dAsgG, dDrop, dPar2, dPar3, dAug, dAugS, dFor, dOp, dVar, dC, dTest, dChain, dAnd, dOr, dNot, dAndV, dOrV, dNotV, dIf, dTup, dLst, dNil, dCons, dStar, dCB, dCall, dFrz, dSl, dNoPart, dPart, dBM, dRev, dNeg, dIsi, dListRg, dTupRg, dRg1, dRg2, dLc, dIt, dEnum, dZip2, dZip3, dEnZ, dRng1, dRng2, dYes, gN, gT, gsNil, gsCons, gSb, oI, oI0, oAdd, oMulA, oSub, oFdiv, oMod, oPow, oLt, oLe, oGt, oGe, oEq, oNe, oIsN, oNotN, oIsB, oNotB, oIx, oSl, oLen, oSum, oAll, oAny, oAbs, o1I, o2I, oMin2, oMax2, oMin, oMax, oMinL, oMaxL, oInt, oBool, oList, oTuple, oSorted, oSortedT, oSortedD, dSortSet, dDNew, dDOne, oDGet, oDIn, oDSet, keyOD, oIn, oAddI, oGet, oSet, oAppend, oExtend, oPop, oPopAt, oIndexL, oIndexT, oInsert, oRemove, dTupX, dBMX, dLenSet, newL, startD, wipeD, D.tyN, List.map_cons, List.map_nil, List.cons_append, List.nil_append, List.length_cons, List.length_nil, List.getElem?_cons_zero, List.getElem?_cons_succ, List.set_cons_zero, List.set_cons_succ, List.replicate, Nat.sub_self, Nat.reduceSub, Nat.reduceAdd, Nat.zero_add, kb_ii, kb_ib, kb_it, kb_is, kb_bi, kb_bb, kb_bt, kb_bs, kb_tt, kb_ti, kb_ts, kb_ss, kb_si, kb_st, kb_nt, kb_ni, kb_ns, kb_lt, kb_li, kb_ls, ex_some, seq_tup, seq_tpx, itOf_tpx, seq_lst, seq_fz, list_lst, lsts_lst, lsts_fz, itOf_tup, itOf_lst, itOf_fz, now_int, now_bl, now_non, now_str, now_tup, now_lst, isNon_non, isNon_int, isNon_tup, isNon_ref, isNon_lst, isNon_str, isNon_bl]
    refine ⟨by decide, ?_⟩
    refine lc_draws (n := 9) _ hS' hp' (by show (rangeD 0 6).length ≤ 1000; decide) (fun k => .int (1 + k)) (fun x S2 N2 o2 b2 h2 h3 h4 h5 => ?_) (by omega) fun vs o2 S2 hlen hv h2 h3 hfr2 => ?_
    · simp only [dSeq, dNext, dRet, dRetN, dIfS, dAsg, dAsgG, dDrop, dPar2, dPar3, dAug, dAugS, dFor, dOp, dVar, dC, dTest, dChain, dAnd, dOr, dNot, dAndV, dOrV, dNotV, dIf, dTup, dLst, dNil, dCons, dStar, dCB, dCall, dFrz, dSl, dNoPart, dPart, dBM, dRev, dNeg, dIsi, dListRg, dTupRg, dRg1, dRg2, dLc, dIt, dEnum, dZip2, dZip3, dEnZ, dRng1, dRng2, dYes, gN, gT, gsNil, gsCons, gSb, oI, oI0, oAdd, oMulA, oSub, oFdiv, oMod, oPow, oLt, oLe, oGt, oGe, oEq, oNe, oIsN, oNotN, oIsB, oNotB, oIx, oSl, oLen, oSum, oAll, oAny, oAbs, o1I, o2I, oMin2, oMax2, oMin, oMax, oMinL, oMaxL, oInt, oBool, oList, oTuple, oSorted, oSortedT, oSortedD, dSortSet, dDNew, dDOne, oDGet, oDIn, oDSet, keyOD, oIn, oAddI, oGet, oSet, oAppend, oExtend, oPop, oPopAt, oIndexL, oIndexT, oInsert, oRemove, dTupX, dBMX, dLenSet, newL, startD, wipeD, D.tyN, List.map_cons, List.map_nil, List.cons_append, List.nil_append, List.length_cons, List.length_nil, List.getElem?_cons_zero, List.getElem?_cons_succ, List.set_cons_zero, List.set_cons_succ, List.replicate, Nat.sub_self, Nat.reduceSub, Nat.reduceAdd, Nat.zero_add, kb_ii, kb_ib, kb_it, kb_is, kb_bi, kb_bb, kb_bt, kb_bs, kb_tt, kb_ti, kb_ts, kb_ss, kb_si, kb_st, kb_nt, kb_ni, kb_ns, kb_lt, kb_li, kb_ls, ex_some, seq_tup, seq_tpx, itOf_tpx, seq_lst, seq_fz, list_lst, lsts_lst, lsts_fz, itOf_tup, itOf_lst, itOf_fz, now_int, now_bl, now_non, now_str, now_tup, now_lst, isNon_non, isNon_int, isNon_tup, isNon_ref, isNon_lst, isNon_str, isNon_bl]
      exact ⟨p, 9, b2, o2, rfl, by decide, by decide, h2, h3, h4, fun k o3 k0 k1 h6 => by simp only [dSeq, dNext, dRet, dRetN, dIfS, dAsg, dAsgG, dDrop, dPar2, dPar3, dAug, dAugS, dFor, dOp, dVar, dC, dTest, dChain, dAnd, dOr, dNot, dAndV, dOrV, dNotV, dIf, dTup, dLst, dNil, dCons, dStar, dCB, dCall, dFrz, dSl, dNoPart, dPart, dBM, dRev, dNeg, dIsi, dListRg, dTupRg, dRg1, dRg2, dLc, dIt, dEnum, dZip2, dZip3, dEnZ, dRng1, dRng2, dYes, gN, gT, gsNil, gsCons, gSb, oI, oI0, oAdd, oMulA, oSub, oFdiv, oMod, oPow, oLt, oLe, oGt, oGe, oEq, oNe, oIsN, oNotN, oIsB, oNotB, oIx, oSl, oLen, oSum, oAll, oAny, oAbs, o1I, o2I, oMin2, oMax2, oMin, oMax, oMinL, oMaxL, oInt, oBool, oList, oTuple, oSorted, oSortedT, oSortedD, dSortSet, dDNew, dDOne, oDGet, oDIn, oDSet, keyOD, oIn, oAddI, oGet, oSet, oAppend, oExtend, oPop, oPopAt, oIndexL, oIndexT, oInsert, oRemove, dTupX, dBMX, dLenSet, newL, startD, wipeD, D.tyN, List.map_cons, List.map_nil, List.cons_append, List.nil_append, List.length_cons, List.length_nil, List.getElem?_cons_zero, List.getElem?_cons_succ, List.set_cons_zero, List.set_cons_succ, List.replicate, Nat.sub_self, Nat.reduceSub, Nat.reduceAdd, Nat.zero_add, kb_ii, kb_ib, kb_it, kb_is, kb_bi, kb_bb, kb_bt, kb_bs, kb_tt, kb_ti, kb_ts, kb_ss, kb_si, kb_st, kb_nt, kb_ni, kb_ns, kb_lt, kb_li, kb_ls, ex_some, seq_tup, seq_tpx, itOf_tpx, seq_lst, seq_fz, list_lst, lsts_lst, lsts_fz, itOf_tup, itOf_lst, itOf_fz, now_int, now_bl, now_non, now_str, now_tup, now_lst, isNon_non, isNon_int, isNon_tup, isNon_ref, isNon_lst, isNon_str, isNon_bl]; exact h5 k o3 k0 k1 h6⟩
    · have e : vs.map (fun k => D.int (1 + k)) = (vs.map fun k => 1 + k).map D.int := by rw [List.map_map]; rfl
      show N (.lst _) _
      rw [e]
      have h3' : PotO (b0 + 6) o2 := h3
      refine hN (vs.map fun k => 1 + k) o2 S2 ⟨by rw [List.length_map, hlen]; rfl, fun x hx => ?_⟩ h3' h2 hfr2
      obtain ⟨k, hk, rfl⟩ := List.mem_map.mp hx
      have := hv k hk
      omega
  have fr : FR rows := ⟨hA.len, fun ms h => by obtain ⟨_, _, h⟩ := hA.mem ms h; exact h.1, fun ms h => by obtain ⟨_, _, h⟩ := hA.mem ms h; exact h.2⟩
  rw [List.length_range] at hp1
  subst hv1
  refine seqG fun v2 hv2 => ?_
  simp only [dSeq, dNext, dRet, dRetN, dIfS, dAsg, dAsgG, dDrop, dPar2, dPar3, dAug, dAugS, dFor, dOp, dVar, dC, dTest, dChain, dAnd, dOr, dNot, dAndV, dOrV, dNotV, dIf, dTup, dLst, dNil, dCons, dStar, dCB, dCall, dFrz, dSl, dNoPart, dPart, dBM, dRev, dNeg, dIsi, dListRg, dTupRg, dRg1, dRg2, dLc, dIt, dEnum, dZip2, dZip3, dEnZ, dRng1, dRng2, dYes, gN, gT, gsNil, gsCons, gSb, oI, oI0, oAdd, oMulA, oSub, oFdiv, oMod, oPow, oLt, oLe, oGt, oGe, oEq, oNe, oIsN, oNotN, oIsB, oNotB, oIx, oSl, oLen, oSum, oAll, oAny, oAbs, o1I, o2I, oMin2, oMax2, oMin, oMax, oMinL, oMaxL, oInt, oBool, oList, oTuple, oSorted, oSortedT, oSortedD, dSortSet, dDNew, dDOne, oDGet, oDIn, oDSet, keyOD, oIn, oAddI, oGet, oSet, oAppend, oExtend, oPop, oPopAt, oIndexL, oIndexT, oInsert, oRemove, dTupX, dBMX, dLenSet, newL, startD, wipeD, D.tyN, List.map_cons, List.map_nil, List.cons_append, List.nil_append, List.length_cons, List.length_nil, List.getElem?_cons_zero, List.getElem?_cons_succ, List.set_cons_zero, List.set_cons_succ, List.replicate, Nat.sub_self, Nat.reduceSub, Nat.reduceAdd, Nat.zero_add, kb_ii, kb_ib, kb_it, kb_is, kb_bi, kb_bb, kb_bt, kb_bs, kb_tt, kb_ti, kb_ts, kb_ss, kb_si, kb_st, kb_nt, kb_ni, kb_ns, kb_lt, kb_li, kb_ls, ex_some, seq_tup, seq_tpx, itOf_tpx, seq_lst, seq_fz, list_lst, lsts_lst, lsts_fz, itOf_tup, itOf_lst, itOf_fz, now_int, now_bl, now_non, now_str, now_tup, now_lst, isNon_non, isNon_int, isNon_tup, isNon_ref, isNon_lst, isNon_str, isNon_bl]
  refine ⟨by decide, ?_⟩
  refine lc_mapE (List.range 6) (fun i => .int (0 + (i : Nat))) (fun (i : Nat) => eG ⟨0, 1 + (i : Int), 100000⟩) (fun _ _ => trivial) (by decide) (fun i hi S' e N M h => ?_) ?_
  · simp only [dSeq, dNext, dRet, dRetN, dIfS, dAsg, dAsgG, dDrop, dPar2, dPar3, dAug, dAugS, dFor, dOp, dVar, dC, dTest, dChain, dAnd, dOr, dNot, dAndV, dOrV, dNotV, dIf, dTup, dLst, dNil, dCons, dStar, dCB, dCall, dFrz, dSl, dNoPart, dPart, dBM, dRev, dNeg, dIsi, dListRg, dTupRg, dRg1, dRg2, dLc, dIt, dEnum, dZip2, dZip3, dEnZ, dRng1, dRng2, dYes, gN, gT, gsNil, gsCons, gSb, oI, oI0, oAdd, oMulA, oSub, oFdiv, oMod, oPow, oLt, oLe, oGt, oGe, oEq, oNe, oIsN, oNotN, oIsB, oNotB, oIx, oSl, oLen, oSum, oAll, oAny, oAbs, o1I, o2I, oMin2, oMax2, oMin, oMax, oMinL, oMaxL, oInt, oBool, oList, oTuple, oSorted, oSortedT, oSortedD, dSortSet, dDNew, dDOne, oDGet, oDIn, oDSet, keyOD, oIn, oAddI, oGet, oSet, oAppend, oExtend, oPop, oPopAt, oIndexL, oIndexT, oInsert, oRemove, dTupX, dBMX, dLenSet, newL, startD, wipeD, D.tyN, List.map_cons, List.map_nil, List.cons_append, List.nil_append, List.length_cons, List.length_nil, List.getElem?_cons_zero, List.getElem?_cons_succ, List.set_cons_zero, List.set_cons_succ, List.replicate, Nat.sub_self, Nat.reduceSub, Nat.reduceAdd, Nat.zero_add, kb_ii, kb_ib, kb_it, kb_is, kb_bi, kb_bb, kb_bt, kb_bs, kb_tt, kb_ti, kb_ts, kb_ss, kb_si, kb_st, kb_nt, kb_ni, kb_ns, kb_lt, kb_li, kb_ls, ex_some, seq_tup, seq_tpx, itOf_tpx, seq_lst, seq_fz, list_lst, lsts_lst, lsts_fz, itOf_tup, itOf_lst, itOf_fz, now_int, now_bl, now_non, now_str, now_tup, now_lst, isNon_non, isNon_int, isNon_tup, isNon_ref, isNon_lst, isNon_str, isNon_bl, Int.zero_add]
    exact ⟨⟨by decide, by decide, by decide +kernel⟩, small (by decide), h⟩
  simp only [dSeq, dNext, dRet, dRetN, dIfS, dAsg, dAsgG, dDrop, dPar2, dPar3, dAug, dAugS, dFor, dOp, dVar, dC, dTest, dChain, dAnd, dOr, dNot, dAndV, dOrV, dNotV, dIf, dTup, dLst, dNil, dCons, dStar, dCB, dCall, dFrz, dSl, dNoPart, dPart, dBM, dRev, dNeg, dIsi, dListRg, dTupRg, dRg1, dRg2, dLc, dIt, dEnum, dZip2, dZip3, dEnZ, dRng1, dRng2, dYes, gN, gT, gsNil, gsCons, gSb, oI, oI0, oAdd, oMulA, oSub, oFdiv, oMod, oPow, oLt, oLe, oGt, oGe, oEq, oNe, oIsN, oNotN, oIsB, oNotB, oIx, oSl, oLen, oSum, oAll, oAny, oAbs, o1I, o2I, oMin2, oMax2, oMin, oMax, oMinL, oMaxL, oInt, oBool, oList, oTuple, oSorted, oSortedT, oSortedD, dSortSet, dDNew, dDOne, oDGet, oDIn, oDSet, keyOD, oIn, oAddI, oGet, oSet, oAppend, oExtend, oPop, oPopAt, oIndexL, oIndexT, oInsert, oRemove, dTupX, dBMX, dLenSet, newL, startD, wipeD, D.tyN, List.map_cons, List.map_nil, List.cons_append, List.nil_append, List.length_cons, List.length_nil, List.getElem?_cons_zero, List.getElem?_cons_succ, List.set_cons_zero, List.set_cons_succ, List.replicate, Nat.sub_self, Nat.reduceSub, Nat.reduceAdd, Nat.zero_add, kb_ii, kb_ib, kb_it, kb_is, kb_bi, kb_bb, kb_bt, kb_bs, kb_tt, kb_ti, kb_ts, kb_ss, kb_si, kb_st, kb_nt, kb_ni, kb_ns, kb_lt, kb_li, kb_ls, ex_some, seq_tup, seq_tpx, itOf_tpx, seq_lst, seq_fz, list_lst, lsts_lst, lsts_fz, itOf_tup, itOf_lst, itOf_fz, now_int, now_bl, now_non, now_str, now_tup, now_lst, isNon_non, isNon_int, isNon_tup, isNon_ref, isNon_lst, isNon_str, isNon_bl]
  refine ⟨by decide, ?_⟩
  refine lc_mapE (List.range 6) (fun i => .int (0 + (i : Nat))) (fun (i : Nat) => eG ⟨31 + (i : Int), 37, 100000⟩) (fun _ _ => trivial) (by decide) (fun i hi S' e N M h => ?_) ?_
  · simp only [dSeq, dNext, dRet, dRetN, dIfS, dAsg, dAsgG, dDrop, dPar2, dPar3, dAug, dAugS, dFor, dOp, dVar, dC, dTest, dChain, dAnd, dOr, dNot, dAndV, dOrV, dNotV, dIf, dTup, dLst, dNil, dCons, dStar, dCB, dCall, dFrz, dSl, dNoPart, dPart, dBM, dRev, dNeg, dIsi, dListRg, dTupRg, dRg1, dRg2, dLc, dIt, dEnum, dZip2, dZip3, dEnZ, dRng1, dRng2, dYes, gN, gT, gsNil, gsCons, gSb, oI, oI0, oAdd, oMulA, oSub, oFdiv, oMod, oPow, oLt, oLe, oGt, oGe, oEq, oNe, oIsN, oNotN, oIsB, oNotB, oIx, oSl, oLen, oSum, oAll, oAny, oAbs, o1I, o2I, oMin2, oMax2, oMin, oMax, oMinL, oMaxL, oInt, oBool, oList, oTuple, oSorted, oSortedT, oSortedD, dSortSet, dDNew, dDOne, oDGet, oDIn, oDSet, keyOD, oIn, oAddI, oGet, oSet, oAppend, oExtend, oPop, oPopAt, oIndexL, oIndexT, oInsert, oRemove, dTupX, dBMX, dLenSet, newL, startD, wipeD, D.tyN, List.map_cons, List.map_nil, List.cons_append, List.nil_append, List.length_cons, List.length_nil, List.getElem?_cons_zero, List.getElem?_cons_succ, List.set_cons_zero, List.set_cons_succ, List.replicate, Nat.sub_self, Nat.reduceSub, Nat.reduceAdd, Nat.zero_add, kb_ii, kb_ib, kb_it, kb_is, kb_bi, kb_bb, kb_bt, kb_bs, kb_tt, kb_ti, kb_ts, kb_ss, kb_si, kb_st, kb_nt, kb_ni, kb_ns, kb_lt, kb_li, kb_ls, ex_some, seq_tup, seq_tpx, itOf_tpx, seq_lst, seq_fz, list_lst, lsts_lst, lsts_fz, itOf_tup, itOf_lst, itOf_fz, now_int, now_bl, now_non, now_str, now_tup, now_lst, isNon_non, isNon_int, isNon_tup, isNon_ref, isNon_lst, isNon_str, isNon_bl, Int.zero_add]
    exact ⟨⟨by decide, by decide, by decide +kernel⟩, small (by decide), h⟩
  simp only [dSeq, dNext, dRet, dRetN, dIfS, dAsg, dAsgG, dDrop, dPar2, dPar3, dAug, dAugS, dFor, dOp, dVar, dC, dTest, dChain, dAnd, dOr, dNot, dAndV, dOrV, dNotV, dIf, dTup, dLst, dNil, dCons, dStar, dCB, dCall, dFrz, dSl, dNoPart, dPart, dBM, dRev, dNeg, dIsi, dListRg, dTupRg, dRg1, dRg2, dLc, dIt, dEnum, dZip2, dZip3, dEnZ, dRng1, dRng2, dYes, gN, gT, gsNil, gsCons, gSb, oI, oI0, oAdd, oMulA, oSub, oFdiv, oMod, oPow, oLt, oLe, oGt, oGe, oEq, oNe, oIsN, oNotN, oIsB, oNotB, oIx, oSl, oLen, oSum, oAll, oAny, oAbs, o1I, o2I, oMin2, oMax2, oMin, oMax, oMinL, oMaxL, oInt, oBool, oList, oTuple, oSorted, oSortedT, oSortedD, dSortSet, dDNew, dDOne, oDGet, oDIn, oDSet, keyOD, oIn, oAddI, oGet, oSet, oAppend, oExtend, oPop, oPopAt, oIndexL, oIndexT, oInsert, oRemove, dTupX, dBMX, dLenSet, newL, startD, wipeD, D.tyN, List.map_cons, List.map_nil, List.cons_append, List.nil_append, List.length_cons, List.length_nil, List.getElem?_cons_zero, List.getElem?_cons_succ, List.set_cons_zero, List.set_cons_succ, List.replicate, Nat.sub_self, Nat.reduceSub, Nat.reduceAdd, Nat.zero_add, kb_ii, kb_ib, kb_it, kb_is, kb_bi, kb_bb, kb_bt, kb_bs, kb_tt, kb_ti, kb_ts, kb_ss, kb_si, kb_st, kb_nt, kb_ni, kb_ns, kb_lt, kb_li, kb_ls, ex_some, seq_tup, seq_tpx, itOf_tpx, seq_lst, seq_fz, list_lst, lsts_lst, lsts_fz, itOf_tup, itOf_lst, itOf_fz, now_int, now_bl, now_non, now_str, now_tup, now_lst, isNon_non, isNon_int, isNon_tup, isNon_ref, isNon_lst, isNon_str, isNon_bl]
  refine ⟨small (by decide), fun pg hpg => ?_⟩
  have e0 : List.map (fun (i : Nat) => eG { a := 0, b := 1 + (i : Int), c := 100000 }) (List.range 6) ++ List.map (fun (i : Nat) => eG { a := 31 + (i : Int), b := 37, c := 100000 }) (List.range 6) = (topG ++ botG).map eG := by
    unfold topG botG
    rw [List.map_append, List.map_map, List.map_map]; rfl
  rw [e0]
  have hpp : pg ≠ p := fun z => by subst z; rw [hS1] at hpg; cases hpg
  have hn0 : S0 pg = none := hfr1.none hpp hpg
  have hS2 : (S1.up pg (MO.lst ((topG ++ botG).map eG))) p = some o1 := by rw [Sto.up_ne (Ne.symm hpp)]; exact hS1
  have hg2 : (S1.up pg (MO.lst ((topG ++ botG).map eG))) pg = some (.lst ((topG ++ botG).map eG)) := Sto.up_same
  have hfr2 : Fr p S0 (S1.up pg (MO.lst ((topG ++ botG).map eG))) := hfr1.new hpg
  generalize S1.up pg (MO.lst ((topG ++ botG).map eG)) = S2 at hS2 hg2 hfr2 ⊢
  subst hv2
  refine seqG fun v3 hv3 => ?_
  refine forG fun τ hτ => ?_
  simp only [dSeq, dNext, dRet, dRetN, dIfS, dAsg, dAsgG, dDrop, dPar2, dPar3, dAug, dAugS, dFor, dOp, dVar, dC, dTest, dChain, dAnd, dOr, dNot, dAndV, dOrV, dNotV, dIf, dTup, dLst, dNil, dCons, dStar, dCB, dCall, dFrz, dSl, dNoPart, dPart, dBM, dRev, dNeg, dIsi, dListRg, dTupRg, dRg1, dRg2, dLc, dIt, dEnum, dZip2, dZip3, dEnZ, dRng1, dRng2, dYes, gN, gT, gsNil, gsCons, gSb, oI, oI0, oAdd, oMulA, oSub, oFdiv, oMod, oPow, oLt, oLe, oGt, oGe, oEq, oNe, oIsN, oNotN, oIsB, oNotB, oIx, oSl, oLen, oSum, oAll, oAny, oAbs, o1I, o2I, oMin2, oMax2, oMin, oMax, oMinL, oMaxL, oInt, oBool, oList, oTuple, oSorted, oSortedT, oSortedD, dSortSet, dDNew, dDOne, oDGet, oDIn, oDSet, keyOD, oIn, oAddI, oGet, oSet, oAppend, oExtend, oPop, oPopAt, oIndexL, oIndexT, oInsert, oRemove, dTupX, dBMX, dLenSet, newL, startD, wipeD, D.tyN, List.map_cons, List.map_nil, List.cons_append, List.nil_append, List.length_cons, List.length_nil, List.getElem?_cons_zero, List.getElem?_cons_succ, List.set_cons_zero, List.set_cons_succ, List.replicate, Nat.sub_self, Nat.reduceSub, Nat.reduceAdd, Nat.zero_add, kb_ii, kb_ib, kb_it, kb_is, kb_bi, kb_bb, kb_bt, kb_bs, kb_tt, kb_ti, kb_ts, kb_ss, kb_si, kb_st, kb_nt, kb_ni, kb_ns, kb_lt, kb_li, kb_ls, ex_some, seq_tup, seq_tpx, itOf_tpx, seq_lst, seq_fz, list_lst, lsts_lst, lsts_fz, itOf_tup, itOf_lst, itOf_fz, now_int, now_bl, now_non, now_str, now_tup, now_lst, isNon_non, isNon_int, isNon_tup, isNon_ref, isNon_lst, isNon_str, isNon_bl]
  refine ⟨by decide, trivial, ?_⟩
  refine loopD_invE (α := Nat) (fun i => .int (0 + (i : Nat))) (fun xs ρ S => ∃ o2 o3 o5 o6 o7 ds, ρ = [some (.ref p), some (.lst (rows.map eRw)), o2, o3, some (.ref pg), o5, o6, o7] ∧ ds ++ xs = List.range 6 ∧ S pg = some (.lst ((topG ++ botG ++ ds.flatMap sideG).map eG)) ∧ S p = some o1 ∧ Fr p S0 S) ?_ ?_ _ _ _
    ⟨_, _, _, _, _, [], rfl, rfl, by simpa using hg2, hS2, hfr2⟩ trivial
  · rintro r xs ρ S ⟨o2, o3, o5, o6, o7, ds, rfl, hds, hg, hSp, hfr⟩ _ N hN
    subst hτ
    simp only [gN, List.set_cons_zero, List.set_cons_succ]
    refine forG fun τ2 hτ2 => ?_
    simp only [dSeq, dNext, dRet, dRetN, dIfS, dAsg, dAsgG, dDrop, dPar2, dPar3, dAug, dAugS, dFor, dOp, dVar, dC, dTest, dChain, dAnd, dOr, dNot, dAndV, dOrV, dNotV, dIf, dTup, dLst, dNil, dCons, dStar, dCB, dCall, dFrz, dSl, dNoPart, dPart, dBM, dRev, dNeg, dIsi, dListRg, dTupRg, dRg1, dRg2, dLc, dIt, dEnum, dZip2, dZip3, dEnZ, dRng1, dRng2, dYes, gN, gT, gsNil, gsCons, gSb, oI, oI0, oAdd, oMulA, oSub, oFdiv, oMod, oPow, oLt, oLe, oGt, oGe, oEq, oNe, oIsN, oNotN, oIsB, oNotB, oIx, oSl, oLen, oSum, oAll, oAny, oAbs, o1I, o2I, oMin2, oMax2, oMin, oMax, oMinL, oMaxL, oInt, oBool, oList, oTuple, oSorted, oSortedT, oSortedD, dSortSet, dDNew, dDOne, oDGet, oDIn, oDSet, keyOD, oIn, oAddI, oGet, oSet, oAppend, oExtend, oPop, oPopAt, oIndexL, oIndexT, oInsert, oRemove, dTupX, dBMX, dLenSet, newL, startD, wipeD, D.tyN, List.map_cons, List.map_nil, List.cons_append, List.nil_append, List.length_cons, List.length_nil, List.getElem?_cons_zero, List.getElem?_cons_succ, List.set_cons_zero, List.set_cons_succ, List.replicate, Nat.sub_self, Nat.reduceSub, Nat.reduceAdd, Nat.zero_add, kb_ii, kb_ib, kb_it, kb_is, kb_bi, kb_bb, kb_bt, kb_bs, kb_tt, kb_ti, kb_ts, kb_ss, kb_si, kb_st, kb_nt, kb_ni, kb_ns, kb_lt, kb_li, kb_ls, ex_some, seq_tup, seq_tpx, itOf_tpx, seq_lst, seq_fz, list_lst, lsts_lst, lsts_fz, itOf_tup, itOf_lst, itOf_fz, now_int, now_bl, now_non, now_str, now_tup, now_lst, isNon_non, isNon_int, isNon_tup, isNon_ref, isNon_lst, isNon_str, isNon_bl]
    have hr6 : r < 6 := by
      have : r ∈ List.range 6 := by rw [← hds]; simp
      exact List.mem_range.mp this
    refine ⟨cmul_small (n := 6) (m := 6) (by decide) (by omega) (by decide +kernel) (by decide +kernel), cmul_small (n := 6) (m := 6) (by decide) (by omega) (by decide +kernel) (by decide +kernel), ⟨by omega, by omega, by omega, by omega⟩, trivial, ?_⟩
    rw [show (6 + 6 * (0 + (r : Int)) - (1 + 6 * (0 + (r : Int)))).toNat = 5 by omega]
    refine loopD_invE (α := Nat) (fun k => .int (1 + 6 * (0 + (r : Int)) + (k : Nat))) (fun ys ρ S => ∃ o5 ks, ρ = [some (.ref p), some (.lst (rows.map eRw)), o2, some (.int (0 + (r : Nat))), some (.ref pg), o5, o6, o7] ∧ ks ++ ys = List.range 5 ∧ S pg = some (.lst ((topG ++ botG ++ ds.flatMap sideG ++ ks.flatMap (pairG r)).map eG)) ∧ S p = some o1 ∧ Fr p S0 S) ?_ ?_ _ _ _
      ⟨_, [], rfl, rfl, by simpa using hg, hSp, hfr⟩ trivial
    · rintro k ys ρ S' ⟨o5', ks, rfl, hks, hg', hSp', hfr'⟩ _ N2 hN2
      subst hτ2
      simp only [List.set_cons_zero, List.set_cons_succ]
      simp only [dSeq, dNext, dRet, dRetN, dIfS, dAsg, dAsgG, dDrop, dPar2, dPar3, dAug, dAugS, dFor, dOp, dVar, dC, dTest, dChain, dAnd, dOr, dNot, dAndV, dOrV, dNotV, dIf, dTup, dLst, dNil, dCons, dStar, dCB, dCall, dFrz, dSl, dNoPart, dPart, dBM, dRev, dNeg, dIsi, dListRg, dTupRg, dRg1, dRg2, dLc, dIt, dEnum, dZip2, dZip3, dEnZ, dRng1, dRng2, dYes, gN, gT, gsNil, gsCons, gSb, oI, oI0, oAdd, oMulA, oSub, oFdiv, oMod, oPow, oLt, oLe, oGt, oGe, oEq, oNe, oIsN, oNotN, oIsB, oNotB, oIx, oSl, oLen, oSum, oAll, oAny, oAbs, o1I, o2I, oMin2, oMax2, oMin, oMax, oMinL, oMaxL, oInt, oBool, oList, oTuple, oSorted, oSortedT, oSortedD, dSortSet, dDNew, dDOne, oDGet, oDIn, oDSet, keyOD, oIn, oAddI, oGet, oSet, oAppend, oExtend, oPop, oPopAt, oIndexL, oIndexT, oInsert, oRemove, dTupX, dBMX, dLenSet, newL, startD, wipeD, D.tyN, List.map_cons, List.map_nil, List.cons_append, List.nil_append, List.length_cons, List.length_nil, List.getElem?_cons_zero, List.getElem?_cons_succ, List.set_cons_zero, List.set_cons_succ, List.replicate, Nat.sub_self, Nat.reduceSub, Nat.reduceAdd, Nat.zero_add, kb_ii, kb_ib, kb_it, kb_is, kb_bi, kb_bb, kb_bt, kb_bs, kb_tt, kb_ti, kb_ts, kb_ss, kb_si, kb_st, kb_nt, kb_ni, kb_ns, kb_lt, kb_li, kb_ls, ex_some, seq_tup, seq_tpx, itOf_tpx, seq_lst, seq_fz, list_lst, lsts_lst, lsts_fz, itOf_tup, itOf_lst, itOf_fz, now_int, now_bl, now_non, now_str, now_tup, now_lst, isNon_non, isNon_int, isNon_tup, isNon_ref, isNon_lst, isNon_str, isNon_bl, trk_ref hg', list_ref hg']
      have l1 := len_flat sideG 10 ds (fun _ _ => rfl)
      have l2 := len_flat (pairG r) 2 ks (fun _ _ => rfl)
      have l3 := congrArg List.length hds
      have l4 := congrArg List.length hks
      rw [List.length_append, List.length_range, List.length_cons] at l3 l4
      have l5 : (topG ++ botG).length = 12 := by decide
      refine ⟨⟨_, rfl⟩, ⟨by decide, by decide, by decide +kernel⟩, small (by decide), ⟨by decide, by decide, by decide +kernel⟩, small (by decide), small (by decide), small (by rw [List.length_map, List.length_append, List.length_append, l1, l2, l5]; omega), ?_⟩
      refine hN2 _ _ trivial ⟨_, ks ++ [k], rfl, by rw [← hks]; simp, ?_, by rw [Sto.up_ne (Ne.symm hpp)]; exact hSp', hfr'.old hn0⟩
      rw [Sto.up_same, List.flatMap_append, List.flatMap_cons, List.flatMap_nil, List.append_nil, ← List.append_assoc, List.map_append (l₂ := pairG r k)]
      have e1 : 1 + 6 * (0 + (r : Int)) = 1 + 6 * (r : Int) := by omega
      rw [e1]
      rfl
    · rintro ρ S' ⟨o5', ks, rfl, hks, hg', hSp', hfr'⟩
      rw [List.append_nil] at hks
      subst hks
      refine hN _ _ trivial ⟨_, _, _, _, _, ds ++ [r], rfl, by rw [← hds]; simp, ?_, hSp', hfr'⟩
      rw [hg', List.flatMap_append, List.flatMap_cons, List.flatMap_nil, List.append_nil, ← List.append_assoc]
      rfl
  rintro ρ S ⟨o2, o3, o5, o6, o7, ds, rfl, hds, hg, hSp, hfr⟩
  rw [List.append_nil] at hds
  subst hds
  show v3 _ _ _
  subst hv3
  refine seqG fun v4 hv4 => ?_
  refine forG fun τ hτ => ?_
  simp only [dSeq, dNext, dRet, dRetN, dIfS, dAsg, dAsgG, dDrop, dPar2, dPar3, dAug, dAugS, dFor, dOp, dVar, dC, dTest, dChain, dAnd, dOr, dNot, dAndV, dOrV, dNotV, dIf, dTup, dLst, dNil, dCons, dStar, dCB, dCall, dFrz, dSl, dNoPart, dPart, dBM, dRev, dNeg, dIsi, dListRg, dTupRg, dRg1, dRg2, dLc, dIt, dEnum, dZip2, dZip3, dEnZ, dRng1, dRng2, dYes, gN, gT, gsNil, gsCons, gSb, oI, oI0, oAdd, oMulA, oSub, oFdiv, oMod, oPow, oLt, oLe, oGt, oGe, oEq, oNe, oIsN, oNotN, oIsB, oNotB, oIx, oSl, oLen, oSum, oAll, oAny, oAbs, o1I, o2I, oMin2, oMax2, oMin, oMax, oMinL, oMaxL, oInt, oBool, oList, oTuple, oSorted, oSortedT, oSortedD, dSortSet, dDNew, dDOne, oDGet, oDIn, oDSet, keyOD, oIn, oAddI, oGet, oSet, oAppend, oExtend, oPop, oPopAt, oIndexL, oIndexT, oInsert, oRemove, dTupX, dBMX, dLenSet, newL, startD, wipeD, D.tyN, List.map_cons, List.map_nil, List.cons_append, List.nil_append, List.length_cons, List.length_nil, List.getElem?_cons_zero, List.getElem?_cons_succ, List.set_cons_zero, List.set_cons_succ, List.replicate, Nat.sub_self, Nat.reduceSub, Nat.reduceAdd, Nat.zero_add, kb_ii, kb_ib, kb_it, kb_is, kb_bi, kb_bb, kb_bt, kb_bs, kb_tt, kb_ti, kb_ts, kb_ss, kb_si, kb_st, kb_nt, kb_ni, kb_ns, kb_lt, kb_li, kb_ls, ex_some, seq_tup, seq_tpx, itOf_tpx, seq_lst, seq_fz, list_lst, lsts_lst, lsts_fz, itOf_tup, itOf_lst, itOf_fz, now_int, now_bl, now_non, now_str, now_tup, now_lst, isNon_non, isNon_int, isNon_tup, isNon_ref, isNon_lst, isNon_str, isNon_bl]
  refine ⟨trivial, ?_⟩
  rw [enum_map]
  refine loopD_invE (α := List Int × Nat) (fun z => D.tup [.int ((z.2 : Nat) : Int), eRw z.1]) (fun xs ρ S => ∃ o2 o3 o5 o6 o7 ds, ρ = [some (.ref p), some (.lst (rows.map eRw)), o2, o3, some (.ref pg), o5, o6, o7] ∧ ds ++ xs = rows.zipIdx 0 ∧ S pg = some (.lst ((topG ++ botG ++ (List.range 6).flatMap sideG ++ ds.flatMap rowG).map eG)) ∧ S p = some o1 ∧ Fr p S0 S) ?_ ?_ _ _ _
    ⟨_, _, _, _, _, [], rfl, rfl, by simpa using hg, hSp, hfr⟩ trivial
  · rintro q xs ρ S ⟨o2, o3, o5, o6, o7, ds, rfl, hds, hg, hSp, hfr⟩ _ N hN
    subst hτ
    refine ⟨rfl, ?_⟩
    simp only [List.set_cons_zero, List.set_cons_succ]
    simp only [dSeq, dNext, dRet, dRetN, dIfS, dAsg, dAsgG, dDrop, dPar2, dPar3, dAug, dAugS, dFor, dOp, dVar, dC, dTest, dChain, dAnd, dOr, dNot, dAndV, dOrV, dNotV, dIf, dTup, dLst, dNil, dCons, dStar, dCB, dCall, dFrz, dSl, dNoPart, dPart, dBM, dRev, dNeg, dIsi, dListRg, dTupRg, dRg1, dRg2, dLc, dIt, dEnum, dZip2, dZip3, dEnZ, dRng1, dRng2, dYes, gN, gT, gsNil, gsCons, gSb, oI, oI0, oAdd, oMulA, oSub, oFdiv, oMod, oPow, oLt, oLe, oGt, oGe, oEq, oNe, oIsN, oNotN, oIsB, oNotB, oIx, oSl, oLen, oSum, oAll, oAny, oAbs, o1I, o2I, oMin2, oMax2, oMin, oMax, oMinL, oMaxL, oInt, oBool, oList, oTuple, oSorted, oSortedT, oSortedD, dSortSet, dDNew, dDOne, oDGet, oDIn, oDSet, keyOD, oIn, oAddI, oGet, oSet, oAppend, oExtend, oPop, oPopAt, oIndexL, oIndexT, oInsert, oRemove, dTupX, dBMX, dLenSet, newL, startD, wipeD, D.tyN, List.map_cons, List.map_nil, List.cons_append, List.nil_append, List.length_cons, List.length_nil, List.getElem?_cons_zero, List.getElem?_cons_succ, List.set_cons_zero, List.set_cons_succ, List.replicate, Nat.sub_self, Nat.reduceSub, Nat.reduceAdd, Nat.zero_add, kb_ii, kb_ib, kb_it, kb_is, kb_bi, kb_bb, kb_bt, kb_bs, kb_tt, kb_ti, kb_ts, kb_ss, kb_si, kb_st, kb_nt, kb_ni, kb_ns, kb_lt, kb_li, kb_ls, ex_some, seq_tup, seq_tpx, itOf_tpx, seq_lst, seq_fz, list_lst, lsts_lst, lsts_fz, itOf_tup, itOf_lst, itOf_fz, now_int, now_bl, now_non, now_str, now_tup, now_lst, isNon_non, isNon_int, isNon_tup, isNon_ref, isNon_lst, isNon_str, isNon_bl, trk_ref hg, list_ref hg, eRw]
    refine ⟨⟨_, rfl⟩, ?_⟩
    have hq : q ∈ rows.zipIdx := by rw [← hds]; simp
    have hq5 : q.2 < 5 := by
      have h1 := (List.mem_zipIdx_iff_getElem? (x := q)).mp hq
      obtain ⟨l1, _⟩ := List.getElem?_eq_some_iff.mp h1
      rw [fr.n] at l1
      exact l1
    have hq6 : q.1.length = 6 := fr.m _ (List.mem_of_getElem? ((List.mem_zipIdx_iff_getElem? (x := q)).mp hq))
    have cm : CMul' 6 (q.2 : Int) := cmul_small (n := 6) (m := 6) (by decide) (by omega) (by decide +kernel) (by decide +kernel)
    rw [enum_map]
    refine lc_mapE (q.1.zipIdx 0) (fun z => D.tup [.int ((z.2 : Nat) : Int), .int z.1]) (fun z => eG ⟨1 + 6 * (q.2 : Int) + (z.2 : Int), 7 + 6 * (q.2 : Int) + (z.2 : Int), z.1⟩) (fun _ _ => trivial) (small (by rw [List.length_zipIdx]; omega)) (fun z hz S' e N M h => ?_) ?_
    · refine ⟨rfl, ?_⟩
      simp only [dSeq, dNext, dRet, dRetN, dIfS, dAsg, dAsgG, dDrop, dPar2, dPar3, dAug, dAugS, dFor, dOp, dVar, dC, dTest, dChain, dAnd, dOr, dNot, dAndV, dOrV, dNotV, dIf, dTup, dLst, dNil, dCons, dStar, dCB, dCall, dFrz, dSl, dNoPart, dPart, dBM, dRev, dNeg, dIsi, dListRg, dTupRg, dRg1, dRg2, dLc, dIt, dEnum, dZip2, dZip3, dEnZ, dRng1, dRng2, dYes, gN, gT, gsNil, gsCons, gSb, oI, oI0, oAdd, oMulA, oSub, oFdiv, oMod, oPow, oLt, oLe, oGt, oGe, oEq, oNe, oIsN, oNotN, oIsB, oNotB, oIx, oSl, oLen, oSum, oAll, oAny, oAbs, o1I, o2I, oMin2, oMax2, oMin, oMax, oMinL, oMaxL, oInt, oBool, oList, oTuple, oSorted, oSortedT, oSortedD, dSortSet, dDNew, dDOne, oDGet, oDIn, oDSet, keyOD, oIn, oAddI, oGet, oSet, oAppend, oExtend, oPop, oPopAt, oIndexL, oIndexT, oInsert, oRemove, dTupX, dBMX, dLenSet, newL, startD, wipeD, D.tyN, List.map_cons, List.map_nil, List.cons_append, List.nil_append, List.length_cons, List.length_nil, List.getElem?_cons_zero, List.getElem?_cons_succ, List.set_cons_zero, List.set_cons_succ, List.replicate, Nat.sub_self, Nat.reduceSub, Nat.reduceAdd, Nat.zero_add, kb_ii, kb_ib, kb_it, kb_is, kb_bi, kb_bb, kb_bt, kb_bs, kb_tt, kb_ti, kb_ts, kb_ss, kb_si, kb_st, kb_nt, kb_ni, kb_ns, kb_lt, kb_li, kb_ls, ex_some, seq_tup, seq_tpx, itOf_tpx, seq_lst, seq_fz, list_lst, lsts_lst, lsts_fz, itOf_tup, itOf_lst, itOf_fz, now_int, now_bl, now_non, now_str, now_tup, now_lst, isNon_non, isNon_int, isNon_tup, isNon_ref, isNon_lst, isNon_str, isNon_bl]
      exact ⟨cm, cm, small (by decide), h⟩
    simp only [dSeq, dNext, dRet, dRetN, dIfS, dAsg, dAsgG, dDrop, dPar2, dPar3, dAug, dAugS, dFor, dOp, dVar, dC, dTest, dChain, dAnd, dOr, dNot, dAndV, dOrV, dNotV, dIf, dTup, dLst, dNil, dCons, dStar, dCB, dCall, dFrz, dSl, dNoPart, dPart, dBM, dRev, dNeg, dIsi, dListRg, dTupRg, dRg1, dRg2, dLc, dIt, dEnum, dZip2, dZip3, dEnZ, dRng1, dRng2, dYes, gN, gT, gsNil, gsCons, gSb, oI, oI0, oAdd, oMulA, oSub, oFdiv, oMod, oPow, oLt, oLe, oGt, oGe, oEq, oNe, oIsN, oNotN, oIsB, oNotB, oIx, oSl, oLen, oSum, oAll, oAny, oAbs, o1I, o2I, oMin2, oMax2, oMin, oMax, oMinL, oMaxL, oInt, oBool, oList, oTuple, oSorted, oSortedT, oSortedD, dSortSet, dDNew, dDOne, oDGet, oDIn, oDSet, keyOD, oIn, oAddI, oGet, oSet, oAppend, oExtend, oPop, oPopAt, oIndexL, oIndexT, oInsert, oRemove, dTupX, dBMX, dLenSet, newL, startD, wipeD, D.tyN, List.map_cons, List.map_nil, List.cons_append, List.nil_append, List.length_cons, List.length_nil, List.getElem?_cons_zero, List.getElem?_cons_succ, List.set_cons_zero, List.set_cons_succ, List.replicate, Nat.sub_self, Nat.reduceSub, Nat.reduceAdd, Nat.zero_add, kb_ii, kb_ib, kb_it, kb_is, kb_bi, kb_bb, kb_bt, kb_bs, kb_tt, kb_ti, kb_ts, kb_ss, kb_si, kb_st, kb_nt, kb_ni, kb_ns, kb_lt, kb_li, kb_ls, ex_some, seq_tup, seq_tpx, itOf_tpx, seq_lst, seq_fz, list_lst, lsts_lst, lsts_fz, itOf_tup, itOf_lst, itOf_fz, now_int, now_bl, now_non, now_str, now_tup, now_lst, isNon_non, isNon_int, isNon_tup, isNon_ref, isNon_lst, isNon_str, isNon_bl, trk_ref hg]
    have l1 := len_flat rowG 6 ds (fun y hy => by
      have hy' : y ∈ rows.zipIdx := by rw [← hds]; exact List.mem_append_left _ hy
      unfold rowG
      rw [List.length_map, List.length_zipIdx]
      exact fr.m _ (List.mem_of_getElem? ((List.mem_zipIdx_iff_getElem? (x := y)).mp hy')))
    have l3 := congrArg List.length hds
    rw [List.length_append, List.length_zipIdx, fr.n, List.length_cons] at l3
    have l5 : (topG ++ botG ++ (List.range 6).flatMap sideG).length = 72 := by decide
    refine ⟨small (by rw [List.length_map, List.length_append, l1, l5, List.length_map, List.length_zipIdx]; omega), ?_⟩
    refine hN _ _ trivial ⟨_, _, _, _, _, ds ++ [q], rfl, by rw [← hds]; simp, ?_, by rw [Sto.up_ne (Ne.symm hpp)]; exact hSp, hfr.old hn0⟩
    rw [Sto.up_same, List.flatMap_append, List.flatMap_cons, List.flatMap_nil, List.append_nil, ← List.append_assoc, List.map_append (l₂ := rowG q)]
    unfold rowG
    rw [List.map_map]
    rfl
  rintro ρ S ⟨o2, o3, o5, o6, o7, ds, rfl, hds, hg, hSp, hfr⟩
  rw [List.append_nil] at hds
  subst hds
  show v4 _ _ _
  subst hv4
  simp only [dSeq, dNext, dRet, dRetN, dIfS, dAsg, dAsgG, dDrop, dPar2, dPar3, dAug, dAugS, dFor, dOp, dVar, dC, dTest, dChain, dAnd, dOr, dNot, dAndV, dOrV, dNotV, dIf, dTup, dLst, dNil, dCons, dStar, dCB, dCall, dFrz, dSl, dNoPart, dPart, dBM, dRev, dNeg, dIsi, dListRg, dTupRg, dRg1, dRg2, dLc, dIt, dEnum, dZip2, dZip3, dEnZ, dRng1, dRng2, dYes, gN, gT, gsNil, gsCons, gSb, oI, oI0, oAdd, oMulA, oSub, oFdiv, oMod, oPow, oLt, oLe, oGt, oGe, oEq, oNe, oIsN, oNotN, oIsB, oNotB, oIx, oSl, oLen, oSum, oAll, oAny, oAbs, o1I, o2I, oMin2, oMax2, oMin, oMax, oMinL, oMaxL, oInt, oBool, oList, oTuple, oSorted, oSortedT, oSortedD, dSortSet, dDNew, dDOne, oDGet, oDIn, oDSet, keyOD, oIn, oAddI, oGet, oSet, oAppend, oExtend, oPop, oPopAt, oIndexL, oIndexT, oInsert, oRemove, dTupX, dBMX, dLenSet, newL, startD, wipeD, D.tyN, List.map_cons, List.map_nil, List.cons_append, List.nil_append, List.length_cons, List.length_nil, List.getElem?_cons_zero, List.getElem?_cons_succ, List.set_cons_zero, List.set_cons_succ, List.replicate, Nat.sub_self, Nat.reduceSub, Nat.reduceAdd, Nat.zero_add, kb_ii, kb_ib, kb_it, kb_is, kb_bi, kb_bb, kb_bt, kb_bs, kb_tt, kb_ti, kb_ts, kb_ss, kb_si, kb_st, kb_nt, kb_ni, kb_ns, kb_lt, kb_li, kb_ls, ex_some, seq_tup, seq_tpx, itOf_tpx, seq_lst, seq_fz, list_lst, lsts_lst, lsts_fz, itOf_tup, itOf_lst, itOf_fz, now_int, now_bl, now_non, now_str, now_tup, now_lst, isNon_non, isNon_int, isNon_tup, isNon_ref, isNon_lst, isNon_str, isNon_bl, seq_ref hg]
  refine lc_mapE rows eRw (fun ms => .int ms.sum) (fun _ _ => trivial) (small (by rw [fr.n]; omega)) (fun ms hms S' e N M h => ?_) ?_
  · simp only [dSeq, dNext, dRet, dRetN, dIfS, dAsg, dAsgG, dDrop, dPar2, dPar3, dAug, dAugS, dFor, dOp, dVar, dC, dTest, dChain, dAnd, dOr, dNot, dAndV, dOrV, dNotV, dIf, dTup, dLst, dNil, dCons, dStar, dCB, dCall, dFrz, dSl, dNoPart, dPart, dBM, dRev, dNeg, dIsi, dListRg, dTupRg, dRg1, dRg2, dLc, dIt, dEnum, dZip2, dZip3, dEnZ, dRng1, dRng2, dYes, gN, gT, gsNil, gsCons, gSb, oI, oI0, oAdd, oMulA, oSub, oFdiv, oMod, oPow, oLt, oLe, oGt, oGe, oEq, oNe, oIsN, oNotN, oIsB, oNotB, oIx, oSl, oLen, oSum, oAll, oAny, oAbs, o1I, o2I, oMin2, oMax2, oMin, oMax, oMinL, oMaxL, oInt, oBool, oList, oTuple, oSorted, oSortedT, oSortedD, dSortSet, dDNew, dDOne, oDGet, oDIn, oDSet, keyOD, oIn, oAddI, oGet, oSet, oAppend, oExtend, oPop, oPopAt, oIndexL, oIndexT, oInsert, oRemove, dTupX, dBMX, dLenSet, newL, startD, wipeD, D.tyN, List.map_cons, List.map_nil, List.cons_append, List.nil_append, List.length_cons, List.length_nil, List.getElem?_cons_zero, List.getElem?_cons_succ, List.set_cons_zero, List.set_cons_succ, List.replicate, Nat.sub_self, Nat.reduceSub, Nat.reduceAdd, Nat.zero_add, kb_ii, kb_ib, kb_it, kb_is, kb_bi, kb_bb, kb_bt, kb_bs, kb_tt, kb_ti, kb_ts, kb_ss, kb_si, kb_st, kb_nt, kb_ni, kb_ns, kb_lt, kb_li, kb_ls, ex_some, seq_tup, seq_tpx, itOf_tpx, seq_lst, seq_fz, list_lst, lsts_lst, lsts_fz, itOf_tup, itOf_lst, itOf_fz, now_int, now_bl, now_non, now_str, now_tup, now_lst, isNon_non, isNon_int, isNon_tup, isNon_ref, isNon_lst, isNon_str, isNon_bl, eRw]
    exact ⟨ms, rfl, h⟩
  simp only [dSeq, dNext, dRet, dRetN, dIfS, dAsg, dAsgG, dDrop, dPar2, dPar3, dAug, dAugS, dFor, dOp, dVar, dC, dTest, dChain, dAnd, dOr, dNot, dAndV, dOrV, dNotV, dIf, dTup, dLst, dNil, dCons, dStar, dCB, dCall, dFrz, dSl, dNoPart, dPart, dBM, dRev, dNeg, dIsi, dListRg, dTupRg, dRg1, dRg2, dLc, dIt, dEnum, dZip2, dZip3, dEnZ, dRng1, dRng2, dYes, gN, gT, gsNil, gsCons, gSb, oI, oI0, oAdd, oMulA, oSub, oFdiv, oMod, oPow, oLt, oLe, oGt, oGe, oEq, oNe, oIsN, oNotN, oIsB, oNotB, oIx, oSl, oLen, oSum, oAll, oAny, oAbs, o1I, o2I, oMin2, oMax2, oMin, oMax, oMinL, oMaxL, oInt, oBool, oList, oTuple, oSorted, oSortedT, oSortedD, dSortSet, dDNew, dDOne, oDGet, oDIn, oDSet, keyOD, oIn, oAddI, oGet, oSet, oAppend, oExtend, oPop, oPopAt, oIndexL, oIndexT, oInsert, oRemove, dTupX, dBMX, dLenSet, newL, startD, wipeD, D.tyN, List.map_cons, List.map_nil, List.cons_append, List.nil_append, List.length_cons, List.length_nil, List.getElem?_cons_zero, List.getElem?_cons_succ, List.set_cons_zero, List.set_cons_succ, List.replicate, Nat.sub_self, Nat.reduceSub, Nat.reduceAdd, Nat.zero_add, kb_ii, kb_ib, kb_it, kb_is, kb_bi, kb_bb, kb_bt, kb_bs, kb_tt, kb_ti, kb_ts, kb_ss, kb_si, kb_st, kb_nt, kb_ni, kb_ns, kb_lt, kb_li, kb_ls, ex_some, seq_tup, seq_tpx, itOf_tpx, seq_lst, seq_fz, list_lst, lsts_lst, lsts_fz, itOf_tup, itOf_lst, itOf_fz, now_int, now_bl, now_non, now_str, now_tup, now_lst, isNon_non, isNon_int, isNon_tup, isNon_ref, isNon_lst, isNon_str, isNon_bl]
  have e9 : rows.map (fun ms => D.int ms.sum) = (rows.map List.sum).map D.int := by rw [List.map_map]; rfl
  rw [e9]
  refine ⟨⟨fun z => ?_, okn_ints, akin_ints⟩, fun mD hm1 hm2 => ⟨small (by decide), ?_⟩⟩
  · have := congrArg List.length z
    rw [List.length_map, List.length_map, fr.n] at this
    cases this
  obtain ⟨v, hv, rfl⟩ := List.mem_map.mp hm1
  obtain ⟨ms, hms, rfl⟩ := List.mem_map.mp hv
  have hle : ∀ x ∈ rows, ms.sum ≤ x.sum := fun x hx => by
    have := hm2 (.int x.sum) (List.mem_map_of_mem (List.mem_map_of_mem hx))
    rw [ltD_int] at this
    have := of_decide_eq_false this
    omega
  refine FzQ.ext (S := S0.up p o1) (fun a u h => ?_) (q rows _ o1 fr (field_min fr ⟨ms, hms, rfl⟩ hle) hp1)
  by_cases e : a = p
  · subst e; rw [Sto.up_same] at h; rw [hSp]; exact h
  · rw [Sto.up_ne e] at h; exact hfr a u e h
end L47
namespace L47
open PySem PySem.Spec PySem.W PyProof.Rows L2 PL
theorem go_round {a s R : Int} (ha : 0 ≤ a ∧ a < R) (hs : 0 ≤ s ∧ s < R - 1) : 0 ≤ (a + (1 + s)) % R ∧ (a + (1 + s)) % R < R ∧ a ≠ (a + (1 + s)) % R := by
  refine ⟨Int.emod_nonneg _ (by omega), Int.emod_lt_of_pos _ (by omega), ?_⟩
  by_cases h : a + (1 + s) < R
  · rw [Int.emod_eq_of_lt (by omega) h]; omega
  · rw [← Int.sub_emod_right, Int.emod_eq_of_lt (by omega) (by omega)]; omega
def sp__law_right : DSp := fun ds S Q => ∃ (p : Addr) (o : MO), ds = [.ref p] ∧ S p = some o ∧ PotO 0 o ∧ ∀ o', Q (.bl true) (S.up p o')
theorem pure__law_right : ∀ ds S Q, sp__law_right ds S Q → t__law_right sp__law_take sp__law_are_gates_right sp__law_field sp_how_many_through (DeN Q) (startD N__law_right ds) S := by
  rintro ds S0 Q ⟨p, o0, rfl, hS0, hp0, q⟩
  unfold t__law_right
  refine seqG fun v hv => ?_
  refine forG fun τ hτ => ?_
  simp only [dSeq, dNext, dRet, dRetN, dIfS, dAsg, dAsgG, dDrop, dPar2, dPar3, dAug, dAugS, dFor, dOp, dVar, dC, dTest, dChain, dAnd, dOr, dNot, dAndV, dOrV, dNotV, dIf, dTup, dLst, dNil, dCons, dStar, dCB, dCall, dFrz, dSl, dNoPart, dPart, dBM, dRev, dNeg, dIsi, dListRg, dTupRg, dRg1, dRg2, dLc, dIt, dEnum, dZip2, dZip3, dEnZ, dRng1, dRng2, dYes, gN, gT, gsNil, gsCons, gSb, oI, oI0, oAdd, oMulA, oSub, oFdiv, oMod, oPow, oLt, oLe, oGt, oGe, oEq, oNe, oIsN, oNotN, oIsB, oNotB, oIx, oSl, oLen, oSum, oAll, oAny, oAbs, o1I, o2I, oMin2, oMax2, oMin, oMax, oMinL, oMaxL, oInt, oBool, oList, oTuple, oSorted, oSortedT, oSortedD, dSortSet, dDNew, dDOne, oDGet, oDIn, oDSet, keyOD, oIn, oAddI, oGet, oSet, oAppend, oExtend, oPop, oPopAt, oIndexL, oIndexT, oInsert, oRemove, dTupX, dBMX, dLenSet, newL, startD, wipeD, D.tyN, List.map_cons, List.map_nil, List.cons_append, List.nil_append, List.length_cons, List.length_nil, List.getElem?_cons_zero, List.getElem?_cons_succ, List.set_cons_zero, List.set_cons_succ, List.replicate, Nat.sub_self, Nat.reduceSub, Nat.reduceAdd, Nat.zero_add, kb_ii, kb_ib, kb_it, kb_is, kb_bi, kb_bb, kb_bt, kb_bs, kb_tt, kb_ti, kb_ts, kb_ss, kb_si, kb_st, kb_nt, kb_ni, kb_ns, kb_lt, kb_li, kb_ls, ex_some, seq_tup, seq_tpx, itOf_tpx, seq_lst, seq_fz, list_lst, lsts_lst, lsts_fz, itOf_tup, itOf_lst, itOf_fz, now_int, now_bl, now_non, now_str, now_tup, now_lst, isNon_non, isNon_int, isNon_tup, isNon_ref, isNon_lst, isNon_str, isNon_bl]
  refine ⟨by decide, trivial, ?_⟩
  refine loopD_invE (α := Nat) (fun i => .int (0 + (i : Int))) (fun xs ρ S => ∃ o1 o2 o3 o4 o5 o6 o, ρ = [some (.ref p), o1, o2, o3, o4, o5, o6, none] ∧ S p = some o ∧ PotO (100 * (6 - xs.length)) o ∧ Fr p S0 S ∧ xs.length ≤ 6) ?_ ?_ _ _ _
    ⟨none, none, none, none, none, none, o0, rfl, hS0, hp0.mono (Nat.zero_le _), Fr.refl, Nat.le_refl _⟩ trivial
  · rintro x xs ρ S ⟨o1, o2, o3, o4, o5, o6, o, rfl, hS, hp, hfr, hxl⟩ _ N hN
    rw [List.length_cons] at hp hxl
    generalize hb : 100 * (6 - (xs.length + 1)) = b at hp
    have hb2 : b ≤ 2000 := by omega
    subst hτ
    simp only [gN, List.set_cons_zero, List.set_cons_succ]
    refine seqG fun v1 hv1 => ?_
    simp only [dSeq, dNext, dRet, dRetN, dIfS, dAsg, dAsgG, dDrop, dPar2, dPar3, dAug, dAugS, dFor, dOp, dVar, dC, dTest, dChain, dAnd, dOr, dNot, dAndV, dOrV, dNotV, dIf, dTup, dLst, dNil, dCons, dStar, dCB, dCall, dFrz, dSl, dNoPart, dPart, dBM, dRev, dNeg, dIsi, dListRg, dTupRg, dRg1, dRg2, dLc, dIt, dEnum, dZip2, dZip3, dEnZ, dRng1, dRng2, dYes, gN, gT, gsNil, gsCons, gSb, oI, oI0, oAdd, oMulA, oSub, oFdiv, oMod, oPow, oLt, oLe, oGt, oGe, oEq, oNe, oIsN, oNotN, oIsB, oNotB, oIx, oSl, oLen, oSum, oAll, oAny, oAbs, o1I, o2I, oMin2, oMax2, oMin, oMax, oMinL, oMaxL, oInt, oBool, oList, oTuple, oSorted, oSortedT, oSortedD, dSortSet, dDNew, dDOne, oDGet, oDIn, oDSet, keyOD, oIn, oAddI, oGet, oSet, oAppend, oExtend, oPop, oPopAt, oIndexL, oIndexT, oInsert, oRemove, dTupX, dBMX, dLenSet, newL, startD, wipeD, D.tyN, List.map_cons, List.map_nil, List.cons_append, List.nil_append, List.length_cons, List.length_nil, List.getElem?_cons_zero, List.getElem?_cons_succ, List.set_cons_zero, List.set_cons_succ, List.replicate, Nat.sub_self, Nat.reduceSub, Nat.reduceAdd, Nat.zero_add, kb_ii, kb_ib, kb_it, kb_is, kb_bi, kb_bb, kb_bt, kb_bs, kb_tt, kb_ti, kb_ts, kb_ss, kb_si, kb_st, kb_nt, kb_ni, kb_ns, kb_lt, kb_li, kb_ls, ex_some, seq_tup, seq_tpx, itOf_tpx, seq_lst, seq_fz, list_lst, lsts_lst, lsts_fz, itOf_tup, itOf_lst, itOf_fz, now_int, now_bl, now_non, now_str, now_tup, now_lst, isNon_non, isNon_int, isNon_tup, isNon_ref, isNon_lst, isNon_str, isNon_bl]
    refine ⟨p, 10, b, o, rfl, by decide, by decide, hS, hp, by omega, fun k1 oa k10 k11 hpa => ?_⟩
    simp only [dSeq, dNext, dRet, dRetN, dIfS, dAsg, dAsgG, dDrop, dPar2, dPar3, dAug, dAugS, dFor, dOp, dVar, dC, dTest, dChain, dAnd, dOr, dNot, dAndV, dOrV, dNotV, dIf, dTup, dLst, dNil, dCons, dStar, dCB, dCall, dFrz, dSl, dNoPart, dPart, dBM, dRev, dNeg, dIsi, dListRg, dTupRg, dRg1, dRg2, dLc, dIt, dEnum, dZip2, dZip3, dEnZ, dRng1, dRng2, dYes, gN, gT, gsNil, gsCons, gSb, oI, oI0, oAdd, oMulA, oSub, oFdiv, oMod, oPow, oLt, oLe, oGt, oGe, oEq, oNe, oIsN, oNotN, oIsB, oNotB, oIx, oSl, oLen, oSum, oAll, oAny, oAbs, o1I, o2I, oMin2, oMax2, oMin, oMax, oMinL, oMaxL, oInt, oBool, oList, oTuple, oSorted, oSortedT, oSortedD, dSortSet, dDNew, dDOne, oDGet, oDIn, oDSet, keyOD, oIn, oAddI, oGet, oSet, oAppend, oExtend, oPop, oPopAt, oIndexL, oIndexT, oInsert, oRemove, dTupX, dBMX, dLenSet, newL, startD, wipeD, D.tyN, List.map_cons, List.map_nil, List.cons_append, List.nil_append, List.length_cons, List.length_nil, List.getElem?_cons_zero, List.getElem?_cons_succ, List.set_cons_zero, List.set_cons_succ, List.replicate, Nat.sub_self, Nat.reduceSub, Nat.reduceAdd, Nat.zero_add, kb_ii, kb_ib, kb_it, kb_is, kb_bi, kb_bb, kb_bt, kb_bs, kb_tt, kb_ti, kb_ts, kb_ss, kb_si, kb_st, kb_nt, kb_ni, kb_ns, kb_lt, kb_li, kb_ls, ex_some, seq_tup, seq_tpx, itOf_tpx, seq_lst, seq_fz, list_lst, lsts_lst, lsts_fz, itOf_tup, itOf_lst, itOf_fz, now_int, now_bl, now_non, now_str, now_tup, now_lst, isNon_non, isNon_int, isNon_tup, isNon_ref, isNon_lst, isNon_str, isNon_bl]
    refine ⟨Nat.zero_le _, fun pw hpw => ?_⟩
    have hpwp : pw ≠ p := fun z => by subst z; rw [Sto.up_same] at hpw; cases hpw
    have hfr' : Fr p S0 (S.up p oa) := hfr.own
    have hn0 : S0 pw = none := hfr'.none hpwp hpw
    have hSa : ((S.up p oa).up pw (MO.lst [])) p = some oa := by rw [Sto.up_ne (Ne.symm hpwp)]; exact Sto.up_same
    have hfa : Fr p S0 ((S.up p oa).up pw (MO.lst [])) := hfr'.new hpw
    have hwa : ((S.up p oa).up pw (MO.lst [])) pw = some (.lst (([] : List Gate).map eG)) := Sto.up_same
    generalize (S.up p oa).up pw (MO.lst []) = Sa at hSa hfa hwa ⊢
    obtain ⟨R, hR⟩ : ∃ R : Int, 2 + k1 = R := ⟨_, rfl⟩
    rw [hR]
    have hR2 : 2 ≤ R ∧ R ≤ 11 := by omega
    subst hv1
    refine seqG fun v2 hv2 => ?_
    refine forG fun τ2 hτ2 => ?_
    simp only [dSeq, dNext, dRet, dRetN, dIfS, dAsg, dAsgG, dDrop, dPar2, dPar3, dAug, dAugS, dFor, dOp, dVar, dC, dTest, dChain, dAnd, dOr, dNot, dAndV, dOrV, dNotV, dIf, dTup, dLst, dNil, dCons, dStar, dCB, dCall, dFrz, dSl, dNoPart, dPart, dBM, dRev, dNeg, dIsi, dListRg, dTupRg, dRg1, dRg2, dLc, dIt, dEnum, dZip2, dZip3, dEnZ, dRng1, dRng2, dYes, gN, gT, gsNil, gsCons, gSb, oI, oI0, oAdd, oMulA, oSub, oFdiv, oMod, oPow, oLt, oLe, oGt, oGe, oEq, oNe, oIsN, oNotN, oIsB, oNotB, oIx, oSl, oLen, oSum, oAll, oAny, oAbs, o1I, o2I, oMin2, oMax2, oMin, oMax, oMinL, oMaxL, oInt, oBool, oList, oTuple, oSorted, oSortedT, oSortedD, dSortSet, dDNew, dDOne, oDGet, oDIn, oDSet, keyOD, oIn, oAddI, oGet, oSet, oAppend, oExtend, oPop, oPopAt, oIndexL, oIndexT, oInsert, oRemove, dTupX, dBMX, dLenSet, newL, startD, wipeD, D.tyN, List.map_cons, List.map_nil, List.cons_append, List.nil_append, List.length_cons, List.length_nil, List.getElem?_cons_zero, List.getElem?_cons_succ, List.set_cons_zero, List.set_cons_succ, List.replicate, Nat.sub_self, Nat.reduceSub, Nat.reduceAdd, Nat.zero_add, kb_ii, kb_ib, kb_it, kb_is, kb_bi, kb_bb, kb_bt, kb_bs, kb_tt, kb_ti, kb_ts, kb_ss, kb_si, kb_st, kb_nt, kb_ni, kb_ns, kb_lt, kb_li, kb_ls, ex_some, seq_tup, seq_tpx, itOf_tpx, seq_lst, seq_fz, list_lst, lsts_lst, lsts_fz, itOf_tup, itOf_lst, itOf_fz, now_int, now_bl, now_non, now_str, now_tup, now_lst, isNon_non, isNon_int, isNon_tup, isNon_ref, isNon_lst, isNon_str, isNon_bl]
    refine ⟨p, 20, b + 1, oa, rfl, by decide, by decide, hSa, hpa, by omega, fun k2 ob k20 k21 hpb => ?_⟩
    simp only [dSeq, dNext, dRet, dRetN, dIfS, dAsg, dAsgG, dDrop, dPar2, dPar3, dAug, dAugS, dFor, dOp, dVar, dC, dTest, dChain, dAnd, dOr, dNot, dAndV, dOrV, dNotV, dIf, dTup, dLst, dNil, dCons, dStar, dCB, dCall, dFrz, dSl, dNoPart, dPart, dBM, dRev, dNeg, dIsi, dListRg, dTupRg, dRg1, dRg2, dLc, dIt, dEnum, dZip2, dZip3, dEnZ, dRng1, dRng2, dYes, gN, gT, gsNil, gsCons, gSb, oI, oI0, oAdd, oMulA, oSub, oFdiv, oMod, oPow, oLt, oLe, oGt, oGe, oEq, oNe, oIsN, oNotN, oIsB, oNotB, oIx, oSl, oLen, oSum, oAll, oAny, oAbs, o1I, o2I, oMin2, oMax2, oMin, oMax, oMinL, oMaxL, oInt, oBool, oList, oTuple, oSorted, oSortedT, oSortedD, dSortSet, dDNew, dDOne, oDGet, oDIn, oDSet, keyOD, oIn, oAddI, oGet, oSet, oAppend, oExtend, oPop, oPopAt, oIndexL, oIndexT, oInsert, oRemove, dTupX, dBMX, dLenSet, newL, startD, wipeD, D.tyN, List.map_cons, List.map_nil, List.cons_append, List.nil_append, List.length_cons, List.length_nil, List.getElem?_cons_zero, List.getElem?_cons_succ, List.set_cons_zero, List.set_cons_succ, List.replicate, Nat.sub_self, Nat.reduceSub, Nat.reduceAdd, Nat.zero_add, kb_ii, kb_ib, kb_it, kb_is, kb_bi, kb_bb, kb_bt, kb_bs, kb_tt, kb_ti, kb_ts, kb_ss, kb_si, kb_st, kb_nt, kb_ni, kb_ns, kb_lt, kb_li, kb_ls, ex_some, seq_tup, seq_tpx, itOf_tpx, seq_lst, seq_fz, list_lst, lsts_lst, lsts_fz, itOf_tup, itOf_lst, itOf_fz, now_int, now_bl, now_non, now_str, now_tup, now_lst, isNon_non, isNon_int, isNon_tup, isNon_ref, isNon_lst, isNon_str, isNon_bl]
    refine ⟨⟨by omega, by omega⟩, trivial, ?_⟩
    obtain ⟨L, hL⟩ : ∃ L : Nat, k2.toNat = L := ⟨_, rfl⟩
    have hL20 : L ≤ 20 := by omega
    rw [hL]
    refine loopD_invE (α := Nat) (fun i => .int (0 + (i : Int))) (fun ys ρ S => ∃ o4 o5 o6 G oc, ρ = [some (.ref p), some (.int (0 + (x : Int))), some (.int R), some (.ref pw), o4, o5, o6, none] ∧ S pw = some (.lst (G.map eG)) ∧ G.length + ys.length = L ∧ (∀ g ∈ G, ((0 ≤ g.a ∧ g.a < R) ∧ (0 ≤ g.b ∧ g.b < R) ∧ g.a ≠ g.b) ∧ 0 ≤ g.c ∧ g.c ≤ 8) ∧ S p = some oc ∧ PotO (b + 2 + 3 * G.length) oc ∧ Fr p S0 S) ?_ ?_ _ _ _
      ⟨_, _, _, [], ob, rfl, by rw [Sto.up_ne hpwp]; exact hwa, by simp, by simp, Sto.up_same, hpb, hfa.own⟩ trivial
    · rintro y ys ρ S ⟨o4', o5', o6', G, oc, rfl, hw, hlen, hrow, hSp, hpp, hfr2⟩ _ N2 hN2
      rw [List.length_cons] at hlen
      subst hτ2
      simp only [gN, List.set_cons_zero, List.set_cons_succ]
      refine seqG fun v3 hv3 => ?_
      simp only [dSeq, dNext, dRet, dRetN, dIfS, dAsg, dAsgG, dDrop, dPar2, dPar3, dAug, dAugS, dFor, dOp, dVar, dC, dTest, dChain, dAnd, dOr, dNot, dAndV, dOrV, dNotV, dIf, dTup, dLst, dNil, dCons, dStar, dCB, dCall, dFrz, dSl, dNoPart, dPart, dBM, dRev, dNeg, dIsi, dListRg, dTupRg, dRg1, dRg2, dLc, dIt, dEnum, dZip2, dZip3, dEnZ, dRng1, dRng2, dYes, gN, gT, gsNil, gsCons, gSb, oI, oI0, oAdd, oMulA, oSub, oFdiv, oMod, oPow, oLt, oLe, oGt, oGe, oEq, oNe, oIsN, oNotN, oIsB, oNotB, oIx, oSl, oLen, oSum, oAll, oAny, oAbs, o1I, o2I, oMin2, oMax2, oMin, oMax, oMinL, oMaxL, oInt, oBool, oList, oTuple, oSorted, oSortedT, oSortedD, dSortSet, dDNew, dDOne, oDGet, oDIn, oDSet, keyOD, oIn, oAddI, oGet, oSet, oAppend, oExtend, oPop, oPopAt, oIndexL, oIndexT, oInsert, oRemove, dTupX, dBMX, dLenSet, newL, startD, wipeD, D.tyN, List.map_cons, List.map_nil, List.cons_append, List.nil_append, List.length_cons, List.length_nil, List.getElem?_cons_zero, List.getElem?_cons_succ, List.set_cons_zero, List.set_cons_succ, List.replicate, Nat.sub_self, Nat.reduceSub, Nat.reduceAdd, Nat.zero_add, kb_ii, kb_ib, kb_it, kb_is, kb_bi, kb_bb, kb_bt, kb_bs, kb_tt, kb_ti, kb_ts, kb_ss, kb_si, kb_st, kb_nt, kb_ni, kb_ns, kb_lt, kb_li, kb_ls, ex_some, seq_tup, seq_tpx, itOf_tpx, seq_lst, seq_fz, list_lst, lsts_lst, lsts_fz, itOf_tup, itOf_lst, itOf_fz, now_int, now_bl, now_non, now_str, now_tup, now_lst, isNon_non, isNon_int, isNon_tup, isNon_ref, isNon_lst, isNon_str, isNon_bl]
      refine ⟨p, R, _, oc, rfl, by omega, by omega, hSp, hpp, by omega, fun k3 od k30 k31 hpd => ?_⟩
      simp only [dSeq, dNext, dRet, dRetN, dIfS, dAsg, dAsgG, dDrop, dPar2, dPar3, dAug, dAugS, dFor, dOp, dVar, dC, dTest, dChain, dAnd, dOr, dNot, dAndV, dOrV, dNotV, dIf, dTup, dLst, dNil, dCons, dStar, dCB, dCall, dFrz, dSl, dNoPart, dPart, dBM, dRev, dNeg, dIsi, dListRg, dTupRg, dRg1, dRg2, dLc, dIt, dEnum, dZip2, dZip3, dEnZ, dRng1, dRng2, dYes, gN, gT, gsNil, gsCons, gSb, oI, oI0, oAdd, oMulA, oSub, oFdiv, oMod, oPow, oLt, oLe, oGt, oGe, oEq, oNe, oIsN, oNotN, oIsB, oNotB, oIx, oSl, oLen, oSum, oAll, oAny, oAbs, o1I, o2I, oMin2, oMax2, oMin, oMax, oMinL, oMaxL, oInt, oBool, oList, oTuple, oSorted, oSortedT, oSortedD, dSortSet, dDNew, dDOne, oDGet, oDIn, oDSet, keyOD, oIn, oAddI, oGet, oSet, oAppend, oExtend, oPop, oPopAt, oIndexL, oIndexT, oInsert, oRemove, dTupX, dBMX, dLenSet, newL, startD, wipeD, D.tyN, List.map_cons, List.map_nil, List.cons_append, List.nil_append, List.length_cons, List.length_nil, List.getElem?_cons_zero, List.getElem?_cons_succ, List.set_cons_zero, List.set_cons_succ, List.replicate, Nat.sub_self, Nat.reduceSub, Nat.reduceAdd, Nat.zero_add, kb_ii, kb_ib, kb_it, kb_is, kb_bi, kb_bb, kb_bt, kb_bs, kb_tt, kb_ti, kb_ts, kb_ss, kb_si, kb_st, kb_nt, kb_ni, kb_ns, kb_lt, kb_li, kb_ls, ex_some, seq_tup, seq_tpx, itOf_tpx, seq_lst, seq_fz, list_lst, lsts_lst, lsts_fz, itOf_tup, itOf_lst, itOf_fz, now_int, now_bl, now_non, now_str, now_tup, now_lst, isNon_non, isNon_int, isNon_tup, isNon_ref, isNon_lst, isNon_str, isNon_bl]
      refine ⟨p, R - 1, _, od, rfl, by omega, by omega, Sto.up_same, hpd, by omega, fun k4 oe k40 k41 hpe => ?_⟩
      simp only [dSeq, dNext, dRet, dRetN, dIfS, dAsg, dAsgG, dDrop, dPar2, dPar3, dAug, dAugS, dFor, dOp, dVar, dC, dTest, dChain, dAnd, dOr, dNot, dAndV, dOrV, dNotV, dIf, dTup, dLst, dNil, dCons, dStar, dCB, dCall, dFrz, dSl, dNoPart, dPart, dBM, dRev, dNeg, dIsi, dListRg, dTupRg, dRg1, dRg2, dLc, dIt, dEnum, dZip2, dZip3, dEnZ, dRng1, dRng2, dYes, gN, gT, gsNil, gsCons, gSb, oI, oI0, oAdd, oMulA, oSub, oFdiv, oMod, oPow, oLt, oLe, oGt, oGe, oEq, oNe, oIsN, oNotN, oIsB, oNotB, oIx, oSl, oLen, oSum, oAll, oAny, oAbs, o1I, o2I, oMin2, oMax2, oMin, oMax, oMinL, oMaxL, oInt, oBool, oList, oTuple, oSorted, oSortedT, oSortedD, dSortSet, dDNew, dDOne, oDGet, oDIn, oDSet, keyOD, oIn, oAddI, oGet, oSet, oAppend, oExtend, oPop, oPopAt, oIndexL, oIndexT, oInsert, oRemove, dTupX, dBMX, dLenSet, newL, startD, wipeD, D.tyN, List.map_cons, List.map_nil, List.cons_append, List.nil_append, List.length_cons, List.length_nil, List.getElem?_cons_zero, List.getElem?_cons_succ, List.set_cons_zero, List.set_cons_succ, List.replicate, Nat.sub_self, Nat.reduceSub, Nat.reduceAdd, Nat.zero_add, kb_ii, kb_ib, kb_it, kb_is, kb_bi, kb_bb, kb_bt, kb_bs, kb_tt, kb_ti, kb_ts, kb_ss, kb_si, kb_st, kb_nt, kb_ni, kb_ns, kb_lt, kb_li, kb_ls, ex_some, seq_tup, seq_tpx, itOf_tpx, seq_lst, seq_fz, list_lst, lsts_lst, lsts_fz, itOf_tup, itOf_lst, itOf_fz, now_int, now_bl, now_non, now_str, now_tup, now_lst, isNon_non, isNon_int, isNon_tup, isNon_ref, isNon_lst, isNon_str, isNon_bl]
      have hw' : ((S.up p od).up p oe) pw = some (.lst (G.map eG)) := by rw [Sto.up_ne hpwp, Sto.up_ne hpwp]; exact hw
      have hfr3 : Fr p S0 ((S.up p od).up p oe) := hfr2.own.own
      have hSp3 : ((S.up p od).up p oe) p = some oe := Sto.up_same
      generalize (S.up p od).up p oe = S3 at hw' hfr3 hSp3 ⊢
      subst hv3
      simp only [dSeq, dNext, dRet, dRetN, dIfS, dAsg, dAsgG, dDrop, dPar2, dPar3, dAug, dAugS, dFor, dOp, dVar, dC, dTest, dChain, dAnd, dOr, dNot, dAndV, dOrV, dNotV, dIf, dTup, dLst, dNil, dCons, dStar, dCB, dCall, dFrz, dSl, dNoPart, dPart, dBM, dRev, dNeg, dIsi, dListRg, dTupRg, dRg1, dRg2, dLc, dIt, dEnum, dZip2, dZip3, dEnZ, dRng1, dRng2, dYes, gN, gT, gsNil, gsCons, gSb, oI, oI0, oAdd, oMulA, oSub, oFdiv, oMod, oPow, oLt, oLe, oGt, oGe, oEq, oNe, oIsN, oNotN, oIsB, oNotB, oIx, oSl, oLen, oSum, oAll, oAny, oAbs, o1I, o2I, oMin2, oMax2, oMin, oMax, oMinL, oMaxL, oInt, oBool, oList, oTuple, oSorted, oSortedT, oSortedD, dSortSet, dDNew, dDOne, oDGet, oDIn, oDSet, keyOD, oIn, oAddI, oGet, oSet, oAppend, oExtend, oPop, oPopAt, oIndexL, oIndexT, oInsert, oRemove, dTupX, dBMX, dLenSet, newL, startD, wipeD, D.tyN, List.map_cons, List.map_nil, List.cons_append, List.nil_append, List.length_cons, List.length_nil, List.getElem?_cons_zero, List.getElem?_cons_succ, List.set_cons_zero, List.set_cons_succ, List.replicate, Nat.sub_self, Nat.reduceSub, Nat.reduceAdd, Nat.zero_add, kb_ii, kb_ib, kb_it, kb_is, kb_bi, kb_bb, kb_bt, kb_bs, kb_tt, kb_ti, kb_ts, kb_ss, kb_si, kb_st, kb_nt, kb_ni, kb_ns, kb_lt, kb_li, kb_ls, ex_some, seq_tup, seq_tpx, itOf_tpx, seq_lst, seq_fz, list_lst, lsts_lst, lsts_fz, itOf_tup, itOf_lst, itOf_fz, now_int, now_bl, now_non, now_str, now_tup, now_lst, isNon_non, isNon_int, isNon_tup, isNon_ref, isNon_lst, isNon_str, isNon_bl, list_ref hw']
      refine ⟨⟨_, rfl⟩, by omega, p, 9, _, oe, rfl, by decide, by decide, hSp3, hpe, by omega, fun k5 of k50 k51 hpf => ?_⟩
      have hw4 : (S3.up p of) pw = some (.lst (G.map eG)) := by rw [Sto.up_ne hpwp]; exact hw'
      have hm := go_round ⟨k30, k31⟩ ⟨k40, k41⟩
      generalize (k3 + (1 + k4)) % R = m at hm ⊢
      simp only [trk_ref hw4]
      refine ⟨small (by decide), by rw [List.length_map, sizeLine_eq]; omega, ?_⟩
      refine hN2 _ _ trivial ⟨_, _, _, G ++ [⟨k3, m, k5⟩], of, rfl, by rw [Sto.up_same, List.map_append]; rfl, by simp; omega, fun j hj => ?_, by rw [Sto.up_ne (Ne.symm hpwp)]; exact Sto.up_same, ?_, hfr3.own.old hn0⟩
      · rcases List.mem_append.mp hj with z | z
        · exact hrow j z
        · rw [List.mem_singleton.mp z]
          exact ⟨⟨⟨k30, k31⟩, ⟨hm.1, hm.2.1⟩, hm.2.2⟩, k50, by show k5 ≤ 8; omega⟩
      · rw [List.length_append]
        exact hpf.mono (by simp; omega)
    · rintro ρ S2 ⟨o4', o5', o6', G, oc, rfl, hw, hlen, hrow, hSp, hpp, hfr2⟩
      rw [List.length_nil, Nat.add_zero] at hlen
      show v2 _ _ _
      subst hv2
      have lg : LG R G := ⟨⟨fun g hg => (hrow g hg).1, fun g hg => by have := (hrow g hg).2; omega, by omega, by omega⟩, by omega, by omega, fun g hg => by have := (hrow g hg).2; omega⟩
      simp only [dSeq, dNext, dRet, dRetN, dIfS, dAsg, dAsgG, dDrop, dPar2, dPar3, dAug, dAugS, dFor, dOp, dVar, dC, dTest, dChain, dAnd, dOr, dNot, dAndV, dOrV, dNotV, dIf, dTup, dLst, dNil, dCons, dStar, dCB, dCall, dFrz, dSl, dNoPart, dPart, dBM, dRev, dNeg, dIsi, dListRg, dTupRg, dRg1, dRg2, dLc, dIt, dEnum, dZip2, dZip3, dEnZ, dRng1, dRng2, dYes, gN, gT, gsNil, gsCons, gSb, oI, oI0, oAdd, oMulA, oSub, oFdiv, oMod, oPow, oLt, oLe, oGt, oGe, oEq, oNe, oIsN, oNotN, oIsB, oNotB, oIx, oSl, oLen, oSum, oAll, oAny, oAbs, o1I, o2I, oMin2, oMax2, oMin, oMax, oMinL, oMaxL, oInt, oBool, oList, oTuple, oSorted, oSortedT, oSortedD, dSortSet, dDNew, dDOne, oDGet, oDIn, oDSet, keyOD, oIn, oAddI, oGet, oSet, oAppend, oExtend, oPop, oPopAt, oIndexL, oIndexT, oInsert, oRemove, dTupX, dBMX, dLenSet, newL, startD, wipeD, D.tyN, List.map_cons, List.map_nil, List.cons_append, List.nil_append, List.length_cons, List.length_nil, List.getElem?_cons_zero, List.getElem?_cons_succ, List.set_cons_zero, List.set_cons_succ, List.replicate, Nat.sub_self, Nat.reduceSub, Nat.reduceAdd, Nat.zero_add, kb_ii, kb_ib, kb_it, kb_is, kb_bi, kb_bb, kb_bt, kb_bs, kb_tt, kb_ti, kb_ts, kb_ss, kb_si, kb_st, kb_nt, kb_ni, kb_ns, kb_lt, kb_li, kb_ls, ex_some, seq_tup, seq_tpx, itOf_tpx, seq_lst, seq_fz, list_lst, lsts_lst, lsts_fz, itOf_tup, itOf_lst, itOf_fz, now_int, now_bl, now_non, now_str, now_tup, now_lst, isNon_non, isNon_int, isNon_tup, isNon_ref, isNon_lst, isNon_str, isNon_bl, seq_ref hw]
      refine ⟨G, R, p, oc, _, rfl, lg, hSp, hpp, by omega, fun od hpd => ?_⟩
      simp only [Bool.not_true]
      exact hN _ _ trivial ⟨_, _, _, _, _, _, od, rfl, Sto.up_same, hpd.mono (by omega), hfr2.own, by omega⟩
  · rintro ρ S ⟨o1, o2, o3, o4, o5, o6, o, rfl, hS, hp, hfr, hxl⟩
    show v _ _ _
    subst hv
    refine seqG fun v1 hv1 => ?_
    simp only [dSeq, dNext, dRet, dRetN, dIfS, dAsg, dAsgG, dDrop, dPar2, dPar3, dAug, dAugS, dFor, dOp, dVar, dC, dTest, dChain, dAnd, dOr, dNot, dAndV, dOrV, dNotV, dIf, dTup, dLst, dNil, dCons, dStar, dCB, dCall, dFrz, dSl, dNoPart, dPart, dBM, dRev, dNeg, dIsi, dListRg, dTupRg, dRg1, dRg2, dLc, dIt, dEnum, dZip2, dZip3, dEnZ, dRng1, dRng2, dYes, gN, gT, gsNil, gsCons, gSb, oI, oI0, oAdd, oMulA, oSub, oFdiv, oMod, oPow, oLt, oLe, oGt, oGe, oEq, oNe, oIsN, oNotN, oIsB, oNotB, oIx, oSl, oLen, oSum, oAll, oAny, oAbs, o1I, o2I, oMin2, oMax2, oMin, oMax, oMinL, oMaxL, oInt, oBool, oList, oTuple, oSorted, oSortedT, oSortedD, dSortSet, dDNew, dDOne, oDGet, oDIn, oDSet, keyOD, oIn, oAddI, oGet, oSet, oAppend, oExtend, oPop, oPopAt, oIndexL, oIndexT, oInsert, oRemove, dTupX, dBMX, dLenSet, newL, startD, wipeD, D.tyN, List.map_cons, List.map_nil, List.cons_append, List.nil_append, List.length_cons, List.length_nil, List.getElem?_cons_zero, List.getElem?_cons_succ, List.set_cons_zero, List.set_cons_succ, List.replicate, Nat.sub_self, Nat.reduceSub, Nat.reduceAdd, Nat.zero_add, kb_ii, kb_ib, kb_it, kb_is, kb_bi, kb_bb, kb_bt, kb_bs, kb_tt, kb_ti, kb_ts, kb_ss, kb_si, kb_st, kb_nt, kb_ni, kb_ns, kb_lt, kb_li, kb_ls, ex_some, seq_tup, seq_tpx, itOf_tpx, seq_lst, seq_fz, list_lst, lsts_lst, lsts_fz, itOf_tup, itOf_lst, itOf_fz, now_int, now_bl, now_non, now_str, now_tup, now_lst, isNon_non, isNon_int, isNon_tup, isNon_ref, isNon_lst, isNon_str, isNon_bl]
    refine ⟨p, o, _, rfl, hS, hp, by simp, fun rows w o' fr hw hp' => ?_⟩
    simp only [dSeq, dNext, dRet, dRetN, dIfS, dAsg, dAsgG, dDrop, dPar2, dPar3, dAug, dAugS, dFor, dOp, dVar, dC, dTest, dChain, dAnd, dOr, dNot, dAndV, dOrV, dNotV, dIf, dTup, dLst, dNil, dCons, dStar, dCB, dCall, dFrz, dSl, dNoPart, dPart, dBM, dRev, dNeg, dIsi, dListRg, dTupRg, dRg1, dRg2, dLc, dIt, dEnum, dZip2, dZip3, dEnZ, dRng1, dRng2, dYes, gN, gT, gsNil, gsCons, gSb, oI, oI0, oAdd, oMulA, oSub, oFdiv, oMod, oPow, oLt, oLe, oGt, oGe, oEq, oNe, oIsN, oNotN, oIsB, oNotB, oIx, oSl, oLen, oSum, oAll, oAny, oAbs, o1I, o2I, oMin2, oMax2, oMin, oMax, oMinL, oMaxL, oInt, oBool, oList, oTuple, oSorted, oSortedT, oSortedD, dSortSet, dDNew, dDOne, oDGet, oDIn, oDSet, keyOD, oIn, oAddI, oGet, oSet, oAppend, oExtend, oPop, oPopAt, oIndexL, oIndexT, oInsert, oRemove, dTupX, dBMX, dLenSet, newL, startD, wipeD, D.tyN, List.map_cons, List.map_nil, List.cons_append, List.nil_append, List.length_cons, List.length_nil, List.getElem?_cons_zero, List.getElem?_cons_succ, List.set_cons_zero, List.set_cons_succ, List.replicate, Nat.sub_self, Nat.reduceSub, Nat.reduceAdd, Nat.zero_add, kb_ii, kb_ib, kb_it, kb_is, kb_bi, kb_bb, kb_bt, kb_bs, kb_tt, kb_ti, kb_ts, kb_ss, kb_si, kb_st, kb_nt, kb_ni, kb_ns, kb_lt, kb_li, kb_ls, ex_some, seq_tup, seq_tpx, itOf_tpx, seq_lst, seq_fz, list_lst, lsts_lst, lsts_fz, itOf_tup, itOf_lst, itOf_fz, now_int, now_bl, now_non, now_str, now_tup, now_lst, isNon_non, isNon_int, isNon_tup, isNon_ref, isNon_lst, isNon_str, isNon_bl]
    refine ⟨trivial, ?_⟩
    subst hv1
    simp only [dSeq, dNext, dRet, dRetN, dIfS, dAsg, dAsgG, dDrop, dPar2, dPar3, dAug, dAugS, dFor, dOp, dVar, dC, dTest, dChain, dAnd, dOr, dNot, dAndV, dOrV, dNotV, dIf, dTup, dLst, dNil, dCons, dStar, dCB, dCall, dFrz, dSl, dNoPart, dPart, dBM, dRev, dNeg, dIsi, dListRg, dTupRg, dRg1, dRg2, dLc, dIt, dEnum, dZip2, dZip3, dEnZ, dRng1, dRng2, dYes, gN, gT, gsNil, gsCons, gSb, oI, oI0, oAdd, oMulA, oSub, oFdiv, oMod, oPow, oLt, oLe, oGt, oGe, oEq, oNe, oIsN, oNotN, oIsB, oNotB, oIx, oSl, oLen, oSum, oAll, oAny, oAbs, o1I, o2I, oMin2, oMax2, oMin, oMax, oMinL, oMaxL, oInt, oBool, oList, oTuple, oSorted, oSortedT, oSortedD, dSortSet, dDNew, dDOne, oDGet, oDIn, oDSet, keyOD, oIn, oAddI, oGet, oSet, oAppend, oExtend, oPop, oPopAt, oIndexL, oIndexT, oInsert, oRemove, dTupX, dBMX, dLenSet, newL, startD, wipeD, D.tyN, List.map_cons, List.map_nil, List.cons_append, List.nil_append, List.length_cons, List.length_nil, List.getElem?_cons_zero, List.getElem?_cons_succ, List.set_cons_zero, List.set_cons_succ, List.replicate, Nat.sub_self, Nat.reduceSub, Nat.reduceAdd, Nat.zero_add, kb_ii, kb_ib, kb_it, kb_is, kb_bi, kb_bb, kb_bt, kb_bs, kb_tt, kb_ti, kb_ts, kb_ss, kb_si, kb_st, kb_nt, kb_ni, kb_ns, kb_lt, kb_li, kb_ls, ex_some, seq_tup, seq_tpx, itOf_tpx, seq_lst, seq_fz, list_lst, lsts_lst, lsts_fz, itOf_tup, itOf_lst, itOf_fz, now_int, now_bl, now_non, now_str, now_tup, now_lst, isNon_non, isNon_int, isNon_tup, isNon_ref, isNon_lst, isNon_str, isNon_bl]
    refine ⟨field rows, 38, rfl, field_GG fr, fun u hu => ?_⟩
    obtain rfl := hu.uniq hw
    refine ⟨⟨okn_int, okn_int⟩, ?_⟩
    show FzQ Q (.bl (eqD (.int u) (.int u))) _
    rw [eqD_refl (n := 8) okn_int]
    refine FzQ.ext (S := S0.up p o') (fun a u h => ?_) (q o')
    by_cases e : a = p
    · subst e; rw [Sto.up_same] at h; rw [Sto.up_same]; exact h
    · rw [Sto.up_ne e] at h; rw [Sto.up_ne e]; exact hfr a u e h

def sp_law : DSp := fun ds S Q => ∃ ns : List Int, ds = [.fz (ns.map .int)] ∧ ns.length ≤ 63 ∧ ∀ S', Q (.bl true) S'
theorem pure_law : ∀ ds S Q, sp_law ds S Q → t_law sp__law_cells sp__law_right sp__law_pot (DeN Q) (startD N_law ds) S := by
  rintro ds S Q ⟨ns, rfl, hl, q⟩
  simp only [t_law, dSeq, dNext, dRet, dRetN, dIfS, dAsg, dAsgG, dDrop, dPar2, dPar3, dAug, dAugS, dFor, dOp, dVar, dC, dTest, dChain, dAnd, dOr, dNot, dAndV, dOrV, dNotV, dIf, dTup, dLst, dNil, dCons, dStar, dCB, dCall, dFrz, dSl, dNoPart, dPart, dBM, dRev, dNeg, dIsi, dListRg, dTupRg, dRg1, dRg2, dLc, dIt, dEnum, dZip2, dZip3, dEnZ, dRng1, dRng2, dYes, gN, gT, gsNil, gsCons, gSb, oI, oI0, oAdd, oMulA, oSub, oFdiv, oMod, oPow, oLt, oLe, oGt, oGe, oEq, oNe, oIsN, oNotN, oIsB, oNotB, oIx, oSl, oLen, oSum, oAll, oAny, oAbs, o1I, o2I, oMin2, oMax2, oMin, oMax, oMinL, oMaxL, oInt, oBool, oList, oTuple, oSorted, oSortedT, oSortedD, dSortSet, dDNew, dDOne, oDGet, oDIn, oDSet, keyOD, oIn, oAddI, oGet, oSet, oAppend, oExtend, oPop, oPopAt, oIndexL, oIndexT, oInsert, oRemove, dTupX, dBMX, dLenSet, newL, startD, wipeD, D.tyN, List.map_cons, List.map_nil, List.cons_append, List.nil_append, List.length_cons, List.length_nil, List.getElem?_cons_zero, List.getElem?_cons_succ, List.set_cons_zero, List.set_cons_succ, List.replicate, Nat.sub_self, Nat.reduceSub, Nat.reduceAdd, Nat.zero_add, kb_ii, kb_ib, kb_it, kb_is, kb_bi, kb_bb, kb_bt, kb_bs, kb_tt, kb_ti, kb_ts, kb_ss, kb_si, kb_st, kb_nt, kb_ni, kb_ns, kb_lt, kb_li, kb_ls, ex_some, seq_tup, seq_tpx, itOf_tpx, seq_lst, seq_fz, list_lst, lsts_lst, lsts_fz, itOf_tup, itOf_lst, itOf_fz, now_int, now_bl, now_non, now_str, now_tup, now_lst, isNon_non, isNon_int, isNon_tup, isNon_ref, isNon_lst, isNon_str, isNon_bl]
  refine ⟨ns, rfl, by omega, fun n hn => ?_⟩
  simp only [dSeq, dNext, dRet, dRetN, dIfS, dAsg, dAsgG, dDrop, dPar2, dPar3, dAug, dAugS, dFor, dOp, dVar, dC, dTest, dChain, dAnd, dOr, dNot, dAndV, dOrV, dNotV, dIf, dTup, dLst, dNil, dCons, dStar, dCB, dCall, dFrz, dSl, dNoPart, dPart, dBM, dRev, dNeg, dIsi, dListRg, dTupRg, dRg1, dRg2, dLc, dIt, dEnum, dZip2, dZip3, dEnZ, dRng1, dRng2, dYes, gN, gT, gsNil, gsCons, gSb, oI, oI0, oAdd, oMulA, oSub, oFdiv, oMod, oPow, oLt, oLe, oGt, oGe, oEq, oNe, oIsN, oNotN, oIsB, oNotB, oIx, oSl, oLen, oSum, oAll, oAny, oAbs, o1I, o2I, oMin2, oMax2, oMin, oMax, oMinL, oMaxL, oInt, oBool, oList, oTuple, oSorted, oSortedT, oSortedD, dSortSet, dDNew, dDOne, oDGet, oDIn, oDSet, keyOD, oIn, oAddI, oGet, oSet, oAppend, oExtend, oPop, oPopAt, oIndexL, oIndexT, oInsert, oRemove, dTupX, dBMX, dLenSet, newL, startD, wipeD, D.tyN, List.map_cons, List.map_nil, List.cons_append, List.nil_append, List.length_cons, List.length_nil, List.getElem?_cons_zero, List.getElem?_cons_succ, List.set_cons_zero, List.set_cons_succ, List.replicate, Nat.sub_self, Nat.reduceSub, Nat.reduceAdd, Nat.zero_add, kb_ii, kb_ib, kb_it, kb_is, kb_bi, kb_bb, kb_bt, kb_bs, kb_tt, kb_ti, kb_ts, kb_ss, kb_si, kb_st, kb_nt, kb_ni, kb_ns, kb_lt, kb_li, kb_ls, ex_some, seq_tup, seq_tpx, itOf_tpx, seq_lst, seq_fz, list_lst, lsts_lst, lsts_fz, itOf_tup, itOf_lst, itOf_fz, now_int, now_bl, now_non, now_str, now_tup, now_lst, isNon_non, isNon_int, isNon_tup, isNon_ref, isNon_lst, isNon_str, isNon_bl]
  have inv := lc_run (r := false) (ρ0 := [some (.fz (ns.map D.int)), none]) (γ := gN 1) (t := dYes) (el := dCall sp__law_right (dCons (dCall sp__law_pot (dCons (dVar 0) (dCons (dVar 1) dNil))) dNil)) (it := ⟨(List.range n).map fun (i : Nat) => D.int ((0 : Int) + (i : Nat)), fun _ => True⟩) (S := S)
    (Q := fun x S1 => oAll [x] S1 (FzQ Q)) (fun xs acc S' => ∃ k i, acc = (List.replicate k true).map D.bl ∧ k + xs.length = n ∧ xs = ((List.range n).drop i).map fun (i : Nat) => D.int ((0 : Int) + (i : Nat)))
    (fun _ => trivial) (small (by simp; omega)) (fun Dl hD => ⟨0, 0, rfl, by simp, rfl⟩) ?_ ?_ ?_
  · simp only [dSeq, dNext, dRet, dRetN, dIfS, dAsg, dAsgG, dDrop, dPar2, dPar3, dAug, dAugS, dFor, dOp, dVar, dC, dTest, dChain, dAnd, dOr, dNot, dAndV, dOrV, dNotV, dIf, dTup, dLst, dNil, dCons, dStar, dCB, dCall, dFrz, dSl, dNoPart, dPart, dBM, dRev, dNeg, dIsi, dListRg, dTupRg, dRg1, dRg2, dLc, dIt, dEnum, dZip2, dZip3, dEnZ, dRng1, dRng2, dYes, gN, gT, gsNil, gsCons, gSb, oI, oI0, oAdd, oMulA, oSub, oFdiv, oMod, oPow, oLt, oLe, oGt, oGe, oEq, oNe, oIsN, oNotN, oIsB, oNotB, oIx, oSl, oLen, oSum, oAll, oAny, oAbs, o1I, o2I, oMin2, oMax2, oMin, oMax, oMinL, oMaxL, oInt, oBool, oList, oTuple, oSorted, oSortedT, oSortedD, dSortSet, dDNew, dDOne, oDGet, oDIn, oDSet, keyOD, oIn, oAddI, oGet, oSet, oAppend, oExtend, oPop, oPopAt, oIndexL, oIndexT, oInsert, oRemove, dTupX, dBMX, dLenSet, newL, startD, wipeD, D.tyN, List.map_cons, List.map_nil, List.cons_append, List.nil_append, List.length_cons, List.length_nil, List.getElem?_cons_zero, List.getElem?_cons_succ, List.set_cons_zero, List.set_cons_succ, List.replicate, Nat.sub_self, Nat.reduceSub, Nat.reduceAdd, Nat.zero_add, kb_ii, kb_ib, kb_it, kb_is, kb_bi, kb_bb, kb_bt, kb_bs, kb_tt, kb_ti, kb_ts, kb_ss, kb_si, kb_st, kb_nt, kb_ni, kb_ns, kb_lt, kb_li, kb_ls, ex_some, seq_tup, seq_tpx, itOf_tpx, seq_lst, seq_fz, list_lst, lsts_lst, lsts_fz, itOf_tup, itOf_lst, itOf_fz, now_int, now_bl, now_non, now_str, now_tup, now_lst, isNon_non, isNon_int, isNon_tup, isNon_ref, isNon_lst, isNon_str, isNon_bl] at inv
    exact inv
  · rintro x xs acc S' _ ⟨k, i, rfl, hk, hx⟩ Dl hD hDl N M hN
    cases hd : (List.range n).drop i with
    | nil => rw [hd] at hx; cases hx
    | cons a re =>
      obtain ⟨hi, ea, er⟩ := drop_at hd.symm
      rw [List.getElem_range] at ea
      subst ea
      rw [List.length_range] at hi
      rw [hd, List.map_cons] at hx
      obtain ⟨rfl, rfl⟩ := List.cons.inj hx
      rw [List.length_cons] at hk
      simp only [dSeq, dNext, dRet, dRetN, dIfS, dAsg, dAsgG, dDrop, dPar2, dPar3, dAug, dAugS, dFor, dOp, dVar, dC, dTest, dChain, dAnd, dOr, dNot, dAndV, dOrV, dNotV, dIf, dTup, dLst, dNil, dCons, dStar, dCB, dCall, dFrz, dSl, dNoPart, dPart, dBM, dRev, dNeg, dIsi, dListRg, dTupRg, dRg1, dRg2, dLc, dIt, dEnum, dZip2, dZip3, dEnZ, dRng1, dRng2, dYes, gN, gT, gsNil, gsCons, gSb, oI, oI0, oAdd, oMulA, oSub, oFdiv, oMod, oPow, oLt, oLe, oGt, oGe, oEq, oNe, oIsN, oNotN, oIsB, oNotB, oIx, oSl, oLen, oSum, oAll, oAny, oAbs, o1I, o2I, oMin2, oMax2, oMin, oMax, oMinL, oMaxL, oInt, oBool, oList, oTuple, oSorted, oSortedT, oSortedD, dSortSet, dDNew, dDOne, oDGet, oDIn, oDSet, keyOD, oIn, oAddI, oGet, oSet, oAppend, oExtend, oPop, oPopAt, oIndexL, oIndexT, oInsert, oRemove, dTupX, dBMX, dLenSet, newL, startD, wipeD, D.tyN, List.map_cons, List.map_nil, List.cons_append, List.nil_append, List.length_cons, List.length_nil, List.getElem?_cons_zero, List.getElem?_cons_succ, List.set_cons_zero, List.set_cons_succ, List.replicate, Nat.sub_self, Nat.reduceSub, Nat.reduceAdd, Nat.zero_add, kb_ii, kb_ib, kb_it, kb_is, kb_bi, kb_bb, kb_bt, kb_bs, kb_tt, kb_ti, kb_ts, kb_ss, kb_si, kb_st, kb_nt, kb_ni, kb_ns, kb_lt, kb_li, kb_ls, ex_some, seq_tup, seq_tpx, itOf_tpx, seq_lst, seq_fz, list_lst, lsts_lst, lsts_fz, itOf_tup, itOf_lst, itOf_fz, now_int, now_bl, now_non, now_str, now_tup, now_lst, isNon_non, isNon_int, isNon_tup, isNon_ref, isNon_lst, isNon_str, isNon_bl, Int.zero_add]
      refine ⟨ns, a, rfl, by omega, fun p o hp ho => ?_⟩
      have hDp : Dl ≠ p := ne_of_in hDl hp
      refine ⟨p, o, rfl, Sto.up_same, ho, fun o' => ?_⟩
      refine hN _ _ (by rw [Sto.up_ne hDp, Sto.up_ne hDp]; exact hDl) (by rw [List.length_map, List.length_replicate, sizeLine_eq]; omega) ⟨k + 1, a + 1, ?_, by omega, by rw [er]⟩
      rw [List.replicate_succ', List.map_append]; rfl
  · rintro x xs acc S' ⟨k, i, rfl, hk, hx⟩
    simp
    rw [List.length_cons] at hk
    omega
  · rintro Dl acc S' hD ⟨k, i, rfl, hk, hx⟩ hDl
    show oAll [.lst _] _ _
    simp only [dSeq, dNext, dRet, dRetN, dIfS, dAsg, dAsgG, dDrop, dPar2, dPar3, dAug, dAugS, dFor, dOp, dVar, dC, dTest, dChain, dAnd, dOr, dNot, dAndV, dOrV, dNotV, dIf, dTup, dLst, dNil, dCons, dStar, dCB, dCall, dFrz, dSl, dNoPart, dPart, dBM, dRev, dNeg, dIsi, dListRg, dTupRg, dRg1, dRg2, dLc, dIt, dEnum, dZip2, dZip3, dEnZ, dRng1, dRng2, dYes, gN, gT, gsNil, gsCons, gSb, oI, oI0, oAdd, oMulA, oSub, oFdiv, oMod, oPow, oLt, oLe, oGt, oGe, oEq, oNe, oIsN, oNotN, oIsB, oNotB, oIx, oSl, oLen, oSum, oAll, oAny, oAbs, o1I, o2I, oMin2, oMax2, oMin, oMax, oMinL, oMaxL, oInt, oBool, oList, oTuple, oSorted, oSortedT, oSortedD, dSortSet, dDNew, dDOne, oDGet, oDIn, oDSet, keyOD, oIn, oAddI, oGet, oSet, oAppend, oExtend, oPop, oPopAt, oIndexL, oIndexT, oInsert, oRemove, dTupX, dBMX, dLenSet, newL, startD, wipeD, D.tyN, List.map_cons, List.map_nil, List.cons_append, List.nil_append, List.length_cons, List.length_nil, List.getElem?_cons_zero, List.getElem?_cons_succ, List.set_cons_zero, List.set_cons_succ, List.replicate, Nat.sub_self, Nat.reduceSub, Nat.reduceAdd, Nat.zero_add, kb_ii, kb_ib, kb_it, kb_is, kb_bi, kb_bb, kb_bt, kb_bs, kb_tt, kb_ti, kb_ts, kb_ss, kb_si, kb_st, kb_nt, kb_ni, kb_ns, kb_lt, kb_li, kb_ls, ex_some, seq_tup, seq_tpx, itOf_tpx, seq_lst, seq_fz, list_lst, lsts_lst, lsts_fz, itOf_tup, itOf_lst, itOf_fz, now_int, now_bl, now_non, now_str, now_tup, now_lst, isNon_non, isNon_int, isNon_tup, isNon_ref, isNon_lst, isNon_str, isNon_bl]
    refine ⟨List.replicate k true, rfl, .here ?_⟩
    have : (List.replicate k true).all id = true := by simp
    rw [this]
    exact q _
end L47
set_option maxHeartbeats 0
namespace L47
open PySem PySem.Spec PyProof.Rows L2 PL
def top (i : Nat) : Stmt := PySem.Challenge.pw_nobodywaitsbeyond_k47_whole_gates_in_row.main.body.getD i (.Pass ⟨0, 0, 0, 0⟩)
abbrev s_is_int : Stmt := top 5
abbrev s_are_ints : Stmt := top 6
abbrev s_is_told : Stmt := top 7
abbrev s_are_gates : Stmt := top 13
abbrev s_look_at_gates : Stmt := top 14
abbrev s_told_ways : Stmt := top 15
abbrev s_told_flow : Stmt := top 16
abbrev s_told_out : Stmt := top 17
abbrev s_told_cut : Stmt := top 18
abbrev s_through : Stmt := top 19
abbrev s_are_used : Stmt := top 20
abbrev s_shows_through : Stmt := top 21
abbrev s_how_many_through : Stmt := top 22
abbrev s_gates_that_bar : Stmt := top 23
abbrev s__law_pot : Stmt := top 25
abbrev s__law_take : Stmt := top 26
abbrev s__law_cells : Stmt := top 27
abbrev s__law_with : Stmt := top 28
abbrev s__law_are_gates_right : Stmt := top 29
abbrev s__law_field : Stmt := top 30
abbrev s__law_right : Stmt := top 31
abbrev s_law : Stmt := top 32
def mkD (x : Str) (st : Stmt) : He.DefD := ⟨(x, none), x, x, defArgs st, defBody st, defScope st, [], []⟩
def fn0 : List He.DefD := [mkD "is_int" s_is_int, mkD "are_ints" s_are_ints, mkD "is_told" s_is_told, mkD "are_gates" s_are_gates, mkD "look_at_gates" s_look_at_gates, mkD "told_ways" s_told_ways, mkD "told_flow" s_told_flow, mkD "told_out" s_told_out, mkD "told_cut" s_told_cut, mkD "through" s_through, mkD "are_used" s_are_used, mkD "shows_through" s_shows_through, mkD "how_many_through" s_how_many_through, mkD "gates_that_bar" s_gates_that_bar, mkD "_law_pot" s__law_pot, mkD "_law_take" s__law_take, mkD "_law_cells" s__law_cells, mkD "_law_with" s__law_with, mkD "_law_are_gates_right" s__law_are_gates_right, mkD "_law_field" s__law_field, mkD "_law_right" s__law_right, mkD "law" s_law]
def fn : List He.DefD := fn0
def fa0 : List He.Fa := [.glo "is_int", .glo "are_ints", .glo "is_told", .glo "are_gates", .glo "look_at_gates", .glo "told_ways", .glo "told_flow", .glo "told_out", .glo "told_cut", .glo "through", .glo "are_used", .glo "shows_through", .glo "how_many_through", .glo "gates_that_bar", .glo "_law_pot", .glo "_law_take", .glo "_law_cells", .glo "_law_with", .glo "_law_are_gates_right", .glo "_law_field", .glo "_law_right", .glo "law", .free "abs", .free "all", .free "bool", .free "enumerate", .free "int", .free "isinstance", .free "len", .free "list"]
def fa1 : List He.Fa := [.free "max", .free "min", .free "range", .free "set", .free "sorted", .free "str", .free "sum", .free "tuple", .free "zip", .int "MOST_ROOMS" 40, .int "MOST_GATES" 200, .int "MOST_THROUGH" 1000000, .str "THROUGH" "through"]
def fa : List He.Fa := fa0 ++ fa1
def lo0 : List Str := ["BorderError", "BadInt", "BadPlan", "is_int", "are_ints", "is_told", "MOST_ROOMS", "MOST_GATES", "MOST_THROUGH", "THROUGH", "are_gates", "look_at_gates", "told_ways", "told_flow", "told_out", "told_cut", "through", "are_used", "shows_through", "how_many_through", "gates_that_bar", "_law_pot", "_law_take", "_law_cells", "_law_with", "_law_are_gates_right", "_law_field", "_law_right"]
def loose : List Str := lo0
abbrev R : PySem.W.OpenRow := PySem.W.OpenLaw.row PySem.Challenge.rw_nobodywaitsbeyond_k47_whole_gates_in_row
abbrev hk : PySem.W.Hook := He.hookD 4 fa fn
def ob (s : PySem.W.SharedT) : He.AlD := He.obsDG 4 fa fn (HandSHeadRun.getT s)
theorem ob_eq (s : PySem.W.SharedT) : ob s = hk.obs s.abs := He.obsDG_eq (HandSHeadRun.getT_eq s)
theorem run (w : World) : HandSHeadRun.RunEq R (PySem.W.view R.prog [32]) hk ob 3000 loose w := by
  intro os
  kernel_rfl

theorem len_is_int : ∀ ds S Q, sp_is_int ds S Q → ds.length = 3 := by
  intro ds S Q h
  unfold sp_is_int at h
  repeat (obtain ⟨_, h⟩ := h)
  subst_vars
  rfl
theorem len_are_ints : ∀ ds S Q, sp_are_ints ds S Q → ds.length = 3 := by
  intro ds S Q h
  unfold sp_are_ints at h
  repeat (obtain ⟨_, h⟩ := h)
  subst_vars
  rfl
theorem len_is_told : ∀ ds S Q, sp_is_told ds S Q → ds.length = 2 := by
  intro ds S Q h
  unfold sp_is_told at h
  repeat (obtain ⟨_, h⟩ := h)
  subst_vars
  rfl
theorem len_are_gates : ∀ ds S Q, sp_are_gates ds S Q → ds.length = 2 := by
  intro ds S Q h
  unfold sp_are_gates at h
  repeat (obtain ⟨_, h⟩ := h)
  subst_vars
  rfl
theorem len_look_at_gates : ∀ ds S Q, sp_look_at_gates ds S Q → ds.length = 2 := by
  intro ds S Q h
  unfold sp_look_at_gates at h
  repeat (obtain ⟨_, h⟩ := h)
  subst_vars
  rfl
theorem len_told_ways : ∀ ds S Q, sp_told_ways ds S Q → ds.length = 3 := by
  intro ds S Q h
  unfold sp_told_ways at h
  repeat (obtain ⟨_, h⟩ := h)
  subst_vars
  rfl
theorem len_told_flow : ∀ ds S Q, sp_told_flow ds S Q → ds.length = 3 := by
  intro ds S Q h
  unfold sp_told_flow at h
  repeat (obtain ⟨_, h⟩ := h)
  subst_vars
  rfl
theorem len_told_out : ∀ ds S Q, sp_told_out ds S Q → ds.length = 3 := by
  intro ds S Q h
  unfold sp_told_out at h
  repeat (obtain ⟨_, h⟩ := h)
  subst_vars
  rfl
theorem len_told_cut : ∀ ds S Q, sp_told_cut ds S Q → ds.length = 2 := by
  intro ds S Q h
  unfold sp_told_cut at h
  repeat (obtain ⟨_, h⟩ := h)
  subst_vars
  rfl
theorem len_through : ∀ ds S Q, sp_through ds S Q → ds.length = 2 := by
  intro ds S Q h
  unfold sp_through at h
  repeat (obtain ⟨_, h⟩ := h)
  subst_vars
  rfl
theorem len_are_used : ∀ ds S Q, sp_are_used ds S Q → ds.length = 3 := by
  intro ds S Q h
  unfold sp_are_used at h
  repeat (obtain ⟨_, h⟩ := h)
  subst_vars
  rfl
theorem len_shows_through : ∀ ds S Q, sp_shows_through ds S Q → ds.length = 3 := by
  intro ds S Q h
  unfold sp_shows_through at h
  repeat (obtain ⟨_, h⟩ := h)
  subst_vars
  rfl
theorem len_how_many_through : ∀ ds S Q, sp_how_many_through ds S Q → ds.length = 2 := by
  intro ds S Q h
  unfold sp_how_many_through at h
  repeat (obtain ⟨_, h⟩ := h)
  subst_vars
  rfl
theorem len_gates_that_bar : ∀ ds S Q, sp_gates_that_bar ds S Q → ds.length = 2 := by
  intro ds S Q h
  unfold sp_gates_that_bar at h
  repeat (obtain ⟨_, h⟩ := h)
  subst_vars
  rfl
theorem len__law_pot : ∀ ds S Q, sp__law_pot ds S Q → ds.length = 2 := by
  intro ds S Q h
  unfold sp__law_pot at h
  repeat (obtain ⟨_, h⟩ := h)
  subst_vars
  rfl
theorem len__law_take : ∀ ds S Q, sp__law_take ds S Q → ds.length = 2 := by
  intro ds S Q h
  unfold sp__law_take at h
  repeat (obtain ⟨_, h⟩ := h)
  subst_vars
  rfl
theorem len__law_cells : ∀ ds S Q, sp__law_cells ds S Q → ds.length = 2 := by
  intro ds S Q h
  unfold sp__law_cells at h
  repeat (obtain ⟨_, h⟩ := h)
  subst_vars
  rfl
theorem len__law_with : ∀ ds S Q, sp__law_with ds S Q → ds.length = 3 := by
  intro ds S Q h
  unfold sp__law_with at h
  repeat (obtain ⟨_, h⟩ := h)
  subst_vars
  rfl
theorem len__law_are_gates_right : ∀ ds S Q, sp__law_are_gates_right ds S Q → ds.length = 3 := by
  intro ds S Q h
  unfold sp__law_are_gates_right at h
  repeat (obtain ⟨_, h⟩ := h)
  subst_vars
  rfl
theorem len__law_field : ∀ ds S Q, sp__law_field ds S Q → ds.length = 1 := by
  intro ds S Q h
  unfold sp__law_field at h
  repeat (obtain ⟨_, h⟩ := h)
  subst_vars
  rfl
theorem len__law_right : ∀ ds S Q, sp__law_right ds S Q → ds.length = 1 := by
  intro ds S Q h
  unfold sp__law_right at h
  repeat (obtain ⟨_, h⟩ := h)
  subst_vars
  rfl
theorem len_law : ∀ ds S Q, sp_law ds S Q → ds.length = 1 := by
  intro ds S Q h
  unfold sp_law at h
  repeat (obtain ⟨_, h⟩ := h)
  subst_vars
  rfl
section
variable {P : Program} {w : World} {K : PySem.W.Frag} {mg : Str → Option Value} {base : Heap}
structure Blt (mg : Str → Option Value) : Prop where
  b_abs : mg "abs" = none
  b_all : mg "all" = none
  b_bool : mg "bool" = none
  b_enumerate : mg "enumerate" = none
  b_int : mg "int" = none
  b_isinstance : mg "isinstance" = none
  b_len : mg "len" = none
  b_list : mg "list" = none
  b_max : mg "max" = none
  b_min : mg "min" = none
  b_range : mg "range" = none
  b_set : mg "set" = none
  b_sorted : mg "sorted" = none
  b_str : mg "str" = none
  b_sum : mg "sum" = none
  b_tuple : mg "tuple" = none
  b_zip : mg "zip" = none
  c_MOST_GATES : ∃ t, mg "MOST_GATES" = some (.int 200 t)
  c_MOST_ROOMS : ∃ t, mg "MOST_ROOMS" = some (.int 40 t)
  c_MOST_THROUGH : ∃ t, mg "MOST_THROUGH" = some (.int 1000000 t)
  c_THROUGH : ∃ t, mg "THROUGH" = some (.str "through" t)
theorem sc_is_int : FnScope N_is_int ["value", "low", "high"] (defScope s_is_int) := ⟨rfl, rfl, rfl, by decide +kernel, rfl, by decide +kernel, by decide +kernel⟩
theorem ok_is_int (B : Blt mg) (O : Own K mg "is_int" s_is_int)  : Has P w K mg base 1 "is_int" ["value", "low", "high"] sp_is_int :=
  has_of (N := N_is_int) (τ := t_is_int ) O sc_is_int (len_is_int) (fun _ _ _ _ _ _ us hl => match us, hl with | [_, _, _], _ => rfl) (fun f cdv A outer s H E hr =>
  (dss_one (ds_ret (de_and (de_isi "int" B.b_isinstance B.b_int (by decide +kernel) (dv 0)) (de_and (de_not (de_isi "bool" B.b_isinstance B.b_bool (by decide +kernel) (dv 0))) (de_one (de_chain p_le p_le (dv 1) (dv 0) (dv 2)))))))) pure_is_int
theorem sc_are_ints : FnScope N_are_ints ["value", "low", "high"] (defScope s_are_ints) := ⟨rfl, rfl, rfl, by decide +kernel, rfl, by decide +kernel, by decide +kernel⟩
theorem ok_are_ints (B : Blt mg) (O : Own K mg "are_ints" s_are_ints) (H_is_int : Has P w K mg base 1 "is_int" ["value", "low", "high"] sp_is_int) : Has P w K mg base 2 "are_ints" ["value", "low", "high"] sp_are_ints :=
  has_of (N := N_are_ints) (τ := t_are_ints sp_is_int) O sc_are_ints (len_are_ints) (fun _ _ _ _ _ _ us hl => match us, hl with | [_, _, _], _ => rfl) (fun f cdv A outer s H E hr =>
  (dss_one (ds_ret (de_and (de_isi "tuple" B.b_isinstance B.b_tuple (by decide +kernel) (dv 0)) (de_one (de_callB (p_all rfl) B.b_all (by decide +kernel) (da_cons (de_lc (r := false) (own := [("one", 3)]) sc_are_ints.nd (di_sq (dv 0)) (blk_of (by kernel_rfl)) (by decide) (fun _ _ _ _ _ => (dg_name 3 sc_are_ints.nd)) (fun _ _ _ _ _ => dts_nil) (fun _ _ _ _ _ => (de_own H_is_int hr (da_cons (dv 3) (da_cons (dv 1) (da_cons (dv 2) da_nil)))))) da_nil))))))) pure_are_ints
theorem sc_is_told : FnScope N_is_told ["value", "sizes"] (defScope s_is_told) := ⟨rfl, rfl, rfl, by decide +kernel, rfl, by decide +kernel, by decide +kernel⟩
theorem ok_is_told (B : Blt mg) (O : Own K mg "is_told" s_is_told)  : Has P w K mg base 1 "is_told" ["value", "sizes"] sp_is_told :=
  has_of (N := N_is_told) (τ := t_is_told ) O sc_is_told (len_is_told) (fun _ _ _ _ _ _ us hl => match us, hl with | [_, _], _ => rfl) (fun f cdv A outer s H E hr =>
  (dss_one (ds_ret (de_and (de_isi "tuple" B.b_isinstance B.b_tuple (by decide +kernel) (dv 0)) (de_and (de_cmp (p_in hr.units) (de_callB p_len B.b_len (by decide +kernel) (da_cons (dv 0) da_nil)) (dv 1) rfl) (de_one (de_isi "str" B.b_isinstance B.b_str (by decide +kernel) (de_ix p_ix (dv 0) de_int)))))))) pure_is_told
theorem sc_are_gates : FnScope N_are_gates ["rooms", "value"] (defScope s_are_gates) := ⟨rfl, rfl, rfl, by decide +kernel, rfl, by decide +kernel, by decide +kernel⟩
theorem ok_are_gates (B : Blt mg) (O : Own K mg "are_gates" s_are_gates) (H_are_ints : Has P w K mg base 2 "are_ints" ["value", "low", "high"] sp_are_ints) : Has P w K mg base 3 "are_gates" ["rooms", "value"] sp_are_gates :=
  has_of (N := N_are_gates) (τ := t_are_gates sp_are_ints) O sc_are_gates (len_are_gates) (fun _ _ _ _ _ _ us hl => match us, hl with | [_, _], _ => rfl) (fun f cdv A outer s H E hr =>
  (dss_cons (ds_if (dt_w (dw_or (dt_not (dt_val (de_isi "tuple" B.b_isinstance B.b_tuple (by decide +kernel) (dv 1)))) (dw_or1 (dt_cmp p_gt (de_callB p_len B.b_len (by decide +kernel) (da_cons (dv 1) da_nil)) (de_gint B.c_MOST_GATES) rfl)))) (dss_one (ds_ret de_bl)) dss_nil)
  (dss_cons (ds_if (dt_not (dt_val (de_callB (p_all rfl) B.b_all (by decide +kernel) (da_cons (de_lc (r := false) (own := [("gate", 2)]) sc_are_gates.nd (di_sq (dv 1)) (blk_of (by kernel_rfl)) (by decide) (fun _ _ _ _ _ => (dg_name 2 sc_are_gates.nd)) (fun _ _ _ _ _ => dts_nil) (fun _ _ _ _ _ => (de_and (de_own H_are_ints hr (da_cons (dv 2) (da_cons de_int (da_cons (de_gint B.c_MOST_THROUGH) da_nil)))) (de_one (de_cmp (p_eq hr.units) (de_callB p_len B.b_len (by decide +kernel) (da_cons (dv 2) da_nil)) (de_op (p_add (r := false)) de_int de_int) rfl))))) da_nil)))) (dss_one (ds_ret de_bl)) dss_nil)
  (dss_one (ds_ret (de_callB (p_all rfl) B.b_all (by decide +kernel) (da_cons (de_lc (r := false) (own := [("gate", 2)]) sc_are_gates.nd (di_sq (dv 1)) (blk_of (by kernel_rfl)) (by decide) (fun _ _ _ _ _ => (dg_name 2 sc_are_gates.nd)) (fun _ _ _ _ _ => dts_nil) (fun _ _ _ _ _ => (de_and (de_cmp p_lt (de_ix p_ix (dv 2) de_int) (dv 0) rfl) (de_and (de_cmp p_lt (de_ix p_ix (dv 2) de_int) (dv 0) rfl) (de_one (de_cmp (p_ne hr.units) (de_ix p_ix (dv 2) de_int) (de_ix p_ix (dv 2) de_int) rfl)))))) da_nil))))))) pure_are_gates
theorem sc_look_at_gates : FnScope N_look_at_gates ["rooms", "gates"] (defScope s_look_at_gates) := ⟨rfl, rfl, rfl, by decide +kernel, rfl, by decide +kernel, by decide +kernel⟩
theorem ok_look_at_gates (B : Blt mg) (O : Own K mg "look_at_gates" s_look_at_gates) (H_is_int : Has P w K mg base 1 "is_int" ["value", "low", "high"] sp_is_int) (H_are_gates : Has P w K mg base 3 "are_gates" ["rooms", "value"] sp_are_gates) : Has P w K mg base 4 "look_at_gates" ["rooms", "gates"] sp_look_at_gates :=
  has_of (N := N_look_at_gates) (τ := t_look_at_gates sp_is_int sp_are_gates) O sc_look_at_gates (len_look_at_gates) (fun _ _ _ _ _ _ us hl => match us, hl with | [_, _], _ => rfl) (fun f cdv A outer s H E hr =>
  (dss_cons (ds_if (dt_not (dt_val (de_own H_is_int hr (da_cons (dv 0) (da_cons de_int (da_cons (de_gint B.c_MOST_ROOMS) da_nil)))))) (dss_one ds_never) dss_nil)
  (dss_one (ds_if (dt_not (dt_val (de_own H_are_gates hr (da_cons (dv 0) (da_cons (dv 1) da_nil))))) (dss_one ds_never) dss_nil)))) pure_look_at_gates
theorem sc_told_ways : FnScope N_told_ways ["gates", "used", "start"] (defScope s_told_ways) := ⟨rfl, rfl, rfl, by decide +kernel, rfl, by decide +kernel, by decide +kernel⟩
theorem ok_told_ways (B : Blt mg) (O : Own K mg "told_ways" s_told_ways)  : Has P w K mg base 1 "told_ways" ["gates", "used", "start"] sp_told_ways :=
  has_of (N := N_told_ways) (τ := t_told_ways ) O sc_told_ways (len_told_ways) (fun _ _ _ _ _ _ us hl => match us, hl with | [_, _, _], _ => rfl) (fun f cdv A outer s H E hr =>
  (dss_cons (ds_par2 3 4 sc_told_ways.nd (da_cons (de_done (dv 2) de_non) (da_cons (de_lst (r := true) (da_cons (dv 2) da_nil)) da_nil)))
  (dss_cons (ds_while PassesOwn.never (dt_cmp (p_ne hr.units) (dv 4) (de_lst (r := false) da_nil) rfl)
  (dss_cons (ds_set 5 sc_told_ways.nd (de_bm PySem.F.plainAttrs_list PySem.F.slot_list_pop PySem.F.type_list_pop m_popAt (dv 4) (da_cons de_int da_nil)))
  (dss_one (ds_for PassesOwn.never (di_enum B.b_enumerate (dv 0)) (dg_tup (dgs_cons (dg_name 6 sc_told_ways.nd) (dgs_cons (dg_tup (dgs_cons (dg_name 7 sc_told_ways.nd) (dgs_cons (dg_name 8 sc_told_ways.nd) (dgs_cons (dg_name 9 sc_told_ways.nd) dgs_nil)))) dgs_nil)))
  (dss_cons (ds_if (dt_w (dw_and (dt_cmp (p_eq hr.units) (dv 7) (dv 5) rfl) (dw_and (dt_cmp (p_dnotin hr.units) (dv 8) (dv 3) rfl) (dw_and1 (dt_cmp p_lt (de_ix p_ix (dv 1) (dv 6)) (dv 9) rfl))))) (dss_cons (ds_asg (de_tup (da_cons (dv 6) (da_cons de_int da_nil))) (dg_sub (dv 3) (dv 8) (p_dset hr.units)))
  (dss_one (ds_expr (de_bm PySem.F.plainAttrs_list PySem.F.slot_list_append PySem.F.type_list_append m_append (dv 4) (da_cons (dv 8) da_nil))))) dss_nil)
  (dss_one (ds_if (dt_w (dw_and (dt_cmp (p_eq hr.units) (dv 8) (dv 5) rfl) (dw_and (dt_cmp (p_dnotin hr.units) (dv 7) (dv 3) rfl) (dw_and1 (dt_cmp p_gt (de_ix p_ix (dv 1) (dv 6)) de_int rfl))))) (dss_cons (ds_asg (de_tup (da_cons (dv 6) (da_cons (de_neg de_int) da_nil))) (dg_sub (dv 3) (dv 7) (p_dset hr.units)))
  (dss_one (ds_expr (de_bm PySem.F.plainAttrs_list PySem.F.slot_list_append PySem.F.type_list_append m_append (dv 4) (da_cons (dv 7) da_nil))))) dss_nil)))))))
  (dss_one (ds_ret (dv 3)))))) pure_told_ways
theorem sc_told_flow : FnScope N_told_flow ["gates", "start", "goal"] (defScope s_told_flow) := ⟨rfl, rfl, rfl, by decide +kernel, rfl, by decide +kernel, by decide +kernel⟩
theorem ok_told_flow (B : Blt mg) (O : Own K mg "told_flow" s_told_flow) (H_told_ways : Has P w K mg base 1 "told_ways" ["gates", "used", "start"] sp_told_ways) : Has P w K mg base 2 "told_flow" ["gates", "start", "goal"] sp_told_flow :=
  has_of (N := N_told_flow) (τ := t_told_flow sp_told_ways) O sc_told_flow (len_told_flow) (fun _ _ _ _ _ _ us hl => match us, hl with | [_, _, _], _ => rfl) (fun f cdv A outer s H E hr =>
  (dss_cons (ds_set 3 sc_told_flow.nd (de_op (p_mulA (r := true)) (de_lst (r := false) (da_cons de_int da_nil)) (de_callB p_len B.b_len (by decide +kernel) (da_cons (dv 0) da_nil))))
  (dss_one (ds_while PassesOwn.never (dt_val de_bl)
  (dss_cons (ds_set 4 sc_told_flow.nd (de_own H_told_ways hr (da_cons (dv 0) (da_cons (dv 3) (da_cons (dv 1) da_nil)))))
  (dss_cons (ds_if (dt_cmp (p_dnotin hr.units) (dv 2) (dv 4) rfl) (dss_one (ds_ret (de_tup (da_cons (dv 3) (da_cons (dv 4) da_nil))))) dss_nil)
  (dss_cons (ds_par2 5 6 sc_told_flow.nd (da_cons (de_lst (r := true) da_nil) (da_cons (dv 2) da_nil)))
  (dss_cons (ds_while PassesOwn.never (dt_cmp p_notN (de_ix (p_dget hr.units) (dv 4) (dv 6)) de_non rfl)
  (dss_cons (ds_asg (de_ix (p_dget hr.units) (dv 4) (dv 6)) (dg_tup (dgs_cons (dg_name 7 sc_told_flow.nd) (dgs_cons (dg_name 8 sc_told_flow.nd) dgs_nil))))
  (dss_cons (ds_expr (de_bm PySem.F.plainAttrs_list PySem.F.slot_list_append PySem.F.type_list_append m_append (dv 5) (da_cons (de_tup (da_cons (dv 7) (da_cons (dv 8) da_nil))) da_nil)))
  (dss_one (ds_set 6 sc_told_flow.nd (de_if (dt_cmp (p_eq hr.units) (dv 8) de_int rfl) (de_ix p_ix (de_ix p_ix (dv 0) (dv 7)) de_int) (de_ix p_ix (de_ix p_ix (dv 0) (dv 7)) de_int)))))))
  (dss_cons (ds_set 9 sc_told_flow.nd (de_callB (p_min hr.units rfl) B.b_min (by decide +kernel) (da_cons (de_lc (r := false) (own := [("at", 7), ("way", 8)]) sc_told_flow.nd (di_sq (dv 5)) (blk_of (by kernel_rfl)) (by decide) (fun _ _ _ _ _ => (dg_tup (dgs_cons (dg_name 7 sc_told_flow.nd) (dgs_cons (dg_name 8 sc_told_flow.nd) dgs_nil)))) (fun _ _ _ _ _ => dts_nil) (fun _ _ _ _ _ => (de_if (dt_cmp (p_eq hr.units) (dv 8) de_int rfl) (de_op p_sub (de_ix p_ix (de_ix p_ix (dv 0) (dv 7)) de_int) (de_ix p_ix (dv 3) (dv 7))) (de_ix p_ix (dv 3) (dv 7))))) da_nil)))
  (dss_one (ds_for PassesOwn.never (di_sq (dv 5)) (dg_tup (dgs_cons (dg_name 7 sc_told_flow.nd) (dgs_cons (dg_name 8 sc_told_flow.nd) dgs_nil)))
  (dss_one (ds_augS (dv 3) (dv 7) p_get (de_op (p_mulA (r := false)) (dv 8) (dv 9)) p_iadd p_set))))))))))))) pure_told_flow
theorem sc_told_out : FnScope N_told_out ["gates", "used", "room"] (defScope s_told_out) := ⟨rfl, rfl, rfl, by decide +kernel, rfl, by decide +kernel, by decide +kernel⟩
theorem ok_told_out (B : Blt mg) (O : Own K mg "told_out" s_told_out)  : Has P w K mg base 1 "told_out" ["gates", "used", "room"] sp_told_out :=
  has_of (N := N_told_out) (τ := t_told_out ) O sc_told_out (len_told_out) (fun _ _ _ _ _ _ us hl => match us, hl with | [_, _, _], _ => rfl) (fun f cdv A outer s H E hr =>
  (dss_cons (ds_set 3 sc_told_out.nd (de_callB (p_sum rfl) B.b_sum (by decide +kernel) (da_cons (de_lc (r := false) (own := [("one", 4), ("other", 5), ("most", 6), ("many", 7)]) sc_told_out.nd (di_zip2 B.b_zip (dv 0) (dv 1)) (blk_of (by kernel_rfl)) (by decide) (fun _ _ _ _ _ => (dg_tup (dgs_cons (dg_tup (dgs_cons (dg_name 4 sc_told_out.nd) (dgs_cons (dg_name 5 sc_told_out.nd) (dgs_cons (dg_name 6 sc_told_out.nd) dgs_nil)))) (dgs_cons (dg_name 7 sc_told_out.nd) dgs_nil)))) (fun _ _ _ _ _ => (dts_one (dt_cmp (p_eq hr.units) (dv 4) (dv 2) rfl))) (fun _ _ _ _ _ => (dv 7))) da_nil)))
  (dss_one (ds_ret (de_op p_sub (dv 3) (de_callB (p_sum rfl) B.b_sum (by decide +kernel) (da_cons (de_lc (r := false) (own := [("one", 4), ("other", 5), ("most", 6), ("many", 7)]) sc_told_out.nd (di_zip2 B.b_zip (dv 0) (dv 1)) (blk_of (by kernel_rfl)) (by decide) (fun _ _ _ _ _ => (dg_tup (dgs_cons (dg_tup (dgs_cons (dg_name 4 sc_told_out.nd) (dgs_cons (dg_name 5 sc_told_out.nd) (dgs_cons (dg_name 6 sc_told_out.nd) dgs_nil)))) (dgs_cons (dg_name 7 sc_told_out.nd) dgs_nil)))) (fun _ _ _ _ _ => (dts_one (dt_cmp (p_eq hr.units) (dv 5) (dv 2) rfl))) (fun _ _ _ _ _ => (dv 7))) da_nil))))))) pure_told_out
theorem sc_told_cut : FnScope N_told_cut ["gates", "rooms"] (defScope s_told_cut) := ⟨rfl, rfl, rfl, by decide +kernel, rfl, by decide +kernel, by decide +kernel⟩
theorem ok_told_cut (B : Blt mg) (O : Own K mg "told_cut" s_told_cut)  : Has P w K mg base 1 "told_cut" ["gates", "rooms"] sp_told_cut :=
  has_of (N := N_told_cut) (τ := t_told_cut ) O sc_told_cut (len_told_cut) (fun _ _ _ _ _ _ us hl => match us, hl with | [_, _], _ => rfl) (fun f cdv A outer s H E hr =>
  (dss_one (ds_ret (de_callB (p_sum rfl) B.b_sum (by decide +kernel) (da_cons (de_lc (r := false) (own := [("one", 2), ("other", 3), ("most", 4)]) sc_told_cut.nd (di_sq (dv 0)) (blk_of (by kernel_rfl)) (by decide) (fun _ _ _ _ _ => (dg_tup (dgs_cons (dg_name 2 sc_told_cut.nd) (dgs_cons (dg_name 3 sc_told_cut.nd) (dgs_cons (dg_name 4 sc_told_cut.nd) dgs_nil))))) (fun _ _ _ _ _ => (dts_one (dt_w (dw_and (dt_cmp (p_in hr.units) (dv 2) (dv 1) rfl) (dw_and1 (dt_cmp (p_notIn hr.units) (dv 3) (dv 1) rfl)))))) (fun _ _ _ _ _ => (dv 4))) da_nil))))) pure_told_cut
theorem sc_through : FnScope N_through ["rooms", "gates"] (defScope s_through) := ⟨rfl, rfl, rfl, by decide +kernel, rfl, by decide +kernel, by decide +kernel⟩
theorem ok_through (B : Blt mg) (O : Own K mg "through" s_through) (H_look_at_gates : Has P w K mg base 4 "look_at_gates" ["rooms", "gates"] sp_look_at_gates) (H_told_flow : Has P w K mg base 2 "told_flow" ["gates", "start", "goal"] sp_told_flow) (H_told_out : Has P w K mg base 1 "told_out" ["gates", "used", "room"] sp_told_out) : Has P w K mg base 5 "through" ["rooms", "gates"] sp_through :=
  has_of (N := N_through) (τ := t_through sp_look_at_gates sp_told_flow sp_told_out) O sc_through (len_through) (fun _ _ _ _ _ _ us hl => match us, hl with | [_, _], _ => rfl) (fun f cdv A outer s H E hr =>
  (dss_cons (ds_expr (de_own H_look_at_gates hr (da_cons (dv 0) (da_cons (dv 1) da_nil))))
  (dss_cons (ds_asg (de_own H_told_flow hr (da_cons (dv 1) (da_cons de_int (da_cons (de_op p_sub (dv 0) de_int) da_nil)))) (dg_tup (dgs_cons (dg_name 2 sc_through.nd) (dgs_cons (dg_name 3 sc_through.nd) dgs_nil))))
  (dss_one (ds_ret (de_tup (da_cons (de_gstr B.c_THROUGH) (da_cons (de_own H_told_out hr (da_cons (dv 1) (da_cons (dv 2) (da_cons de_int da_nil)))) (da_cons (de_callTy p_tuple B.b_tuple (by decide +kernel) (da_cons (dv 2) da_nil)) (da_cons (de_callTy p_tuple B.b_tuple (by decide +kernel) (da_cons (de_callB (p_sortedD rfl (r := false)) B.b_sorted (by decide +kernel) (da_cons (dv 3) da_nil)) da_nil)) da_nil)))))))))) pure_through
theorem sc_are_used : FnScope N_are_used ["rooms", "gates", "value"] (defScope s_are_used) := ⟨rfl, rfl, rfl, by decide +kernel, rfl, by decide +kernel, by decide +kernel⟩
theorem ok_are_used (B : Blt mg) (O : Own K mg "are_used" s_are_used) (H_are_ints : Has P w K mg base 2 "are_ints" ["value", "low", "high"] sp_are_ints) (H_told_out : Has P w K mg base 1 "told_out" ["gates", "used", "room"] sp_told_out) : Has P w K mg base 3 "are_used" ["rooms", "gates", "value"] sp_are_used :=
  has_of (N := N_are_used) (τ := t_are_used sp_are_ints sp_told_out) O sc_are_used (len_are_used) (fun _ _ _ _ _ _ us hl => match us, hl with | [_, _, _], _ => rfl) (fun f cdv A outer s H E hr =>
  (dss_cons (ds_if (dt_w (dw_or (dt_not (dt_val (de_own H_are_ints hr (da_cons (dv 2) (da_cons de_int (da_cons (de_gint B.c_MOST_THROUGH) da_nil)))))) (dw_or1 (dt_cmp (p_ne hr.units) (de_callB p_len B.b_len (by decide +kernel) (da_cons (dv 2) da_nil)) (de_callB p_len B.b_len (by decide +kernel) (da_cons (dv 1) da_nil)) rfl)))) (dss_one (ds_ret de_bl)) dss_nil)
  (dss_cons (ds_if (dt_not (dt_val (de_callB (p_all rfl) B.b_all (by decide +kernel) (da_cons (de_lc (r := false) (own := [("one", 3), ("other", 4), ("most", 5), ("many", 6)]) sc_are_used.nd (di_zip2 B.b_zip (dv 1) (dv 2)) (blk_of (by kernel_rfl)) (by decide) (fun _ _ _ _ _ => (dg_tup (dgs_cons (dg_tup (dgs_cons (dg_name 3 sc_are_used.nd) (dgs_cons (dg_name 4 sc_are_used.nd) (dgs_cons (dg_name 5 sc_are_used.nd) dgs_nil)))) (dgs_cons (dg_name 6 sc_are_used.nd) dgs_nil)))) (fun _ _ _ _ _ => dts_nil) (fun _ _ _ _ _ => (de_cmp p_le (dv 6) (dv 5) rfl))) da_nil)))) (dss_one (ds_ret de_bl)) dss_nil)
  (dss_one (ds_ret (de_callB (p_all rfl) B.b_all (by decide +kernel) (da_cons (de_lc (r := false) (own := [("room", 7)]) sc_are_used.nd (di_range2 B.b_range de_int (de_op p_sub (dv 0) de_int)) (blk_of (by kernel_rfl)) (by decide) (fun _ _ _ _ _ => (dg_name 7 sc_are_used.nd)) (fun _ _ _ _ _ => dts_nil) (fun _ _ _ _ _ => (de_cmp (p_eq hr.units) (de_own H_told_out hr (da_cons (dv 1) (da_cons (dv 2) (da_cons (dv 7) da_nil)))) de_int rfl))) da_nil))))))) pure_are_used
theorem sc_shows_through : FnScope N_shows_through ["rooms", "gates", "value"] (defScope s_shows_through) := ⟨rfl, rfl, rfl, by decide +kernel, rfl, by decide +kernel, by decide +kernel⟩
theorem ok_shows_through (B : Blt mg) (O : Own K mg "shows_through" s_shows_through) (H_look_at_gates : Has P w K mg base 4 "look_at_gates" ["rooms", "gates"] sp_look_at_gates) (H_is_told : Has P w K mg base 1 "is_told" ["value", "sizes"] sp_is_told) (H_are_used : Has P w K mg base 3 "are_used" ["rooms", "gates", "value"] sp_are_used) (H_are_ints : Has P w K mg base 2 "are_ints" ["value", "low", "high"] sp_are_ints) (H_told_out : Has P w K mg base 1 "told_out" ["gates", "used", "room"] sp_told_out) (H_told_cut : Has P w K mg base 1 "told_cut" ["gates", "rooms"] sp_told_cut) (H_is_int : Has P w K mg base 1 "is_int" ["value", "low", "high"] sp_is_int) : Has P w K mg base 5 "shows_through" ["rooms", "gates", "value"] sp_shows_through :=
  has_of (N := N_shows_through) (τ := t_shows_through sp_look_at_gates sp_is_told sp_are_used sp_are_ints sp_told_out sp_told_cut sp_is_int) O sc_shows_through (len_shows_through) (fun _ _ _ _ _ _ us hl => match us, hl with | [_, _, _], _ => rfl) (fun f cdv A outer s H E hr =>
  (dss_cons (ds_expr (de_own H_look_at_gates hr (da_cons (dv 0) (da_cons (dv 1) da_nil))))
  (dss_cons (ds_if (dt_w (dw_or (dt_not (dt_val (de_own H_is_told hr (da_cons (dv 2) (da_cons (de_tup (da_cons (de_op (p_add (r := false)) de_int de_int) da_nil)) da_nil))))) (dw_or (dt_cmp (p_ne hr.units) (de_ix p_ix (dv 2) de_int) (de_gstr B.c_THROUGH) rfl) (dw_or1 (dt_not (dt_val (de_own H_are_used hr (da_cons (dv 0) (da_cons (dv 1) (da_cons (de_ix p_ix (dv 2) de_int) da_nil)))))))))) (dss_one (ds_ret de_bl)) dss_nil)
  (dss_cons (ds_set 3 sc_shows_through.nd (de_ix p_ix (dv 2) (de_neg de_int)))
  (dss_cons (ds_if (dt_w (dw_or (dt_not (dt_val (de_own H_are_ints hr (da_cons (dv 3) (da_cons de_int (da_cons (de_op p_sub (dv 0) de_int) da_nil)))))) (dw_or (dt_cmp (p_ne hr.units) (de_callTy (p_list (r := false)) B.b_list (by decide +kernel) (da_cons (dv 3) da_nil)) (de_sortSet (r := false) B.b_sorted B.b_set (dv 3)) rfl) (dw_or1 (dt_cmp (p_notIn hr.units) de_int (dv 3) rfl))))) (dss_one (ds_ret de_bl)) dss_nil)
  (dss_cons (ds_set 4 sc_shows_through.nd (de_own H_told_out hr (da_cons (dv 1) (da_cons (de_ix p_ix (dv 2) de_int) (da_cons de_int da_nil)))))
  (dss_one (ds_ret (de_and (de_own H_is_int hr (da_cons (de_ix p_ix (dv 2) de_int) (da_cons (dv 4) (da_cons (dv 4) da_nil)))) (de_one (de_cmp (p_eq hr.units) (dv 4) (de_own H_told_cut hr (da_cons (dv 1) (da_cons (dv 3) da_nil))) rfl))))))))))) pure_shows_through
theorem sc_how_many_through : FnScope N_how_many_through ["rooms", "gates"] (defScope s_how_many_through) := ⟨rfl, rfl, rfl, by decide +kernel, rfl, by decide +kernel, by decide +kernel⟩
theorem ok_how_many_through (B : Blt mg) (O : Own K mg "how_many_through" s_how_many_through) (H_look_at_gates : Has P w K mg base 4 "look_at_gates" ["rooms", "gates"] sp_look_at_gates) (H_told_out : Has P w K mg base 1 "told_out" ["gates", "used", "room"] sp_told_out) (H_told_flow : Has P w K mg base 2 "told_flow" ["gates", "start", "goal"] sp_told_flow) : Has P w K mg base 5 "how_many_through" ["rooms", "gates"] sp_how_many_through :=
  has_of (N := N_how_many_through) (τ := t_how_many_through sp_look_at_gates sp_told_out sp_told_flow) O sc_how_many_through (len_how_many_through) (fun _ _ _ _ _ _ us hl => match us, hl with | [_, _], _ => rfl) (fun f cdv A outer s H E hr =>
  (dss_cons (ds_expr (de_own H_look_at_gates hr (da_cons (dv 0) (da_cons (dv 1) da_nil))))
  (dss_one (ds_ret (de_own H_told_out hr (da_cons (dv 1) (da_cons (de_ix p_ix (de_own H_told_flow hr (da_cons (dv 1) (da_cons de_int (da_cons (de_op p_sub (dv 0) de_int) da_nil)))) de_int) (da_cons de_int da_nil)))))))) pure_how_many_through
theorem sc_gates_that_bar : FnScope N_gates_that_bar ["rooms", "gates"] (defScope s_gates_that_bar) := ⟨rfl, rfl, rfl, by decide +kernel, rfl, by decide +kernel, by decide +kernel⟩
theorem ok_gates_that_bar (B : Blt mg) (O : Own K mg "gates_that_bar" s_gates_that_bar) (H_look_at_gates : Has P w K mg base 4 "look_at_gates" ["rooms", "gates"] sp_look_at_gates) (H_told_flow : Has P w K mg base 2 "told_flow" ["gates", "start", "goal"] sp_told_flow) (H_told_ways : Has P w K mg base 1 "told_ways" ["gates", "used", "start"] sp_told_ways) : Has P w K mg base 5 "gates_that_bar" ["rooms", "gates"] sp_gates_that_bar :=
  has_of (N := N_gates_that_bar) (τ := t_gates_that_bar sp_look_at_gates sp_told_flow sp_told_ways) O sc_gates_that_bar (len_gates_that_bar) (fun _ _ _ _ _ _ us hl => match us, hl with | [_, _], _ => rfl) (fun f cdv A outer s H E hr =>
  (dss_cons (ds_expr (de_own H_look_at_gates hr (da_cons (dv 0) (da_cons (dv 1) da_nil))))
  (dss_cons (ds_asg (de_own H_told_flow hr (da_cons (dv 1) (da_cons de_int (da_cons (de_op p_sub (dv 0) de_int) da_nil)))) (dg_tup (dgs_cons (dg_name 2 sc_gates_that_bar.nd) (dgs_cons (dg_name 3 sc_gates_that_bar.nd) dgs_nil))))
  (dss_cons (ds_set 4 sc_gates_that_bar.nd (de_own H_told_ways hr (da_cons (de_lc (r := false) (own := [("one", 5), ("other", 6), ("most", 7)]) sc_gates_that_bar.nd (di_sq (dv 1)) (blk_of (by kernel_rfl)) (by decide) (fun _ _ _ _ _ => (dg_tup (dgs_cons (dg_name 5 sc_gates_that_bar.nd) (dgs_cons (dg_name 6 sc_gates_that_bar.nd) (dgs_cons (dg_name 7 sc_gates_that_bar.nd) dgs_nil))))) (fun _ _ _ _ _ => dts_nil) (fun _ _ _ _ _ => (de_tup (da_cons (dv 6) (da_cons (dv 5) (da_cons (dv 7) da_nil)))))) (da_cons (dv 2) (da_cons (de_op p_sub (dv 0) de_int) da_nil)))))
  (dss_one (ds_ret (de_callTy p_tuple B.b_tuple (by decide +kernel) (da_cons (de_lc (r := false) (own := [("at", 8), ("one", 5), ("other", 6), ("most", 7)]) sc_gates_that_bar.nd (di_enum B.b_enumerate (dv 1)) (blk_of (by kernel_rfl)) (by decide) (fun _ _ _ _ _ => (dg_tup (dgs_cons (dg_name 8 sc_gates_that_bar.nd) (dgs_cons (dg_tup (dgs_cons (dg_name 5 sc_gates_that_bar.nd) (dgs_cons (dg_name 6 sc_gates_that_bar.nd) (dgs_cons (dg_name 7 sc_gates_that_bar.nd) dgs_nil)))) dgs_nil)))) (fun _ _ _ _ _ => (dts_one (dt_w (dw_and (dt_cmp (p_din hr.units) (dv 5) (dv 3) rfl) (dw_and1 (dt_cmp (p_din hr.units) (dv 6) (dv 4) rfl)))))) (fun _ _ _ _ _ => (dv 8))) da_nil)))))))) pure_gates_that_bar
theorem sc__law_pot : FnScope N__law_pot ["script", "place"] (defScope s__law_pot) := ⟨rfl, rfl, rfl, by decide +kernel, rfl, by decide +kernel, by decide +kernel⟩
theorem ok__law_pot (B : Blt mg) (O : Own K mg "_law_pot" s__law_pot)  : Has P w K mg base 1 "_law_pot" ["script", "place"] sp__law_pot :=
  has_of (N := N__law_pot) (τ := t__law_pot ) O sc__law_pot (len__law_pot) (fun _ _ _ _ _ _ us hl => match us, hl with | [_, _], _ => rfl) (fun f cdv A outer s H E hr =>
  (dss_cons (ds_set 2 sc__law_pot.nd (de_if (dt_cmp p_lt (dv 1) (de_callB p_len B.b_len (by decide +kernel) (da_cons (dv 0) da_nil)) rfl) (de_ix p_ix (dv 0) (dv 1)) (de_op (p_add (r := false)) (de_op (p_add (r := false)) (de_op p_mod (de_callTy p_int B.b_int (by decide +kernel) (da_cons (de_callB (p_sum rfl) B.b_sum (by decide +kernel) (da_cons (de_slice (p_sl (r := false)) (dv 0) do_none (do_some de_int)) da_nil)) da_nil)) de_int) (de_op (p_mulA (r := false)) de_int (dv 1))) de_int)))
  (dss_cons (ds_set 3 sc__law_pot.nd (de_op (p_mulA (r := false)) (de_op p_mod (de_callTy p_int B.b_int (by decide +kernel) (da_cons (de_callB p_abs B.b_abs (by decide +kernel) (da_cons (dv 2) da_nil)) da_nil)) (de_op p_pow (de_op p_pow de_int de_int) de_int)) (de_callTy p_int B.b_int (by decide +kernel) (da_cons (de_cmp p_ge (de_callB p_abs B.b_abs (by decide +kernel) (da_cons (dv 2) da_nil)) (de_op p_pow de_int de_int) rfl) da_nil))))
  (dss_cons (ds_set 4 sc__law_pot.nd (de_op p_mod (de_callTy p_int B.b_int (by decide +kernel) (da_cons (dv 2) da_nil)) de_int))
  (dss_one (ds_ret (de_lst (r := true) (da_cons (dv 3) (da_cons (de_op p_mod (de_callTy p_int B.b_int (by decide +kernel) (da_cons (de_op (p_add (r := false)) (de_op (p_add (r := false)) (de_op (p_mulA (r := false)) (dv 4) de_int) (de_op (p_mulA (r := false)) (de_op (p_mulA (r := false)) de_int (dv 1)) (dv 1))) de_int) da_nil)) de_int) (da_cons de_int da_nil)))))))))) pure__law_pot
theorem sc__law_take : FnScope N__law_take ["pot", "upto"] (defScope s__law_take) := ⟨rfl, rfl, rfl, by decide +kernel, rfl, by decide +kernel, by decide +kernel⟩
theorem ok__law_take (B : Blt mg) (O : Own K mg "_law_take" s__law_take)  : Has P w K mg base 1 "_law_take" ["pot", "upto"] sp__law_take :=
  has_of (N := N__law_take) (τ := t__law_take ) O sc__law_take (len__law_take) (fun _ _ _ _ _ _ us hl => match us, hl with | [_, _], _ => rfl) (fun f cdv A outer s H E hr =>
  (dss_cons (ds_if (dt_cmp p_gt (de_ix p_ix (dv 0) de_int) de_int rfl) (dss_cons (ds_set 2 sc__law_take.nd (de_op p_mod (de_callTy p_int B.b_int (by decide +kernel) (da_cons (de_ix p_ix (dv 0) de_int) da_nil)) (dv 1)))
  (dss_cons (ds_asg (de_op p_fdiv (de_ix p_ix (dv 0) de_int) (dv 1)) (dg_sub (dv 0) de_int p_set))
  (dss_one (ds_ret (dv 2))))) dss_nil)
  (dss_cons (ds_asg (de_op (p_add (r := false)) (de_ix p_ix (dv 0) de_int) de_int) (dg_sub (dv 0) de_int p_set))
  (dss_cons (ds_set 3 sc__law_take.nd (de_ix p_ix (de_lst (r := false) (da_cons de_int (da_cons de_int (da_cons de_int (da_cons de_int (da_cons de_int da_nil)))))) (de_op p_mod (de_callTy p_int B.b_int (by decide +kernel) (da_cons (de_ix p_ix (dv 0) de_int) da_nil)) de_int)))
  (dss_cons (ds_set 4 sc__law_take.nd (de_op p_mod (de_callTy p_int B.b_int (by decide +kernel) (da_cons (de_op p_pow (de_callTy p_int B.b_int (by decide +kernel) (da_cons (de_op (p_add (r := false)) (de_op (p_add (r := false)) (de_ix p_ix (dv 0) de_int) (de_op (p_mulA (r := false)) (de_op (p_mulA (r := false)) de_int (de_ix p_ix (dv 0) de_int)) (de_ix p_ix (dv 0) de_int))) de_int) da_nil)) de_int) da_nil)) (dv 3)))
  (dss_cons (ds_set 4 sc__law_take.nd (de_op p_mod (de_callTy p_int B.b_int (by decide +kernel) (da_cons (de_op (p_mulA (r := false)) (dv 4) (de_op (p_add (r := false)) (de_op p_mod (de_callTy p_int B.b_int (by decide +kernel) (da_cons (dv 4) da_nil)) de_int) (de_op (p_mulA (r := false)) de_int (de_ix p_ix (dv 0) de_int)))) da_nil)) de_int))
  (dss_one (ds_ret (de_op p_mod (de_callTy p_int B.b_int (by decide +kernel) (da_cons (de_op p_fdiv (dv 4) de_int) da_nil)) (dv 1)))))))))) pure__law_take
theorem sc__law_cells : FnScope N__law_cells ["script", "most"] (defScope s__law_cells) := ⟨rfl, rfl, rfl, by decide +kernel, rfl, by decide +kernel, by decide +kernel⟩
theorem ok__law_cells (B : Blt mg) (O : Own K mg "_law_cells" s__law_cells)  : Has P w K mg base 1 "_law_cells" ["script", "most"] sp__law_cells :=
  has_of (N := N__law_cells) (τ := t__law_cells ) O sc__law_cells (len__law_cells) (fun _ _ _ _ _ _ us hl => match us, hl with | [_, _], _ => rfl) (fun f cdv A outer s H E hr =>
  (dss_one (ds_ret (de_listRg (r := false) rfl B.b_list (drg_1 B.b_range (de_callB (p_max hr.units rfl) B.b_max (by decide +kernel) (da_cons de_int (da_cons (de_callB (p_min hr.units rfl) B.b_min (by decide +kernel) (da_cons (dv 1) (da_cons (de_callB p_len B.b_len (by decide +kernel) (da_cons (dv 0) da_nil)) da_nil))) da_nil)))))))) pure__law_cells
theorem sc__law_with : FnScope N__law_with ["gates", "at", "more"] (defScope s__law_with) := ⟨rfl, rfl, rfl, by decide +kernel, rfl, by decide +kernel, by decide +kernel⟩
theorem ok__law_with (B : Blt mg) (O : Own K mg "_law_with" s__law_with)  : Has P w K mg base 1 "_law_with" ["gates", "at", "more"] sp__law_with :=
  has_of (N := N__law_with) (τ := t__law_with ) O sc__law_with (len__law_with) (fun _ _ _ _ _ _ us hl => match us, hl with | [_, _, _], _ => rfl) (fun f cdv A outer s H E hr =>
  (dss_cons (ds_asg (de_ix p_ix (dv 0) (dv 1)) (dg_tup (dgs_cons (dg_name 3 sc__law_with.nd) (dgs_cons (dg_name 4 sc__law_with.nd) (dgs_cons (dg_name 5 sc__law_with.nd) dgs_nil)))))
  (dss_one (ds_ret (de_op (p_add (r := false)) (de_op (p_add (r := false)) (de_slice (p_sl (r := false)) (dv 0) do_none (do_some (dv 1))) (de_tup (da_cons (de_tup (da_cons (dv 3) (da_cons (dv 4) (da_cons (de_op (p_add (r := false)) (dv 5) (dv 2)) da_nil)))) da_nil))) (de_slice (p_sl (r := false)) (dv 0) (do_some (de_op (p_add (r := false)) (dv 1) de_int)) do_none)))))) pure__law_with
theorem sc__law_are_gates_right : FnScope N__law_are_gates_right ["pot", "rooms", "gates"] (defScope s__law_are_gates_right) := ⟨rfl, rfl, rfl, by decide +kernel, rfl, by decide +kernel, by decide +kernel⟩
theorem ok__law_are_gates_right (B : Blt mg) (O : Own K mg "_law_are_gates_right" s__law_are_gates_right) (H_how_many_through : Has P w K mg base 5 "how_many_through" ["rooms", "gates"] sp_how_many_through) (H_gates_that_bar : Has P w K mg base 5 "gates_that_bar" ["rooms", "gates"] sp_gates_that_bar) (H__law_take : Has P w K mg base 1 "_law_take" ["pot", "upto"] sp__law_take) (H__law_with : Has P w K mg base 1 "_law_with" ["gates", "at", "more"] sp__law_with) (H_through : Has P w K mg base 5 "through" ["rooms", "gates"] sp_through) (H_shows_through : Has P w K mg base 5 "shows_through" ["rooms", "gates", "value"] sp_shows_through) : Has P w K mg base 6 "_law_are_gates_right" ["pot", "rooms", "gates"] sp__law_are_gates_right :=
  has_of (N := N__law_are_gates_right) (τ := t__law_are_gates_right sp_how_many_through sp_gates_that_bar sp__law_take sp__law_with sp_through sp_shows_through) O sc__law_are_gates_right (len__law_are_gates_right) (fun _ _ _ _ _ _ us hl => match us, hl with | [_, _, _], _ => rfl) (fun f cdv A outer s H E hr =>
  (dss_cons (ds_par2 3 4 sc__law_are_gates_right.nd (da_cons (de_own H_how_many_through hr (da_cons (dv 1) (da_cons (dv 2) da_nil))) (da_cons (de_own H_gates_that_bar hr (da_cons (dv 1) (da_cons (dv 2) da_nil))) da_nil)))
  (dss_cons (ds_set 5 sc__law_are_gates_right.nd (de_callTy p_tuple B.b_tuple (by decide +kernel) (da_cons (de_lc (r := false) (own := [("one", 6), ("other", 7), ("most", 8)]) sc__law_are_gates_right.nd (di_sq (dv 2)) (blk_of (by kernel_rfl)) (by decide) (fun _ _ _ _ _ => (dg_tup (dgs_cons (dg_name 6 sc__law_are_gates_right.nd) (dgs_cons (dg_name 7 sc__law_are_gates_right.nd) (dgs_cons (dg_name 8 sc__law_are_gates_right.nd) dgs_nil))))) (fun _ _ _ _ _ => dts_nil) (fun _ _ _ _ _ => (de_tup (da_cons (de_op p_sub (de_op p_sub (dv 1) de_int) (dv 7)) (da_cons (de_op p_sub (de_op p_sub (dv 1) de_int) (dv 6)) (da_cons (dv 8) da_nil)))))) da_nil)))
  (dss_cons (ds_if (dt_w (dw_or (dt_cmp (p_ne hr.units) (de_own H_how_many_through hr (da_cons (dv 1) (da_cons (dv 5) da_nil))) (dv 3) rfl) (dw_or1 (dt_cmp (p_ne hr.units) (de_own H_gates_that_bar hr (da_cons (dv 1) (da_cons (dv 5) da_nil))) (dv 4) rfl)))) (dss_one (ds_ret de_bl)) dss_nil)
  (dss_cons (ds_set 9 sc__law_are_gates_right.nd (de_callTy p_tuple B.b_tuple (by decide +kernel) (da_cons (de_lc (r := false) (own := [("one", 6), ("other", 7), ("most", 8)]) sc__law_are_gates_right.nd (di_sq (dv 2)) (blk_of (by kernel_rfl)) (by decide) (fun _ _ _ _ _ => (dg_tup (dgs_cons (dg_name 6 sc__law_are_gates_right.nd) (dgs_cons (dg_name 7 sc__law_are_gates_right.nd) (dgs_cons (dg_name 8 sc__law_are_gates_right.nd) dgs_nil))))) (fun _ _ _ _ _ => dts_nil) (fun _ _ _ _ _ => (de_tup (da_cons (dv 6) (da_cons (dv 7) (da_cons (de_op (p_mulA (r := false)) de_int (dv 8)) da_nil)))))) da_nil)))
  (dss_cons (ds_if (dt_w (dw_or (dt_cmp (p_ne hr.units) (de_own H_how_many_through hr (da_cons (dv 1) (da_cons (dv 9) da_nil))) (de_op (p_mulA (r := false)) de_int (dv 3)) rfl) (dw_or1 (dt_cmp (p_ne hr.units) (de_own H_how_many_through hr (da_cons (dv 1) (da_cons (de_op (p_add (r := false)) (dv 2) (dv 2)) da_nil))) (de_op (p_mulA (r := false)) de_int (dv 3)) rfl)))) (dss_one (ds_ret de_bl)) dss_nil)
  (dss_cons (ds_set 10 sc__law_are_gates_right.nd (de_callTy p_int B.b_int (by decide +kernel) (da_cons (de_own H__law_take hr (da_cons (dv 0) (da_cons de_int da_nil))) da_nil)))
  (dss_cons (ds_if (dt_cmp (p_ne hr.units) (de_own H_how_many_through hr (da_cons (dv 1) (da_cons (de_op (p_add (r := false)) (dv 2) (de_tup (da_cons (de_tup (da_cons de_int (da_cons (de_op p_sub (dv 1) de_int) (da_cons (dv 10) da_nil)))) da_nil))) da_nil))) (de_op (p_add (r := false)) (dv 3) (dv 10)) rfl) (dss_one (ds_ret de_bl)) dss_nil)
  (dss_cons (ds_set 11 sc__law_are_gates_right.nd (de_callTy p_int B.b_int (by decide +kernel) (da_cons (de_own H__law_take hr (da_cons (dv 0) (da_cons de_int da_nil))) da_nil)))
  (dss_cons (ds_if (dt_cmp (p_ne hr.units) (de_own H_how_many_through hr (da_cons (de_op (p_add (r := false)) (dv 1) de_int) (da_cons (de_op (p_add (r := false)) (dv 2) (de_tup (da_cons (de_tup (da_cons (de_op p_sub (dv 1) de_int) (da_cons (dv 1) (da_cons (dv 11) da_nil)))) da_nil))) da_nil))) (de_callB (p_min hr.units rfl) B.b_min (by decide +kernel) (da_cons (dv 3) (da_cons (dv 11) da_nil))) rfl) (dss_one (ds_ret de_bl)) dss_nil)
  (dss_cons (ds_for PassesOwn.never (di_sq (dv 4)) (dg_name 12 sc__law_are_gates_right.nd)
  (dss_cons (ds_if (dt_cmp (p_ne hr.units) (de_own H_how_many_through hr (da_cons (dv 1) (da_cons (de_own H__law_with hr (da_cons (dv 2) (da_cons (dv 12) (da_cons de_int da_nil)))) da_nil))) (de_op (p_add (r := false)) (dv 3) de_int) rfl) (dss_one (ds_ret de_bl)) dss_nil)
  (dss_one (ds_if (dt_w (dw_and (dt_cmp p_gt (de_ix p_ix (de_ix p_ix (dv 2) (dv 12)) de_int) de_int rfl) (dw_and1 (dt_cmp (p_ne hr.units) (de_own H_how_many_through hr (da_cons (dv 1) (da_cons (de_own H__law_with hr (da_cons (dv 2) (da_cons (dv 12) (da_cons (de_neg de_int) da_nil)))) da_nil))) (de_op p_sub (dv 3) de_int) rfl)))) (dss_one (ds_ret de_bl)) dss_nil))))
  (dss_cons (ds_set 13 sc__law_are_gates_right.nd (de_own H_through hr (da_cons (dv 1) (da_cons (dv 2) da_nil))))
  (dss_cons (ds_if (dt_cmp p_notB (de_own H_shows_through hr (da_cons (dv 1) (da_cons (de_rev (r := false) (dv 2)) (da_cons (de_op (p_add (r := false)) (de_slice (p_sl (r := false)) (dv 13) do_none (do_some de_int)) (de_tup (da_cons (de_rev (r := false) (de_ix p_ix (dv 13) de_int)) (da_cons (de_ix p_ix (dv 13) de_int) da_nil)))) da_nil)))) de_bl rfl) (dss_one (ds_ret de_bl)) dss_nil)
  (dss_one (ds_ret (de_cmp p_isB (de_own H_shows_through hr (da_cons (dv 1) (da_cons (dv 2) (da_cons (dv 13) da_nil)))) de_bl rfl)))))))))))))))) pure__law_are_gates_right
theorem sc__law_field : FnScope N__law_field ["pot"] (defScope s__law_field) := ⟨rfl, rfl, rfl, by decide +kernel, rfl, by decide +kernel, by decide +kernel⟩
theorem ok__law_field (B : Blt mg) (O : Own K mg "_law_field" s__law_field) (H__law_take : Has P w K mg base 1 "_law_take" ["pot", "upto"] sp__law_take) : Has P w K mg base 2 "_law_field" ["pot"] sp__law_field :=
  has_of (N := N__law_field) (τ := t__law_field sp__law_take) O sc__law_field (len__law_field) (fun _ _ _ _ _ _ us hl => match us, hl with | [_], _ => rfl) (fun f cdv A outer s H E hr =>
  (dss_cons (ds_setLc 1 (r := false) (own := [("row", 3)]) sc__law_field.nd (di_range1 B.b_range de_int) (blk_of (by kernel_rfl)) (by decide) (fun _ _ _ _ _ => (dg_name 3 sc__law_field.nd)) (fun _ _ _ _ _ => dts_nil) (fun _ _ _ _ _ => (de_lc (r := false) (own := [("column", 2)]) sc__law_field.nd (di_range1 B.b_range de_int) (blk_of (by kernel_rfl)) (by decide) (fun _ _ _ _ _ => (dg_name 2 sc__law_field.nd)) (fun _ _ _ _ _ => dts_nil) (fun _ _ _ _ _ => (de_callTy p_int B.b_int (by decide +kernel) (da_cons (de_op (p_add (r := false)) de_int (de_own H__law_take hr (da_cons (dv 0) (da_cons de_int da_nil)))) da_nil))))))
  (dss_cons (ds_set 4 sc__law_field.nd (de_op (p_add (r := true)) (de_lc (r := false) (own := [("column", 2)]) sc__law_field.nd (di_range1 B.b_range de_int) (blk_of (by kernel_rfl)) (by decide) (fun _ _ _ _ _ => (dg_name 2 sc__law_field.nd)) (fun _ _ _ _ _ => dts_nil) (fun _ _ _ _ _ => (de_tup (da_cons de_int (da_cons (de_op (p_add (r := false)) de_int (dv 2)) (da_cons (de_op p_pow de_int de_int) da_nil)))))) (de_lc (r := false) (own := [("column", 2)]) sc__law_field.nd (di_range1 B.b_range de_int) (blk_of (by kernel_rfl)) (by decide) (fun _ _ _ _ _ => (dg_name 2 sc__law_field.nd)) (fun _ _ _ _ _ => dts_nil) (fun _ _ _ _ _ => (de_tup (da_cons (de_op (p_add (r := false)) de_int (dv 2)) (da_cons de_int (da_cons (de_op p_pow de_int de_int) da_nil))))))))
  (dss_cons (ds_for PassesOwn.never (di_range1 B.b_range de_int) (dg_name 3 sc__law_field.nd)
  (dss_one (ds_for PassesOwn.never (di_range2 B.b_range (de_op (p_add (r := false)) de_int (de_op (p_mulA (r := false)) de_int (dv 3))) (de_op (p_add (r := false)) de_int (de_op (p_mulA (r := false)) de_int (dv 3)))) (dg_name 5 sc__law_field.nd)
  (dss_one (ds_expr (de_bm PySem.F.plainAttrs_list PySem.F.slot_list_extend PySem.F.type_list_extend m_extend (dv 4) (da_cons (de_lst (r := false) (da_cons (de_tup (da_cons (dv 5) (da_cons (de_op (p_add (r := false)) (dv 5) de_int) (da_cons (de_op p_pow de_int de_int) da_nil)))) (da_cons (de_tup (da_cons (de_op (p_add (r := false)) (dv 5) de_int) (da_cons (dv 5) (da_cons (de_op p_pow de_int de_int) da_nil)))) da_nil))) da_nil)))))))
  (dss_cons (ds_for PassesOwn.never (di_enum B.b_enumerate (dv 1)) (dg_tup (dgs_cons (dg_name 3 sc__law_field.nd) (dgs_cons (dg_name 6 sc__law_field.nd) dgs_nil)))
  (dss_one (ds_expr (de_bm PySem.F.plainAttrs_list PySem.F.slot_list_extend PySem.F.type_list_extend m_extend (dv 4) (da_cons (de_lc (r := false) (own := [("column", 2), ("most", 7)]) sc__law_field.nd (di_enum B.b_enumerate (dv 6)) (blk_of (by kernel_rfl)) (by decide) (fun _ _ _ _ _ => (dg_tup (dgs_cons (dg_name 2 sc__law_field.nd) (dgs_cons (dg_name 7 sc__law_field.nd) dgs_nil)))) (fun _ _ _ _ _ => dts_nil) (fun _ _ _ _ _ => (de_tup (da_cons (de_op (p_add (r := false)) (de_op (p_add (r := false)) de_int (de_op (p_mulA (r := false)) de_int (dv 3))) (dv 2)) (da_cons (de_op (p_add (r := false)) (de_op (p_add (r := false)) de_int (de_op (p_mulA (r := false)) de_int (dv 3))) (dv 2)) (da_cons (dv 7) da_nil)))))) da_nil)))))
  (dss_one (ds_ret (de_tup (da_cons (de_callTy p_tuple B.b_tuple (by decide +kernel) (da_cons (dv 4) da_nil)) (da_cons (de_callB (p_min hr.units rfl) B.b_min (by decide +kernel) (da_cons (de_lc (r := false) (own := [("mosts", 6)]) sc__law_field.nd (di_sq (dv 1)) (blk_of (by kernel_rfl)) (by decide) (fun _ _ _ _ _ => (dg_name 6 sc__law_field.nd)) (fun _ _ _ _ _ => dts_nil) (fun _ _ _ _ _ => (de_callB (p_sum rfl) B.b_sum (by decide +kernel) (da_cons (dv 6) da_nil)))) da_nil)) da_nil)))))))))) pure__law_field
theorem sc__law_right : FnScope N__law_right ["pot"] (defScope s__law_right) := ⟨rfl, rfl, rfl, by decide +kernel, rfl, by decide +kernel, by decide +kernel⟩
theorem ok__law_right (B : Blt mg) (O : Own K mg "_law_right" s__law_right) (H__law_take : Has P w K mg base 1 "_law_take" ["pot", "upto"] sp__law_take) (H__law_are_gates_right : Has P w K mg base 6 "_law_are_gates_right" ["pot", "rooms", "gates"] sp__law_are_gates_right) (H__law_field : Has P w K mg base 2 "_law_field" ["pot"] sp__law_field) (H_how_many_through : Has P w K mg base 5 "how_many_through" ["rooms", "gates"] sp_how_many_through) : Has P w K mg base 7 "_law_right" ["pot"] sp__law_right :=
  has_of (N := N__law_right) (τ := t__law_right sp__law_take sp__law_are_gates_right sp__law_field sp_how_many_through) O sc__law_right (len__law_right) (fun _ _ _ _ _ _ us hl => match us, hl with | [_], _ => rfl) (fun f cdv A outer s H E hr =>
  (dss_cons (ds_for PassesOwn.never (di_range1 B.b_range de_int) (dg_name 1 sc__law_right.nd)
  (dss_cons (ds_par2 2 3 sc__law_right.nd (da_cons (de_callTy p_int B.b_int (by decide +kernel) (da_cons (de_op (p_add (r := false)) de_int (de_own H__law_take hr (da_cons (dv 0) (da_cons de_int da_nil)))) da_nil)) (da_cons (de_lst (r := true) da_nil) da_nil)))
  (dss_cons (ds_for PassesOwn.never (di_range1 B.b_range (de_own H__law_take hr (da_cons (dv 0) (da_cons de_int da_nil)))) (dg_name 4 sc__law_right.nd)
  (dss_cons (ds_par2 5 6 sc__law_right.nd (da_cons (de_callTy p_int B.b_int (by decide +kernel) (da_cons (de_own H__law_take hr (da_cons (dv 0) (da_cons (dv 2) da_nil))) da_nil)) (da_cons (de_callTy p_int B.b_int (by decide +kernel) (da_cons (de_op (p_add (r := false)) de_int (de_own H__law_take hr (da_cons (dv 0) (da_cons (de_op p_sub (dv 2) de_int) da_nil)))) da_nil)) da_nil)))
  (dss_one (ds_expr (de_bm PySem.F.plainAttrs_list PySem.F.slot_list_append PySem.F.type_list_append m_append (dv 3) (da_cons (de_tup (da_cons (dv 5) (da_cons (de_op p_mod (de_op (p_add (r := false)) (dv 5) (dv 6)) (dv 2)) (da_cons (de_callTy p_int B.b_int (by decide +kernel) (da_cons (de_own H__law_take hr (da_cons (dv 0) (da_cons de_int da_nil))) da_nil)) da_nil)))) da_nil))))))
  (dss_one (ds_if (dt_not (dt_val (de_own H__law_are_gates_right hr (da_cons (dv 0) (da_cons (dv 2) (da_cons (de_callTy p_tuple B.b_tuple (by decide +kernel) (da_cons (dv 3) da_nil)) da_nil)))))) (dss_one (ds_ret de_bl)) dss_nil)))))
  (dss_cons (ds_asg (de_own H__law_field hr (da_cons (dv 0) da_nil)) (dg_tup (dgs_cons (dg_name 3 sc__law_right.nd) (dgs_cons (dg_name 7 sc__law_right.nd) dgs_nil))))
  (dss_one (ds_ret (de_cmp (p_eq hr.units) (de_own H_how_many_through hr (da_cons de_int (da_cons (dv 3) da_nil))) (dv 7) rfl)))))) pure__law_right
theorem sc_law : FnScope N_law ["script"] (defScope s_law) := ⟨rfl, rfl, rfl, by decide +kernel, rfl, by decide +kernel, by decide +kernel⟩
theorem ok_law {f0 : Addr} {fd : FuncData} (B : Blt mg) (O : FnP K "law" s_law f0 fd) (H__law_cells : Has P w K mg base 1 "_law_cells" ["script", "most"] sp__law_cells) (H__law_right : Has P w K mg base 7 "_law_right" ["pot"] sp__law_right) (H__law_pot : Has P w K mg base 1 "_law_pot" ["script", "place"] sp__law_pot) : FnOk P w K mg base CX0 8 f0 fd ["script"] (LSp K sp_law) :=
  fn_def (N := N_law) (τ := t_law sp__law_cells sp__law_right sp__law_pot) O sc_law (len_law) (fun f cdv A outer s H E hr =>
  (dss_one (ds_ret (de_callB (p_all rfl) B.b_all (by decide +kernel) (da_cons (de_lc (r := false) (own := [("place", 1)]) sc_law.nd (di_sq (de_own H__law_cells hr (da_cons (dv 0) (da_cons de_int da_nil)))) (blk_of (by kernel_rfl)) (by decide) (fun _ _ _ _ _ => (dg_name 1 sc_law.nd)) (fun _ _ _ _ _ => dts_nil) (fun _ _ _ _ _ => (de_own H__law_right hr (da_cons (de_own H__law_pot hr (da_cons (dv 0) (da_cons (dv 1) da_nil))) da_nil)))) da_nil))))) pure_law
end
theorem facts {P : Program} {w : World} {K : PySem.W.Frag} {h : Heap} {mg : Str → Option Value} {f : Addr} (X : K.In h) (G : h.Ns mainGlobals mg) (hfa : mg ("law" : Str) = some (.ref f)) (c : He.SaysD fa fn K) :
    ∃ fd : FuncData, (∀ (s : Shared) (v : Value), BindsTo s fd ⟨[v], []⟩ [("script", v)]) ∧ ∀ base : Heap, K.In base → base.Ns mainGlobals mg → FnOk P w K mg base CX0 8 f fd ["script"] (LSp K sp_law) := by
  obtain ⟨fd, F⟩ := c.def_ 21 (d := mkD "law" s_law) rfl
  have e := hfa.symm.trans (He.glo_ok X G (c.fact 21 (f := .glo "law") rfl))
  cases e
  have b := FunD.bindsA (ps := ["script"]) F fun _ _ _ _ _ _ us hl => match us, hl with | [_], _ => rfl
  have B : Blt mg := ⟨He.free_ok X G (c.fact 22 (f := .free "abs") rfl),
    He.free_ok X G (c.fact 23 (f := .free "all") rfl),
    He.free_ok X G (c.fact 24 (f := .free "bool") rfl),
    He.free_ok X G (c.fact 25 (f := .free "enumerate") rfl),
    He.free_ok X G (c.fact 26 (f := .free "int") rfl),
    He.free_ok X G (c.fact 27 (f := .free "isinstance") rfl),
    He.free_ok X G (c.fact 28 (f := .free "len") rfl),
    He.free_ok X G (c.fact 29 (f := .free "list") rfl),
    He.free_ok X G (c.fact 30 (f := .free "max") rfl),
    He.free_ok X G (c.fact 31 (f := .free "min") rfl),
    He.free_ok X G (c.fact 32 (f := .free "range") rfl),
    He.free_ok X G (c.fact 33 (f := .free "set") rfl),
    He.free_ok X G (c.fact 34 (f := .free "sorted") rfl),
    He.free_ok X G (c.fact 35 (f := .free "str") rfl),
    He.free_ok X G (c.fact 36 (f := .free "sum") rfl),
    He.free_ok X G (c.fact 37 (f := .free "tuple") rfl),
    He.free_ok X G (c.fact 38 (f := .free "zip") rfl),
    He.int_ok X G (c.fact 40 (f := .int "MOST_GATES" 200) rfl),
    He.int_ok X G (c.fact 39 (f := .int "MOST_ROOMS" 40) rfl),
    He.int_ok X G (c.fact 41 (f := .int "MOST_THROUGH" 1000000) rfl),
    He.str_ok X G (c.fact 42 (f := .str "THROUGH" "through") rfl)⟩
  have O_is_int : Own K mg "is_int" s_is_int := by
    obtain ⟨fd, F⟩ := c.def_ 0 (d := mkD "is_int" s_is_int) rfl
    exact ⟨_, fd, F, He.glo_ok X G (c.fact 0 (f := .glo "is_int") rfl)⟩
  have O_are_ints : Own K mg "are_ints" s_are_ints := by
    obtain ⟨fd, F⟩ := c.def_ 1 (d := mkD "are_ints" s_are_ints) rfl
    exact ⟨_, fd, F, He.glo_ok X G (c.fact 1 (f := .glo "are_ints") rfl)⟩
  have O_is_told : Own K mg "is_told" s_is_told := by
    obtain ⟨fd, F⟩ := c.def_ 2 (d := mkD "is_told" s_is_told) rfl
    exact ⟨_, fd, F, He.glo_ok X G (c.fact 2 (f := .glo "is_told") rfl)⟩
  have O_are_gates : Own K mg "are_gates" s_are_gates := by
    obtain ⟨fd, F⟩ := c.def_ 3 (d := mkD "are_gates" s_are_gates) rfl
    exact ⟨_, fd, F, He.glo_ok X G (c.fact 3 (f := .glo "are_gates") rfl)⟩
  have O_look_at_gates : Own K mg "look_at_gates" s_look_at_gates := by
    obtain ⟨fd, F⟩ := c.def_ 4 (d := mkD "look_at_gates" s_look_at_gates) rfl
    exact ⟨_, fd, F, He.glo_ok X G (c.fact 4 (f := .glo "look_at_gates") rfl)⟩
  have O_told_ways : Own K mg "told_ways" s_told_ways := by
    obtain ⟨fd, F⟩ := c.def_ 5 (d := mkD "told_ways" s_told_ways) rfl
    exact ⟨_, fd, F, He.glo_ok X G (c.fact 5 (f := .glo "told_ways") rfl)⟩
  have O_told_flow : Own K mg "told_flow" s_told_flow := by
    obtain ⟨fd, F⟩ := c.def_ 6 (d := mkD "told_flow" s_told_flow) rfl
    exact ⟨_, fd, F, He.glo_ok X G (c.fact 6 (f := .glo "told_flow") rfl)⟩
  have O_told_out : Own K mg "told_out" s_told_out := by
    obtain ⟨fd, F⟩ := c.def_ 7 (d := mkD "told_out" s_told_out) rfl
    exact ⟨_, fd, F, He.glo_ok X G (c.fact 7 (f := .glo "told_out") rfl)⟩
  have O_told_cut : Own K mg "told_cut" s_told_cut := by
    obtain ⟨fd, F⟩ := c.def_ 8 (d := mkD "told_cut" s_told_cut) rfl
    exact ⟨_, fd, F, He.glo_ok X G (c.fact 8 (f := .glo "told_cut") rfl)⟩
  have O_through : Own K mg "through" s_through := by
    obtain ⟨fd, F⟩ := c.def_ 9 (d := mkD "through" s_through) rfl
    exact ⟨_, fd, F, He.glo_ok X G (c.fact 9 (f := .glo "through") rfl)⟩
  have O_are_used : Own K mg "are_used" s_are_used := by
    obtain ⟨fd, F⟩ := c.def_ 10 (d := mkD "are_used" s_are_used) rfl
    exact ⟨_, fd, F, He.glo_ok X G (c.fact 10 (f := .glo "are_used") rfl)⟩
  have O_shows_through : Own K mg "shows_through" s_shows_through := by
    obtain ⟨fd, F⟩ := c.def_ 11 (d := mkD "shows_through" s_shows_through) rfl
    exact ⟨_, fd, F, He.glo_ok X G (c.fact 11 (f := .glo "shows_through") rfl)⟩
  have O_how_many_through : Own K mg "how_many_through" s_how_many_through := by
    obtain ⟨fd, F⟩ := c.def_ 12 (d := mkD "how_many_through" s_how_many_through) rfl
    exact ⟨_, fd, F, He.glo_ok X G (c.fact 12 (f := .glo "how_many_through") rfl)⟩
  have O_gates_that_bar : Own K mg "gates_that_bar" s_gates_that_bar := by
    obtain ⟨fd, F⟩ := c.def_ 13 (d := mkD "gates_that_bar" s_gates_that_bar) rfl
    exact ⟨_, fd, F, He.glo_ok X G (c.fact 13 (f := .glo "gates_that_bar") rfl)⟩
  have O__law_pot : Own K mg "_law_pot" s__law_pot := by
    obtain ⟨fd, F⟩ := c.def_ 14 (d := mkD "_law_pot" s__law_pot) rfl
    exact ⟨_, fd, F, He.glo_ok X G (c.fact 14 (f := .glo "_law_pot") rfl)⟩
  have O__law_take : Own K mg "_law_take" s__law_take := by
    obtain ⟨fd, F⟩ := c.def_ 15 (d := mkD "_law_take" s__law_take) rfl
    exact ⟨_, fd, F, He.glo_ok X G (c.fact 15 (f := .glo "_law_take") rfl)⟩
  have O__law_cells : Own K mg "_law_cells" s__law_cells := by
    obtain ⟨fd, F⟩ := c.def_ 16 (d := mkD "_law_cells" s__law_cells) rfl
    exact ⟨_, fd, F, He.glo_ok X G (c.fact 16 (f := .glo "_law_cells") rfl)⟩
  have O__law_with : Own K mg "_law_with" s__law_with := by
    obtain ⟨fd, F⟩ := c.def_ 17 (d := mkD "_law_with" s__law_with) rfl
    exact ⟨_, fd, F, He.glo_ok X G (c.fact 17 (f := .glo "_law_with") rfl)⟩
  have O__law_are_gates_right : Own K mg "_law_are_gates_right" s__law_are_gates_right := by
    obtain ⟨fd, F⟩ := c.def_ 18 (d := mkD "_law_are_gates_right" s__law_are_gates_right) rfl
    exact ⟨_, fd, F, He.glo_ok X G (c.fact 18 (f := .glo "_law_are_gates_right") rfl)⟩
  have O__law_field : Own K mg "_law_field" s__law_field := by
    obtain ⟨fd, F⟩ := c.def_ 19 (d := mkD "_law_field" s__law_field) rfl
    exact ⟨_, fd, F, He.glo_ok X G (c.fact 19 (f := .glo "_law_field") rfl)⟩
  have O__law_right : Own K mg "_law_right" s__law_right := by
    obtain ⟨fd, F⟩ := c.def_ 20 (d := mkD "_law_right" s__law_right) rfl
    exact ⟨_, fd, F, He.glo_ok X G (c.fact 20 (f := .glo "_law_right") rfl)⟩
  refine ⟨fd, fun s v => b s [v] rfl, fun base _ _ => ?_⟩
  have H_is_int : Has P w K mg base 1 "is_int" ["value", "low", "high"] sp_is_int := ok_is_int B O_is_int 
  have H_are_ints : Has P w K mg base 2 "are_ints" ["value", "low", "high"] sp_are_ints := ok_are_ints B O_are_ints H_is_int
  have H_is_told : Has P w K mg base 1 "is_told" ["value", "sizes"] sp_is_told := ok_is_told B O_is_told 
  have H_are_gates : Has P w K mg base 3 "are_gates" ["rooms", "value"] sp_are_gates := ok_are_gates B O_are_gates H_are_ints
  have H_look_at_gates : Has P w K mg base 4 "look_at_gates" ["rooms", "gates"] sp_look_at_gates := ok_look_at_gates B O_look_at_gates H_is_int H_are_gates
  have H_told_ways : Has P w K mg base 1 "told_ways" ["gates", "used", "start"] sp_told_ways := ok_told_ways B O_told_ways 
  have H_told_flow : Has P w K mg base 2 "told_flow" ["gates", "start", "goal"] sp_told_flow := ok_told_flow B O_told_flow H_told_ways
  have H_told_out : Has P w K mg base 1 "told_out" ["gates", "used", "room"] sp_told_out := ok_told_out B O_told_out 
  have H_told_cut : Has P w K mg base 1 "told_cut" ["gates", "rooms"] sp_told_cut := ok_told_cut B O_told_cut 
  have H_through : Has P w K mg base 5 "through" ["rooms", "gates"] sp_through := ok_through B O_through H_look_at_gates H_told_flow H_told_out
  have H_are_used : Has P w K mg base 3 "are_used" ["rooms", "gates", "value"] sp_are_used := ok_are_used B O_are_used H_are_ints H_told_out
  have H_shows_through : Has P w K mg base 5 "shows_through" ["rooms", "gates", "value"] sp_shows_through := ok_shows_through B O_shows_through H_look_at_gates H_is_told H_are_used H_are_ints H_told_out H_told_cut H_is_int
  have H_how_many_through : Has P w K mg base 5 "how_many_through" ["rooms", "gates"] sp_how_many_through := ok_how_many_through B O_how_many_through H_look_at_gates H_told_out H_told_flow
  have H_gates_that_bar : Has P w K mg base 5 "gates_that_bar" ["rooms", "gates"] sp_gates_that_bar := ok_gates_that_bar B O_gates_that_bar H_look_at_gates H_told_flow H_told_ways
  have H__law_pot : Has P w K mg base 1 "_law_pot" ["script", "place"] sp__law_pot := ok__law_pot B O__law_pot 
  have H__law_take : Has P w K mg base 1 "_law_take" ["pot", "upto"] sp__law_take := ok__law_take B O__law_take 
  have H__law_cells : Has P w K mg base 1 "_law_cells" ["script", "most"] sp__law_cells := ok__law_cells B O__law_cells 
  have H__law_with : Has P w K mg base 1 "_law_with" ["gates", "at", "more"] sp__law_with := ok__law_with B O__law_with 
  have H__law_are_gates_right : Has P w K mg base 6 "_law_are_gates_right" ["pot", "rooms", "gates"] sp__law_are_gates_right := ok__law_are_gates_right B O__law_are_gates_right H_how_many_through H_gates_that_bar H__law_take H__law_with H_through H_shows_through
  have H__law_field : Has P w K mg base 2 "_law_field" ["pot"] sp__law_field := ok__law_field B O__law_field H__law_take
  have H__law_right : Has P w K mg base 7 "_law_right" ["pot"] sp__law_right := ok__law_right B O__law_right H__law_take H__law_are_gates_right H__law_field H_how_many_through
  exact ok_law B F H__law_cells H__law_right H__law_pot
end L47
open PySem PySem.W PySem.Calls PyProof.Rows
theorem PySem.Challenge.cw_nobodywaitsbeyond_k47_whole_gates_in_row_holds : PySem.Challenge.rw_nobodywaitsbeyond_k47_whole_gates_in_row.Holds := by
  w_on; o_law
  refine HandSHeadRun.head_any (r := OpenLaw.row PySem.Challenge.rw_nobodywaitsbeyond_k47_whole_gates_in_row) (q := view (OpenLaw.row PySem.Challenge.rw_nobodywaitsbeyond_k47_whole_gates_in_row).prog [32]) (H := L47.hk) (ob := L47.ob) (M := 3000) (loose := L47.loose) (d := HandSHeadRun.topDef (OpenLaw.row PySem.Challenge.rw_nobodywaitsbeyond_k47_whole_gates_in_row).prog 32) (kwd := []) L47.ob_eq
    (by kernel_rfl) (fun s => by kernel_rfl) L47.run (by kernel_rfl) (by kernel_rfl) (by kernel_rfl) (by rfl) (by first | assumption | decide +kernel) (by decide +kernel) ⟨rfl, rfl, rfl, rfl, rfl, by decide +kernel⟩ ?hw ?hc
  case hw => w_witness2
  case hc =>
    refine L2.walk_ofE (l := PySem.Challenge.rw_nobodywaitsbeyond_k47_whole_gates_in_row) (n := 63) (k := 8) (x := "script") (CX := L2.CX0) rfl (by decide) (by kernel_rfl) ⟨rfl, by decide, by decide⟩ ?F (fun _ _ _ _ z => z)
    intro w mg fa h Y G hmg0
    obtain ⟨K, KX, c⟩ := Y
    have hmg : mg ("law" : PySem.Str) = some (.ref fa) := by
      have e : (HandSHeadRun.topDef (OpenLaw.row PySem.Challenge.rw_nobodywaitsbeyond_k47_whole_gates_in_row).prog 32).name = ("law" : PySem.Str) := by kernel_rfl
      rw [← e]
      exact hmg0
    obtain ⟨fd, hb, hF⟩ := L47.facts (P := (PySem.Challenge.rw_nobodywaitsbeyond_k47_whole_gates_in_row).prog) (w := w) KX G hmg c
    exact ⟨K, fd, PL.LSp K L47.sp_law, KX, hb, fun H a ns hl hO hS => ⟨_, _, fun d _ => d = PL.D.bl true, PL.script_rd hO hS, PL.rs_empty, ⟨ns, rfl, hl, fun _ => rfl⟩, fun d S' v H' q g r => by subst q; rw [PL.RD] at r; exact r⟩, hF⟩
