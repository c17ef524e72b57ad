import PyProof.Rows.All
import Wide.All
import OpenK.AllK
import Wide.FinOn
import HandS.ForMost
import HandS.ForExc
import HandS.IsInst
import HandS.Wide
import HandS.Deep
import HandS.CallSlots
import HandS.TryMany
import HandS.TupAny
import HandS.RaiseMore
import HandS.StrMore
import HandS.Defaults
import KE.GoesMore
import KE.GoesEnum
import HandS.EndBits
import HandS.HeadEnd
import HandS.Codes
import KE.KStateDown
import Lean
import HandS.More
import HandS.Head0
import HandS.Head1
import HandS.Head2
import HandS.HeadHook1
import HandS.HeadHook2
import PySem.Challenge.RW_mostlike_k01_names_and_numbers
set_option Elab.async false
set_option linter.all false
set_option maxRecDepth 100000
set_option maxHeartbeats 2000000
namespace LD
open PySem PySem.Spec PyProof.Rows L2

/-! ### values as trees; live cells by their numbers -/
inductive D where
  | non | bl (b : Bool) | int (i : Int) | str (x : Str)
  | lst (xs : List D) | tup (xs : List D) | dic (ks vs : List D) | ins (c : Str) (ns : List Str) (vs : List D)
  | cell (n : Nat) | scr (ns : List Int)
abbrev AH := List (Option D)
abbrev SD := List (Option D)
def keyOf : D → Option Key
  | .int i => some (.inl i)
  | .str x => some (.inr x)
  | _ => none
mutual
def Rep (K : PySem.W.Frag) (mg : Str → Option Value) (r : List Addr) (F : Hp) : D → V → Prop
  | .non, v => v = .non
  | .bl b, v => v = .bl b
  | .int i, v => v = .int i
  | .str x, v => v = .str x ∧ PySem.PyData.strOk x = true
  | .cell n, v => ∃ a, v = .ref a ∧ r[n]? = some a
  | .scr ns, v => ∃ a, v = .ref a ∧ (F a = some (.lst (ns.map V.int)) ∨ ∀ H, SqL K H a (ns.map V.int))
  | .lst xs, v => ∃ a vs, v = .ref a ∧ F a = some (.lst vs) ∧ Reps K mg r F xs vs
  | .tup xs, v => ∃ a vs, v = .ref a ∧ (F a = some (.tup vs) ∨ ∀ H, SqT K H a vs) ∧ Reps K mg r F xs vs
  | .dic ks ds, v => ∃ a kvs, v = .ref a ∧ F a = some (.dK kvs) ∧ ks.map keyOf = kvs.map (fun q => some q.1) ∧ Reps K mg r F ds (kvs.map (·.2))
  | .ins c ns ds, v => ∃ a C dx gs, v = .ref a ∧ F a = some (.ins C dx gs) ∧ mg c = some (.ref C) ∧ ns = gs.map (·.1) ∧ Reps K mg r F ds (gs.map (·.2))
def Reps (K : PySem.W.Frag) (mg : Str → Option Value) (r : List Addr) (F : Hp) : List D → List V → Prop
  | [], vs => vs = []
  | d :: ds, vs => ∃ v ws, vs = v :: ws ∧ Rep K mg r F d v ∧ Reps K mg r F ds ws
end
/-- what stands at a live cell, or at a frozen place -/
def RepO (K : PySem.W.Frag) (mg : Str → Option Value) (r : List Addr) (F : Hp) : D → HO → Prop
  | .lst xs, o => ∃ vs, o = .lst vs ∧ Reps K mg r F xs vs
  | .dic ks ds, o => ∃ kvs, o = .dK kvs ∧ ks.map keyOf = kvs.map (fun q => some q.1) ∧ Reps K mg r F ds (kvs.map (·.2))
  | .ins c ns ds, o => ∃ C dx gs, o = .ins C dx gs ∧ mg c = some (.ref C) ∧ ns = gs.map (·.1) ∧ Reps K mg r F ds (gs.map (·.2))
  | _, _ => False
section
variable {K : PySem.W.Frag} {mg : Str → Option Value} {r r' : List Addr} {F F' : Hp}
theorem get_pre {α : Type} {r t : List α} {n : Nat} {a : α} (h : r[n]? = some a) : (r ++ t)[n]? = some a := by
  rw [List.getElem?_append_left (List.getElem?_eq_some_iff.mp h).1]; exact h
mutual
theorem Rep.mono (hr : ∃ t, r' = r ++ t) (hF : ∀ a u, F a = some u → F' a = some u) : ∀ (d : D) (v : V), Rep K mg r F d v → Rep K mg r' F' d v
  | .non, _, h => h
  | .bl _, _, h => h
  | .int _, _, h => h
  | .str _, _, h => h
  | .cell n, v, h => by
    obtain ⟨t, rfl⟩ := hr
    unfold Rep at h ⊢
    obtain ⟨a, e, q⟩ := h
    exact ⟨a, e, get_pre q⟩
  | .scr ns, v, h => by
    unfold Rep at h ⊢
    obtain ⟨a, e, q⟩ := h
    exact ⟨a, e, q.imp (hF _ _) id⟩
  | .lst xs, v, h => by
    unfold Rep at h ⊢
    obtain ⟨a, vs, e, q, z⟩ := h
    exact ⟨a, vs, e, hF _ _ q, Reps.mono hr hF xs vs z⟩
  | .tup xs, v, h => by
    unfold Rep at h ⊢
    obtain ⟨a, vs, e, q, z⟩ := h
    exact ⟨a, vs, e, q.imp (hF _ _) id, Reps.mono hr hF xs vs z⟩
  | .dic ks ds, v, h => by
    unfold Rep at h ⊢
    obtain ⟨a, kvs, e, q, k, z⟩ := h
    exact ⟨a, kvs, e, hF _ _ q, k, Reps.mono hr hF ds _ z⟩
  | .ins c ns ds, v, h => by
    unfold Rep at h ⊢
    obtain ⟨a, C, dx, gs, e, q, c, k, z⟩ := h
    exact ⟨a, C, dx, gs, e, hF _ _ q, c, k, Reps.mono hr hF ds _ z⟩
theorem Reps.mono (hr : ∃ t, r' = r ++ t) (hF : ∀ a u, F a = some u → F' a = some u) : ∀ (ds : List D) (vs : List V), Reps K mg r F ds vs → Reps K mg r' F' ds vs
  | [], _, h => by unfold Reps at h ⊢; exact h
  | d :: ds, vs, h => by
    unfold Reps at h ⊢
    obtain ⟨v, ws, e, h1, h2⟩ := h
    exact ⟨v, ws, e, Rep.mono hr hF d v h1, Reps.mono hr hF ds ws h2⟩
end
theorem Reps.nil : Reps K mg r F [] [] := by unfold Reps; rfl
theorem Reps.cons {d : D} {ds : List D} {v : V} {vs : List V} (h : Rep K mg r F d v) (t : Reps K mg r F ds vs) : Reps K mg r F (d :: ds) (v :: vs) := by
  unfold Reps; exact ⟨v, vs, rfl, h, t⟩
theorem Reps.one {d : D} {v : V} (h : Rep K mg r F d v) : Reps K mg r F [d] [v] := .cons h .nil
theorem Reps.length : ∀ {ds : List D} {vs : List V}, Reps K mg r F ds vs → ds.length = vs.length
  | [], _, h => by unfold Reps at h; subst h; rfl
  | d :: ds, vs, h => by
    unfold Reps at h
    obtain ⟨v, ws, rfl, _, h2⟩ := h
    simp [Reps.length h2]
theorem Reps.get : ∀ {ds : List D} {vs : List V} {i : Nat} {d : D}, Reps K mg r F ds vs → ds[i]? = some d → ∃ v, vs[i]? = some v ∧ Rep K mg r F d v
  | [], _, _, _, _, e => by simp at e
  | d :: ds, vs, i, x, h, e => by
    unfold Reps at h
    obtain ⟨v, ws, rfl, h1, h2⟩ := h
    cases i with
    | zero =>
      simp at e; subst e
      exact ⟨v, by simp, h1⟩
    | succ i =>
      obtain ⟨u, q1, q2⟩ := Reps.get (i := i) h2 (by simpa using e)
      exact ⟨u, by simpa using q1, q2⟩
theorem Reps.append : ∀ {ds es : List D} {vs ws : List V}, Reps K mg r F ds vs → Reps K mg r F es ws → Reps K mg r F (ds ++ es) (vs ++ ws)
  | [], _, _, _, h, t => by unfold Reps at h; subst h; exact t
  | d :: ds, es, vs, ws, h, t => by
    unfold Reps at h
    obtain ⟨v, us, rfl, h1, h2⟩ := h
    exact .cons h1 (Reps.append h2 t)
theorem Reps.set : ∀ {ds : List D} {vs : List V} {d : D} {v : V} (i : Nat), Reps K mg r F ds vs → Rep K mg r F d v → Reps K mg r F (ds.set i d) (vs.set i v)
  | [], _, _, _, _, h, _ => by unfold Reps at h; subst h; exact .nil
  | x :: ds, vs, d, v, i, h, q => by
    unfold Reps at h
    obtain ⟨u, ws, rfl, h1, h2⟩ := h
    cases i with
    | zero => exact .cons q h2
    | succ i => exact .cons h1 (Reps.set i h2 q)
theorem Reps.take : ∀ {ds : List D} {vs : List V} (n : Nat), Reps K mg r F ds vs → Reps K mg r F (ds.take n) (vs.take n)
  | [], _, n, h => by unfold Reps at h; subst h; simp; exact .nil
  | d :: ds, vs, n, h => by
    unfold Reps at h
    obtain ⟨v, ws, rfl, h1, h2⟩ := h
    cases n with
    | zero => exact .nil
    | succ n => exact .cons h1 (Reps.take n h2)
theorem Reps.drop : ∀ {ds : List D} {vs : List V} (n : Nat), Reps K mg r F ds vs → Reps K mg r F (ds.drop n) (vs.drop n)
  | [], _, n, h => by unfold Reps at h; subst h; simp; exact .nil
  | d :: ds, vs, n, h => by
    unfold Reps at h
    obtain ⟨v, ws, rfl, h1, h2⟩ := h
    cases n with
    | zero => exact .cons h1 h2
    | succ n => exact Reps.drop n h2
theorem Reps.erase : ∀ {ds : List D} {vs : List V} (n : Nat), Reps K mg r F ds vs → Reps K mg r F (ds.eraseIdx n) (vs.eraseIdx n)
  | [], _, n, h => by unfold Reps at h; subst h; simp; exact .nil
  | d :: ds, vs, n, h => by
    unfold Reps at h
    obtain ⟨v, ws, rfl, h1, h2⟩ := h
    cases n with
    | zero => exact h2
    | succ n => exact .cons h1 (Reps.erase n h2)
theorem Reps.reverse : ∀ {ds : List D} {vs : List V}, Reps K mg r F ds vs → Reps K mg r F ds.reverse vs.reverse
  | [], _, h => by unfold Reps at h; subst h; exact .nil
  | d :: ds, vs, h => by
    unfold Reps at h
    obtain ⟨v, ws, rfl, h1, h2⟩ := h
    simp only [List.reverse_cons]
    exact (Reps.reverse h2).append (.one h1)
theorem RepO.mono (hr : ∃ t, r' = r ++ t) (hF : ∀ a u, F a = some u → F' a = some u) {d : D} {o : HO} (h : RepO K mg r F d o) : RepO K mg r' F' d o := by
  cases d with
  | lst xs => obtain ⟨vs, e, z⟩ := h; exact ⟨vs, e, Reps.mono hr hF _ _ z⟩
  | dic ks ds => obtain ⟨kvs, e, k, z⟩ := h; exact ⟨kvs, e, k, Reps.mono hr hF _ _ z⟩
  | ins c ns ds => obtain ⟨C, dx, gs, e, c, k, z⟩ := h; exact ⟨C, dx, gs, e, c, k, Reps.mono hr hF _ _ z⟩
  | _ => exact h.elim
/-- frozen, or by the cell -/
theorem Rep.ofO {d : D} {o : HO} {a : Addr} (h : RepO K mg r F d o) (e : F a = some o) : Rep K mg r F d (.ref a) := by
  cases d with
  | lst xs => obtain ⟨vs, rfl, z⟩ := h; unfold Rep; exact ⟨a, vs, rfl, e, z⟩
  | dic ks ds => obtain ⟨kvs, rfl, k, z⟩ := h; unfold Rep; exact ⟨a, kvs, rfl, e, k, z⟩
  | ins c ns ds => obtain ⟨C, dx, gs, rfl, c, k, z⟩ := h; unfold Rep; exact ⟨a, C, dx, gs, rfl, e, c, k, z⟩
  | _ => exact h.elim
end

/-! ### the state -/
structure Sim (K : PySem.W.Frag) (mg : Str → Option Value) (T : Hp) (r : List Addr) (F H : Hp) (ah : AH) : Prop where
  len : r.length = ah.length
  sub : ∀ a u, F a = some u → Rd H a u
  live : ∀ (n : Nat) (c : D) (a : Addr), ah[n]? = some (some c) → r[n]? = some a → F a = none ∧ ∃ o, H a = some o ∧ RepO K mg r F c o
  inj : ∀ (n m : Nat) (c c' : D) (a : Addr), ah[n]? = some (some c) → ah[m]? = some (some c') → r[n]? = some a → r[m]? = some a → n = m
  prv : ∀ a o, T a = some o → H a = some o
  prl : ∀ (n : Nat) (c : D) (a : Addr), ah[n]? = some (some c) → r[n]? = some a → T a = none
  prf : ∀ a o, T a = some o → F a = none ∨ ∃ ob u, o = .frz ob u
structure Ext (r r' : List Addr) (F F' H H' : Hp) : Prop where
  pre : ∃ t, r' = r ++ t
  fro : ∀ a u, F a = some u → F' a = some u
def Slots (K : PySem.W.Frag) (mg : Str → Option Value) (r : List Addr) (F : Hp) (sd : SD) (s : L2.St) : Prop :=
  s.length = sd.length ∧ ∀ (i : Nat) (d : D), sd[i]? = some (some d) → ∃ v, s[i]? = some (some v) ∧ Rep K mg r F d v
section
variable {K : PySem.W.Frag} {mg : Str → Option Value} {r r1 r2 r' : List Addr} {T F F1 F2 F' H H1 H2 H' : Hp} {ah ah' : AH} {sd : SD} {s : L2.St}
theorem Ext.refl : Ext r r F F H H := ⟨⟨[], by simp⟩, fun _ _ h => h⟩
theorem Ext.trans (a : Ext r r1 F F1 H H1) (b : Ext r1 r2 F1 F2 H1 H2) : Ext r r2 F F2 H H2 := by
  obtain ⟨t, rfl⟩ := a.pre
  obtain ⟨u, rfl⟩ := b.pre
  exact ⟨⟨t ++ u, by simp⟩, fun a1 u h => b.fro _ _ (a.fro _ _ h)⟩
theorem Ext.rep (e : Ext r r' F F' H H') {d : D} {v : V} (h : Rep K mg r F d v) : Rep K mg r' F' d v := Rep.mono e.pre e.fro d v h
theorem Ext.reps (e : Ext r r' F F' H H') {d : List D} {v : List V} (h : Reps K mg r F d v) : Reps K mg r' F' d v := Reps.mono e.pre e.fro d v h
theorem Ext.slots (e : Ext r r' F F' H H') (h : Slots K mg r F sd s) : Slots K mg r' F' sd s :=
  ⟨h.1, fun i d q => let ⟨v, a, b⟩ := h.2 i d q; ⟨v, a, e.rep b⟩⟩
theorem Slots.set {d : D} {v : V} (h : Slots K mg r F sd s) (i : Nat) (q : Rep K mg r F d v) : Slots K mg r F (sd.set i (some d)) (s.set i (some v)) := by
  refine ⟨by simpa using h.1, fun j e hj => ?_⟩
  by_cases hij : i = j
  · subst hij
    have hlt : i < sd.length := by
      have := (List.getElem?_eq_some_iff.mp hj).1
      simpa using this
    rw [List.getElem?_set_self hlt] at hj
    cases hj
    exact ⟨v, by rw [List.getElem?_set_self (by rw [h.1]; exact hlt)], q⟩
  · rw [List.getElem?_set_ne hij] at hj ⊢
    exact h.2 j e hj
theorem Slots.unset (h : Slots K mg r F sd s) (i : Nat) (x : Option V) : Slots K mg r F (sd.set i none) (s.set i x) := by
  refine ⟨by simpa using h.1, fun j e hj => ?_⟩
  by_cases hij : i = j
  · subst hij
    have hlt : i < sd.length := by
      have := (List.getElem?_eq_some_iff.mp hj).1
      simpa using this
    rw [List.getElem?_set_self hlt] at hj
    cases hj
  · rw [List.getElem?_set_ne hij] at hj ⊢
    exact h.2 j e hj
theorem Sim.free (S : Sim K mg T r F H ah) {p : Addr} (hp : H p = none) : F p = none := by
  cases e : F p with
  | none => rfl
  | some u =>
    rcases S.sub p u e with q | ⟨o, q⟩ <;> (rw [hp] at q; cases q)
/-- a tracked thing laid beside -/
theorem Sim.beside (S : Sim K mg T r F H ah) {p : Addr} {o : HO} (hp : H p = none) : Sim K mg T r F (upd H p o) ah := by
  refine ⟨S.len, fun a u e => ?_, fun n c a h1 h2 => ?_, S.inj, fun a u e => by rw [upd_ne (ne_of_none (S.prv a u e) hp)]; exact S.prv a u e, S.prl, S.prf⟩
  · have hne : a ≠ p := fun z => by rw [z, S.free hp] at e; cases e
    rcases S.sub a u e with q | ⟨o, q⟩
    · exact .inl (by rw [upd_ne hne]; exact q)
    · exact .inr ⟨o, by rw [upd_ne hne]; exact q⟩
  · obtain ⟨f, o', e, q⟩ := S.live n c a h1 h2
    exact ⟨f, o', by rw [upd_ne (ne_of_none e hp)]; exact e, q⟩
/-- a new thing, frozen at once (a list, a dict, an instance, a tuple, an error's dict) -/
theorem Sim.freshF (S : Sim K mg T r F H ah) {p : Addr} {o : HO} (hp : H p = none) : Sim K mg T r (upd F p o) (upd H p o) ah ∧ Ext r r F (upd F p o) H (upd H p o) ∧ upd F p o p = some o := by
  have hF := S.free hp
  have fr : ∀ a u, F a = some u → upd F p o a = some u := fun a u e => by rw [upd_ne (ne_of_none e hF)]; exact e
  have ex : Ext r r F (upd F p o) H (upd H p o) := ⟨⟨[], by simp⟩, fr⟩
  refine ⟨⟨S.len, fun a u e => ?_, fun n c a h1 h2 => ?_, S.inj, fun a u e => by rw [upd_ne (ne_of_none (S.prv a u e) hp)]; exact S.prv a u e, S.prl, fun a u e => by rw [upd_ne (ne_of_none (S.prv a u e) hp)]; exact S.prf a u e⟩, ex, upd_same⟩
  · by_cases ha : a = p
    · subst ha
      rw [upd_same] at e; cases e
      exact .inl upd_same
    · rw [upd_ne ha] at e
      rcases S.sub a u e with q | ⟨o2, q⟩
      · exact .inl (by rw [upd_ne ha]; exact q)
      · exact .inr ⟨o2, by rw [upd_ne ha]; exact q⟩
  · obtain ⟨f, o', e, q⟩ := S.live n c a h1 h2
    have ha : a ≠ p := ne_of_none e hp
    exact ⟨by rw [upd_ne ha]; exact f, o', by rw [upd_ne ha]; exact e, q.mono ex.pre ex.fro⟩
/-- a new live cell -/
theorem Sim.freshC (S : Sim K mg T r F H ah) {p : Addr} {o : HO} {c : D} (hp : H p = none) (ro : RepO K mg r F c o) :
    Sim K mg T (r ++ [p]) F (upd H p o) (ah ++ [some c]) ∧ Ext r (r ++ [p]) F F H (upd H p o) ∧ (r ++ [p])[ah.length]? = some p := by
  have hF := S.free hp
  have ex : Ext r (r ++ [p]) F F H (upd H p o) := ⟨⟨[p], rfl⟩, fun _ _ h => h⟩
  have hl : (r ++ [p])[ah.length]? = some p := by rw [← S.len]; simp
  have old : ∀ {n : Nat} {d : D}, (ah ++ [some c])[n]? = some (some d) → n < ah.length ∧ ah[n]? = some (some d) ∨ n = ah.length ∧ d = c := fun {n d} e => by
    have := (List.getElem?_eq_some_iff.mp e).1
    simp at this
    by_cases hn : n < ah.length
    · rw [List.getElem?_append_left hn] at e
      exact .inl ⟨hn, e⟩
    · have hn' : n = ah.length := by omega
      subst hn'
      simp at e
      exact .inr ⟨rfl, e.symm⟩
  have oldr : ∀ {n : Nat} {a : Addr}, n < ah.length → (r ++ [p])[n]? = some a → r[n]? = some a := fun {n a} hn e => by
    rw [List.getElem?_append_left (by rw [S.len]; exact hn)] at e; exact e
  refine ⟨⟨by simp [S.len], (S.beside hp).sub, fun n d a h1 h2 => ?_, fun n m d d' a h1 h2 h3 h4 => ?_, (S.beside hp).prv, fun n d a h1 h2 => ?_, S.prf⟩, ex, hl⟩
  · rcases old h1 with ⟨hn, e⟩ | ⟨hn, e⟩
    · obtain ⟨f, o', q1, q2⟩ := S.live n d a e (oldr hn h2)
      exact ⟨f, o', by rw [upd_ne (ne_of_none q1 hp)]; exact q1, q2.mono ex.pre ex.fro⟩
    · subst hn; subst e
      rw [hl] at h2; cases h2
      exact ⟨hF, o, upd_same, ro.mono ex.pre ex.fro⟩
  · have atp : ∀ {k : Nat} {d : D}, k < ah.length → ah[k]? = some (some d) → r[k]? ≠ some p := fun {k d} hk e q => by
      obtain ⟨_, o', q1, _⟩ := S.live k d p e q
      rw [hp] at q1; cases q1
    rcases old h1 with ⟨hn, e⟩ | ⟨hn, e⟩ <;> rcases old h2 with ⟨hm, e'⟩ | ⟨hm, e'⟩
    · exact S.inj n m d d' a e e' (oldr hn h3) (oldr hm h4)
    · subst hm
      rw [hl] at h4; cases h4
      exact absurd (oldr hn h3) (atp hn e)
    · subst hn
      rw [hl] at h3; cases h3
      exact absurd (oldr hm h4) (atp hm e')
    · omega
  · rcases old h1 with ⟨hn, e⟩ | ⟨hn, e⟩
    · exact S.prl n d a e (oldr hn h2)
    · subst hn; subst e
      rw [hl] at h2; cases h2
      cases q : T p with
      | none => rfl
      | some u =>
        have := S.prv p u q
        rw [hp] at this; cases this
/-- a live cell written -/
theorem Sim.write (S : Sim K mg T r F H ah) {n : Nat} {a : Addr} {c c' : D} {o' : HO} (hc : ah[n]? = some (some c)) (ha : r[n]? = some a) (ro : RepO K mg r F c' o') :
    Sim K mg T r F (upd H a o') (ah.set n (some c')) ∧ Ext r r F F H (upd H a o') := by
  obtain ⟨fa, o, ho, hro⟩ := S.live n c a hc ha
  have old : ∀ {j : Nat} {e : D}, (ah.set n (some c'))[j]? = some (some e) → ∃ e', ah[j]? = some (some e') := fun {j e} q => by
    by_cases hj : n = j
    · subst hj; exact ⟨c, hc⟩
    · rw [List.getElem?_set_ne hj] at q; exact ⟨e, q⟩
  refine ⟨⟨by simpa using S.len, fun b u e => ?_, fun m d b h1 h2 => ?_, fun m k d d' b h1 h2 h3 h4 => ?_, fun b u e => ?_, fun m d b h1 h2 => ?_, S.prf⟩, ⟨⟨[], by simp⟩, fun _ _ h => h⟩⟩
  · have hb : b ≠ a := fun z => by rw [z, fa] at e; cases e
    rcases S.sub b u e with q | ⟨o2, q⟩
    · exact .inl (by rw [upd_ne hb]; exact q)
    · exact .inr ⟨o2, by rw [upd_ne hb]; exact q⟩
  · by_cases hm : n = m
    · subst hm
      have hlt : n < ah.length := (List.getElem?_eq_some_iff.mp hc).1
      rw [List.getElem?_set_self hlt] at h1
      cases h1
      rw [ha] at h2; cases h2
      exact ⟨fa, o', upd_same, ro⟩
    · rw [List.getElem?_set_ne hm] at h1
      obtain ⟨f, o2, q1, q2⟩ := S.live m d b h1 h2
      have hb : b ≠ a := fun z => hm (S.inj n m c d a hc h1 ha (z ▸ h2))
      exact ⟨f, o2, by rw [upd_ne hb]; exact q1, q2⟩
  · obtain ⟨e1, q1⟩ := old h1
    obtain ⟨e2, q2⟩ := old h2
    exact S.inj m k e1 e2 b q1 q2 h3 h4
  · have hb : b ≠ a := fun z => by subst z; rw [S.prl n c b hc ha] at e; cases e
    rw [upd_ne hb]; exact S.prv b u e
  · obtain ⟨e1, q1⟩ := old h1
    exact S.prl m e1 b q1 h2
/-- a live cell frozen -/
theorem Sim.freeze (S : Sim K mg T r F H ah) {n : Nat} {a : Addr} {c : D} (hc : ah[n]? = some (some c)) (ha : r[n]? = some a) :
    ∃ F', Sim K mg T r F' H (ah.set n none) ∧ Ext r r F F' H H ∧ Rep K mg r F' c (.ref a) := by
  obtain ⟨fa, o, ho, hro⟩ := S.live n c a hc ha
  have fr : ∀ b u, F b = some u → upd F a o b = some u := fun b u e => by rw [upd_ne (ne_of_none e fa)]; exact e
  have ex : Ext r r F (upd F a o) H H := ⟨⟨[], by simp⟩, fr⟩
  have old : ∀ {j : Nat} {e : D}, (ah.set n none)[j]? = some (some e) → ah[j]? = some (some e) := fun {j e} q => by
    by_cases hj : n = j
    · subst hj
      rw [List.getElem?_set_self (List.getElem?_eq_some_iff.mp hc).1] at q; cases q
    · rw [List.getElem?_set_ne hj] at q; exact q
  refine ⟨upd F a o, ⟨by simpa using S.len, fun b u e => ?_, fun m d b h1 h2 => ?_, fun m k d d' b h1 h2 h3 h4 => ?_, S.prv, fun m d b h1 h2 => S.prl m d b (old h1) h2, fun b u e => by rw [upd_ne (fun z => by rw [z, S.prl n c a hc ha] at e; cases e)]; exact S.prf b u e⟩, ex, Rep.ofO (hro.mono ex.pre ex.fro) upd_same⟩
  · by_cases hb : b = a
    · subst hb
      rw [upd_same] at e; cases e
      exact .inl ho
    · rw [upd_ne hb] at e
      exact S.sub b u e
  · have hm : n ≠ m := fun z => by
      subst z
      rw [List.getElem?_set_self (List.getElem?_eq_some_iff.mp hc).1] at h1; cases h1
    rw [List.getElem?_set_ne hm] at h1
    obtain ⟨f, o2, q1, q2⟩ := S.live m d b h1 h2
    have hb : b ≠ a := fun z => hm (S.inj n m c d a hc h1 ha (z ▸ h2))
    exact ⟨by rw [upd_ne hb]; exact f, o2, q1, q2.mono ex.pre ex.fro⟩
  · exact S.inj m k d d' b (old h1) (old h2) h3 h4
/-! ### private things: tracked, neither frozen nor a cell -/
theorem Sim.privNew (S : Sim K mg T r F H ah) {p : Addr} {o : HO} (hp : H p = none) : Sim K mg (upd T p o) r F (upd H p o) ah := by
  have B := S.beside (o := o) hp
  refine ⟨B.len, B.sub, B.live, B.inj, fun a u e => ?_, fun n c a h1 h2 => ?_, fun a u e => ?_⟩
  · by_cases ha : a = p
    · subst ha; rw [upd_same] at e ⊢; exact e
    · rw [upd_ne ha] at e ⊢; exact S.prv a u e
  · obtain ⟨_, o', e, _⟩ := S.live n c a h1 h2
    rw [upd_ne (ne_of_none e hp)]; exact S.prl n c a h1 h2
  · by_cases ha : a = p
    · subst ha; exact .inl (S.free hp)
    · rw [upd_ne ha] at e; exact S.prf a u e
theorem Sim.privSet (S : Sim K mg T r F H ah) {p : Addr} {o o' : HO} (hp : T p = some o) (nf : ∀ ob u, o ≠ .frz ob u) : Sim K mg (upd T p o') r F (upd H p o') ah := by
  have fp : F p = none := (S.prf p o hp).elim id fun ⟨ob, u, e⟩ => absurd e (nf ob u)
  refine ⟨S.len, fun a u e => ?_, fun n c a h1 h2 => ?_, S.inj, fun a u e => ?_, fun n c a h1 h2 => ?_, fun a u e => ?_⟩
  · have ha : a ≠ p := fun z => by rw [z, fp] at e; cases e
    rcases S.sub a u e with q | ⟨o2, q⟩
    · exact .inl (by rw [upd_ne ha]; exact q)
    · exact .inr ⟨o2, by rw [upd_ne ha]; exact q⟩
  · have ha : a ≠ p := fun z => by rw [z] at h2; rw [S.prl n c p h1 h2] at hp; cases hp
    obtain ⟨f, o2, e, q⟩ := S.live n c a h1 h2
    exact ⟨f, o2, by rw [upd_ne ha]; exact e, q⟩
  · by_cases ha : a = p
    · subst ha; rw [upd_same] at e ⊢; exact e
    · rw [upd_ne ha] at e ⊢; exact S.prv a u e
  · have ha : a ≠ p := fun z => by rw [z] at h2; rw [S.prl n c p h1 h2] at hp; cases hp
    rw [upd_ne ha]; exact S.prl n c a h1 h2
  · by_cases ha : a = p
    · subst ha; exact .inl fp
    · rw [upd_ne ha] at e; exact S.prf a u e
theorem Sim.sub_priv {T' : Hp} (S : Sim K mg T r F H ah) (h : ∀ a o, T' a = some o → T a = some o) : Sim K mg T' r F H ah := by
  refine ⟨S.len, S.sub, S.live, S.inj, fun a o e => S.prv a o (h a o e), fun n c a h1 h2 => ?_, fun a o e => S.prf a o (h a o e)⟩
  cases q : T' a with
  | none => rfl
  | some u =>
    have z := h a u q
    rw [S.prl n c a h1 h2] at z
    cases z
/-- what was private becomes a cell, or is frozen -/
theorem Sim.privCell {T' : Hp} (S : Sim K mg T r F H ah) {p : Addr} {c : D} {o : HO} (hp : T p = some o) (nf : ∀ ob u, o ≠ .frz ob u) (h : ∀ a u, T' a = some u → T a = some u) (hp' : T' p = none) (ro : RepO K mg r F c o) :
    Sim K mg T' (r ++ [p]) F H (ah ++ [some c]) ∧ Ext r (r ++ [p]) F F H H ∧ (r ++ [p])[ah.length]? = some p := by
  have fp : F p = none := (S.prf p o hp).elim id fun ⟨ob, u, e⟩ => absurd e (nf ob u)
  have ex : Ext r (r ++ [p]) F F H H := ⟨⟨[p], rfl⟩, fun _ _ h => h⟩
  have hl : (r ++ [p])[ah.length]? = some p := by rw [← S.len]; simp
  have old : ∀ {n : Nat} {d : D}, (ah ++ [some c])[n]? = some (some d) → n < ah.length ∧ ah[n]? = some (some d) ∨ n = ah.length ∧ d = c := fun {n d} e => by
    have := (List.getElem?_eq_some_iff.mp e).1
    simp at this
    by_cases hn : n < ah.length
    · rw [List.getElem?_append_left hn] at e
      exact .inl ⟨hn, e⟩
    · have hn' : n = ah.length := by omega
      subst hn'
      simp at e
      exact .inr ⟨rfl, e.symm⟩
  have oldr : ∀ {n : Nat} {a : Addr}, n < ah.length → (r ++ [p])[n]? = some a → r[n]? = some a := fun {n a} hn e => by
    rw [List.getElem?_append_left (by rw [S.len]; exact hn)] at e; exact e
  have S' := S.sub_priv h
  refine ⟨⟨by simp [S.len], S.sub, fun n d a h1 h2 => ?_, fun n m d d' a h1 h2 h3 h4 => ?_, S'.prv, fun n d a h1 h2 => ?_, S'.prf⟩, ex, hl⟩
  · rcases old h1 with ⟨hn, e⟩ | ⟨hn, e⟩
    · obtain ⟨f, o', q1, q2⟩ := S.live n d a e (oldr hn h2)
      exact ⟨f, o', q1, q2.mono ex.pre ex.fro⟩
    · subst hn; subst e
      rw [hl] at h2; cases h2
      exact ⟨fp, o, S.prv _ _ hp, ro.mono ex.pre ex.fro⟩
  · have atp : ∀ {k : Nat} {d : D}, k < ah.length → ah[k]? = some (some d) → r[k]? ≠ some p := fun {k d} hk e q => by
      rw [S.prl k d p e q] at hp; cases hp
    rcases old h1 with ⟨hn, e⟩ | ⟨hn, e⟩ <;> rcases old h2 with ⟨hm, e'⟩ | ⟨hm, e'⟩
    · exact S.inj n m d d' a e e' (oldr hn h3) (oldr hm h4)
    · subst hm
      rw [hl] at h4; cases h4
      exact absurd (oldr hn h3) (atp hn e)
    · subst hn
      rw [hl] at h3; cases h3
      exact absurd (oldr hm h4) (atp hm e')
    · omega
  · rcases old h1 with ⟨hn, e⟩ | ⟨hn, e⟩
    · exact S'.prl n d a e (oldr hn h2)
    · subst hn; subst e
      rw [hl] at h2; cases h2
      exact hp'
theorem Sim.privFrz {T' : Hp} (S : Sim K mg T r F H ah) {p : Addr} {c : D} {o : HO} (hp : T p = some o) (nf : ∀ ob u, o ≠ .frz ob u) (h : ∀ a u, T' a = some u → T a = some u) (hp' : T' p = none) (ro : RepO K mg r F c o) :
    ∃ F', Sim K mg T' r F' H ah ∧ Ext r r F F' H H ∧ Rep K mg r F' c (.ref p) := by
  obtain ⟨S1, x1, e1⟩ := S.privCell hp nf h hp' ro
  have fp : F p = none := (S.prf p o hp).elim id fun ⟨ob, u, e⟩ => absurd e (nf ob u)
  have fr : ∀ b u, F b = some u → upd F p o b = some u := fun b u e => by rw [upd_ne (ne_of_none e fp)]; exact e
  have ex : Ext r r F (upd F p o) H H := ⟨⟨[], by simp⟩, fr⟩
  have S' := S.sub_priv h
  refine ⟨upd F p o, ⟨S.len, fun b u e => ?_, fun m d b h1 h2 => ?_, S.inj, S'.prv, S'.prl, fun b u e => ?_⟩, ex, Rep.ofO (ro.mono ex.pre ex.fro) upd_same⟩
  · by_cases hb : b = p
    · subst hb
      rw [upd_same] at e; cases e
      exact .inl (S.prv _ _ hp)
    · rw [upd_ne hb] at e
      exact S.sub b u e
  · obtain ⟨f, o2, q1, q2⟩ := S.live m d b h1 h2
    have hb : b ≠ p := fun z => by rw [z] at h2; rw [S.prl m d p h1 h2] at hp; cases hp
    exact ⟨by rw [upd_ne hb]; exact f, o2, q1, q2.mono ex.pre ex.fro⟩
  · have hb : b ≠ p := fun z => by rw [z, hp'] at e; cases e
    rw [upd_ne hb]; exact S'.prf b u e
end
end LD

set_option Elab.async false
set_option linter.all false
set_option maxRecDepth 100000
set_option maxHeartbeats 2000000
namespace LD
open PySem PySem.Spec PyProof.Rows L2
/-! ### what runs tell -/
structure Exc where
  c : Str
  dict : Bool
  ns : List Str
  vs : List D
inductive RE where
  | ok (d : D) (ah : AH) | exc (x : Exc) (ah : AH) | bad
inductive RS where
  | nx (sd : SD) (ah : AH) | ret (d : D) (ah : AH) | brk (sd : SD) (ah : AH) | cnt (sd : SD) (ah : AH) | exc (x : Exc) (sd : SD) (ah : AH) | bad
abbrev ME := SD → AH → RE
abbrev MS := SD → AH → RS
def RE.bind (m : RE) (k : D → AH → RE) : RE := match m with
  | .ok d a => k d a
  | .exc x a => .exc x a
  | .bad => .bad
def RE.toS (m : RE) (sd : SD) (k : D → AH → RS) : RS := match m with
  | .ok d a => k d a
  | .exc x a => .exc x sd a
  | .bad => .bad
def RS.bind (m : RS) (k : SD → AH → RS) : RS := match m with
  | .nx s a => k s a
  | .ret d a => .ret d a
  | .brk s a => .brk s a
  | .cnt s a => .cnt s a
  | .exc x s a => .exc x s a
  | .bad => .bad
def lift (o : Option (D × AH)) : RE := match o with
  | some (d, a) => .ok d a
  | none => .bad
def RepX (K : PySem.W.Frag) (mg : Str → Option Value) (r : List Addr) (F : Hp) (x : Exc) (cls : Value) (dx : Option Addr) : Prop :=
  ∃ C, cls = .ref C ∧ mg x.c = some (.ref C) ∧ (match dx with
    | none => x.ns = [] ∧ x.dict = false
    | some d => x.dict = true ∧ ∃ gs, F d = some (.xd gs) ∧ x.ns = gs.map (·.1) ∧ Reps K mg r F x.vs (gs.map (·.2)))
section
variable (K : PySem.W.Frag) (mg : Str → Option Value)
def PoV (T : Hp) (r : List Addr) (F H : Hp) (m : Option (D × AH)) (Q : VK) : Prop := match m with
  | some (d, ah') => ∀ r' F' H' v, Ext r r' F F' H H' → Sim K mg T r' F' H' ah' → Rep K mg r' F' d v → Q v H'
  | none => False
def PoX (T : Hp) (W : WX) (r : List Addr) (F H : Hp) (s : L2.St) (x : Exc) (ah' : AH) : Prop :=
  ∀ r' F' H' cls dx, Ext r r' F F' H H' → Sim K mg T r' F' H' ah' → RepX K mg r' F' x cls dx → W cls dx s H'
def PoE (T : Hp) (W : WX) (r : List Addr) (F H : Hp) (s : L2.St) (m : RE) (Q : VK) : Prop := match m with
  | .ok d ah' => ∀ r' F' H' v, Ext r r' F F' H H' → Sim K mg T r' F' H' ah' → Rep K mg r' F' d v → Q v H'
  | .exc x ah' => PoX K mg T W r F H s x ah'
  | .bad => False
def PoT (T : Hp) (W : WX) (r : List Addr) (F H : Hp) (s : L2.St) (m : RE) (Q : Bool → Hp → Prop) : Prop := match m with
  | .ok (.bl b) ah' => ∀ r' F' H', Ext r r' F F' H H' → Sim K mg T r' F' H' ah' → Q b H'
  | .ok _ _ => False
  | .exc x ah' => PoX K mg T W r F H s x ah'
  | .bad => False
def PoA (T : Hp) (W : WX) (r : List Addr) (F H : Hp) (s : L2.St) (m : RE) (Q : List V → Hp → Prop) : Prop := match m with
  | .ok (.lst ds) ah' => ∀ r' F' H' vs, Ext r r' F F' H H' → Sim K mg T r' F' H' ah' → Reps K mg r' F' ds vs → Q vs H'
  | .ok _ _ => False
  | .exc x ah' => PoX K mg T W r F H s x ah'
  | .bad => False
def PoS (T : Hp) (W : WX) (r : List Addr) (F H : Hp) (m : RS) (D : Ends) : Prop := match m with
  | .nx sd' ah' => ∀ r' F' H' s', Ext r r' F F' H H' → Sim K mg T r' F' H' ah' → Slots K mg r' F' sd' s' → D.nx s' H'
  | .brk sd' ah' => ∀ r' F' H' s', Ext r r' F F' H H' → Sim K mg T r' F' H' ah' → Slots K mg r' F' sd' s' → D.bk s' H'
  | .cnt sd' ah' => ∀ r' F' H' s', Ext r r' F F' H H' → Sim K mg T r' F' H' ah' → Slots K mg r' F' sd' s' → D.ct s' H'
  | .ret d ah' => ∀ r' F' H' v, Ext r r' F F' H H' → Sim K mg T r' F' H' ah' → Rep K mg r' F' d v → D.rt v H'
  | .exc x sd' ah' => ∀ r' F' H' s' cls dx, Ext r r' F F' H H' → Sim K mg T r' F' H' ah' → Slots K mg r' F' sd' s' → RepX K mg r' F' x cls dx → W cls dx s' H'
  | .bad => False
def wpE (W : WX) (m : ME) : TE := fun s H Q => ∃ T r F sd ah, Sim K mg T r F H ah ∧ Slots K mg r F sd s ∧ PoE K mg T W r F H s (m sd ah) Q
def wpT (W : WX) (m : ME) : TT := fun s H Q => ∃ T r F sd ah, Sim K mg T r F H ah ∧ Slots K mg r F sd s ∧ PoT K mg T W r F H s (m sd ah) Q
def wpA (W : WX) (m : ME) : TA := fun s H Q => ∃ T r F sd ah, Sim K mg T r F H ah ∧ Slots K mg r F sd s ∧ PoA K mg T W r F H s (m sd ah) Q
def wpS (W : WX) (m : MS) : TS := fun D s H => ∃ T r F sd ah, Sim K mg T r F H ah ∧ Slots K mg r F sd s ∧ PoS K mg T W r F H (m sd ah) D
end
def JE (X : Cx) (W : WX) (m : ME) (e : Expr) : Prop := PE X e (wpE X.K X.mg W m)
def JT (X : Cx) (W : WX) (m : ME) (e : Expr) : Prop := PT X e (wpT X.K X.mg W m)
def JW (X : Cx) (W : WX) (m : ME) (e : Expr) : Prop := PW X e (wpT X.K X.mg W m)
def JA (X : Cx) (W : WX) (m : ME) (es : List Expr) : Prop := PA X es (wpA X.K X.mg W m)
def JS (X : Cx) (W : WX) (m : MS) (st : Stmt) : Prop := PS X st (wpS X.K X.mg W m)
def JSs (X : Cx) (W : WX) (m : MS) (st : List Stmt) : Prop := PSs X st (wpS X.K X.mg W m)
section
variable {X : Cx} {e : Expr} {es : List Expr} {st : Stmt} {sts : List Stmt}
theorem impE {t t' : TE} (h : PE X e t) (i : ∀ s H Q, t' s H Q → t s H Q) : PE X e t' := ⟨fun p s σ H Q I q => h.run p s σ H Q I (i _ _ _ q)⟩
theorem impT {t t' : TT} (h : PT X e t) (i : ∀ s H Q, t' s H Q → t s H Q) : PT X e t' := ⟨fun p s σ H Q I q => h.run p s σ H Q I (i _ _ _ q)⟩
theorem impW {t t' : TT} (h : PW X e t) (i : ∀ s H Q, t' s H Q → t s H Q) : PW X e t' := ⟨fun w p s σ H Q I q => h.run w p s σ H Q I (i _ _ _ q)⟩
theorem impA {t t' : TA} (h : PA X es t) (i : ∀ s H Q, t' s H Q → t s H Q) : PA X es t' := ⟨fun o p s σ H Q I q => h.run o p s σ H Q I (i _ _ _ q)⟩
theorem impS {t t' : TS} (h : PS X st t) (i : ∀ D s H, t' D s H → t D s H) : PS X st t' := ⟨fun p s σ H D I q => h.run p s σ H D I (i _ _ _ q)⟩
theorem impSs {t t' : TS} (h : PSs X sts t) (i : ∀ D s H, t' D s H → t D s H) : PSs X sts t' := ⟨fun p s σ H D I q => h.run p s σ H D I (i _ _ _ q)⟩
end
section
variable {K : PySem.W.Frag} {mg : Str → Option Value} {W : WX} {r r1 : List Addr} {T F F1 H H1 : Hp} {s : L2.St} {sd : SD} {ah : AH} {Q Q' : VK}
theorem PoX.ext {x : Exc} (e : Ext r r1 F F1 H H1) (h : PoX K mg T W r F H s x ah) : PoX K mg T W r1 F1 H1 s x ah := fun r' F' H' cls dx e' => h r' F' H' cls dx (e.trans e')
theorem PoE.ext {m : RE} (e : Ext r r1 F F1 H H1) (h : PoE K mg T W r F H s m Q) : PoE K mg T W r1 F1 H1 s m Q := by
  cases m with
  | ok d a => exact fun r' F' H' v e' => h r' F' H' v (e.trans e')
  | exc x a => exact PoX.ext e h
  | bad => exact h
theorem PoV.ext {m : Option (D × AH)} (e : Ext r r1 F F1 H H1) (h : PoV K mg T r F H m Q) : PoV K mg T r1 F1 H1 m Q := by
  cases m with
  | some p => obtain ⟨d, a⟩ := p; exact fun r' F' H' v e' => h r' F' H' v (e.trans e')
  | none => exact h
theorem PoT.ext {m : RE} {Q : Bool → Hp → Prop} (e : Ext r r1 F F1 H H1) (h : PoT K mg T W r F H s m Q) : PoT K mg T W r1 F1 H1 s m Q := by
  cases m with
  | ok d a => cases d <;> first | exact h | exact fun r' F' H' e' => h r' F' H' (e.trans e')
  | exc x a => exact PoX.ext e h
  | bad => exact h
theorem PoA.ext {m : RE} {Q : List V → Hp → Prop} (e : Ext r r1 F F1 H H1) (h : PoA K mg T W r F H s m Q) : PoA K mg T W r1 F1 H1 s m Q := by
  cases m with
  | ok d a => cases d <;> first | exact h | exact fun r' F' H' v e' => h r' F' H' v (e.trans e')
  | exc x a => exact PoX.ext e h
  | bad => exact h
theorem PoS.ext {m : RS} {D : Ends} (e : Ext r r1 F F1 H H1) (h : PoS K mg T W r F H m D) : PoS K mg T W r1 F1 H1 m D := by
  cases m with
  | nx _ _ => exact fun r' F' H' v e' => h r' F' H' v (e.trans e')
  | brk _ _ => exact fun r' F' H' v e' => h r' F' H' v (e.trans e')
  | cnt _ _ => exact fun r' F' H' v e' => h r' F' H' v (e.trans e')
  | ret _ _ => exact fun r' F' H' v e' => h r' F' H' v (e.trans e')
  | exc x s a => exact fun r' F' H' s' cls dx e' => h r' F' H' s' cls dx (e.trans e')
  | bad => exact h
theorem PoE.of_lift {o : Option (D × AH)} (h : PoE K mg T W r F H s (lift o) Q) : PoV K mg T r F H o Q := by
  cases o with
  | none => exact h
  | some p => exact h
/-- first m, then the rest -/
theorem mkE {m : ME} {k : D → AH → RE} (S : Sim K mg T r F H ah) (L : Slots K mg r F sd s) (P : PoE K mg T W r F H s ((m sd ah).bind k) Q)
    (h : ∀ d ah1 r1 F1 H1 v, Ext r r1 F F1 H H1 → Sim K mg T r1 F1 H1 ah1 → Slots K mg r1 F1 sd s → Rep K mg r1 F1 d v → PoE K mg T W r1 F1 H1 s (k d ah1) Q → Q' v H1) : wpE K mg W m s H Q' := by
  refine ⟨T, r, F, sd, ah, S, L, ?_⟩
  cases e : m sd ah with
  | ok d a =>
    rw [e] at P
    exact fun r1 F1 H1 v x S1 R1 => h d a r1 F1 H1 v x S1 (x.slots L) R1 (PoE.ext x P)
  | exc x a => rw [e] at P; exact P
  | bad => rw [e] at P; exact P
theorem mkES {m : ME} {k : D → AH → RS} {D : Ends} (S : Sim K mg T r F H ah) (L : Slots K mg r F sd s) (P : PoS K mg T W r F H ((m sd ah).toS sd k) D)
    (h : ∀ d ah1 r1 F1 H1 v, Ext r r1 F F1 H H1 → Sim K mg T r1 F1 H1 ah1 → Slots K mg r1 F1 sd s → Rep K mg r1 F1 d v → PoS K mg T W r1 F1 H1 (k d ah1) D → Q' v H1) : wpE K mg W m s H Q' := by
  refine ⟨T, r, F, sd, ah, S, L, ?_⟩
  cases e : m sd ah with
  | ok d a =>
    rw [e] at P
    exact fun r1 F1 H1 v x S1 R1 => h d a r1 F1 H1 v x S1 (x.slots L) R1 (PoS.ext x P)
  | exc x a =>
    rw [e] at P
    exact fun r' F' H' cls dx e' S' R' => P r' F' H' s cls dx e' S' (e'.slots L) R'
  | bad => rw [e] at P; exact P
/-- .. where the end is a truth's -/
theorem mkET {m : ME} {k : D → AH → RE} {Q : Bool → Hp → Prop} (S : Sim K mg T r F H ah) (L : Slots K mg r F sd s) (P : PoT K mg T W r F H s ((m sd ah).bind k) Q)
    (h : ∀ d ah1 r1 F1 H1 v, Ext r r1 F F1 H H1 → Sim K mg T r1 F1 H1 ah1 → Slots K mg r1 F1 sd s → Rep K mg r1 F1 d v → PoT K mg T W r1 F1 H1 s (k d ah1) Q → Q' v H1) : wpE K mg W m s H Q' := by
  refine ⟨T, r, F, sd, ah, S, L, ?_⟩
  cases e : m sd ah with
  | ok d a =>
    rw [e] at P
    exact fun r1 F1 H1 v x S1 R1 => h d a r1 F1 H1 v x S1 (x.slots L) R1 (PoT.ext x P)
  | exc x a => rw [e] at P; exact P
  | bad => rw [e] at P; exact P
/-- a test: its answer decides how it goes on -/
def RE.test (m : RE) (a b : AH → RE) : RE := match m with
  | .ok (.bl true) h => a h
  | .ok (.bl false) h => b h
  | .ok _ _ => .bad
  | .exc x h => .exc x h
  | .bad => .bad
def RE.testS (m : RE) (sd : SD) (a b : AH → RS) : RS := match m with
  | .ok (.bl true) h => a h
  | .ok (.bl false) h => b h
  | .ok _ _ => .bad
  | .exc x h => .exc x sd h
  | .bad => .bad
theorem mkT {m : ME} {a b : AH → RE} {Q' : Bool → Hp → Prop} (S : Sim K mg T r F H ah) (L : Slots K mg r F sd s) (P : PoE K mg T W r F H s ((m sd ah).test a b) Q)
    (h : ∀ c ah1 r1 F1 H1, Ext r r1 F F1 H H1 → Sim K mg T r1 F1 H1 ah1 → Slots K mg r1 F1 sd s → PoE K mg T W r1 F1 H1 s (if c = true then a ah1 else b ah1) Q → Q' c H1) : wpT K mg W m s H Q' := by
  refine ⟨T, r, F, sd, ah, S, L, ?_⟩
  cases e : m sd ah with
  | ok d a =>
    rw [e] at P
    cases d with
    | bl c => cases c <;> exact fun r1 F1 H1 x S1 => h _ a r1 F1 H1 x S1 (x.slots L) (PoE.ext x P)
    | _ => exact P
  | exc x a => rw [e] at P; exact P
  | bad => rw [e] at P; exact P
theorem mkTT {m : ME} {a b : AH → RE} {Q Q' : Bool → Hp → Prop} (S : Sim K mg T r F H ah) (L : Slots K mg r F sd s) (P : PoT K mg T W r F H s ((m sd ah).test a b) Q)
    (h : ∀ c ah1 r1 F1 H1, Ext r r1 F F1 H H1 → Sim K mg T r1 F1 H1 ah1 → Slots K mg r1 F1 sd s → PoT K mg T W r1 F1 H1 s (if c = true then a ah1 else b ah1) Q → Q' c H1) : wpT K mg W m s H Q' := by
  refine ⟨T, r, F, sd, ah, S, L, ?_⟩
  cases e : m sd ah with
  | ok d a =>
    rw [e] at P
    cases d with
    | bl c => cases c <;> exact fun r1 F1 H1 x S1 => h _ a r1 F1 H1 x S1 (x.slots L) (PoT.ext x P)
    | _ => exact P
  | exc x a => rw [e] at P; exact P
  | bad => rw [e] at P; exact P
theorem mkTS {m : ME} {a b : AH → RS} {D : Ends} {Q' : Bool → Hp → Prop} (S : Sim K mg T r F H ah) (L : Slots K mg r F sd s) (P : PoS K mg T W r F H ((m sd ah).testS sd a b) D)
    (h : ∀ c ah1 r1 F1 H1, Ext r r1 F F1 H H1 → Sim K mg T r1 F1 H1 ah1 → Slots K mg r1 F1 sd s → PoS K mg T W r1 F1 H1 (if c = true then a ah1 else b ah1) D → Q' c H1) : wpT K mg W m s H Q' := by
  refine ⟨T, r, F, sd, ah, S, L, ?_⟩
  cases e : m sd ah with
  | ok d a =>
    rw [e] at P
    cases d with
    | bl c => cases c <;> exact fun r1 F1 H1 x S1 => h _ a r1 F1 H1 x S1 (x.slots L) (PoS.ext x P)
    | _ => exact P
  | exc x a =>
    rw [e] at P
    exact fun r' F' H' cls dx e' S' R' => P r' F' H' s cls dx e' S' (e'.slots L) R'
  | bad => rw [e] at P; exact P
/-- a list of arguments first -/
def RE.args (m : RE) (k : List D → AH → RE) : RE := match m with
  | .ok (.lst ds) h => k ds h
  | .ok _ _ => .bad
  | .exc x h => .exc x h
  | .bad => .bad
theorem mkA {m : ME} {k : List D → AH → RE} {Q' : List V → Hp → Prop} (S : Sim K mg T r F H ah) (L : Slots K mg r F sd s) (P : PoE K mg T W r F H s ((m sd ah).args k) Q)
    (h : ∀ ds ah1 r1 F1 H1 vs, Ext r r1 F F1 H H1 → Sim K mg T r1 F1 H1 ah1 → Slots K mg r1 F1 sd s → Reps K mg r1 F1 ds vs → PoE K mg T W r1 F1 H1 s (k ds ah1) Q → Q' vs H1) : wpA K mg W m s H Q' := by
  refine ⟨T, r, F, sd, ah, S, L, ?_⟩
  cases e : m sd ah with
  | ok d a =>
    rw [e] at P
    cases d with
    | lst ds => exact fun r1 F1 H1 vs x S1 R => h _ a r1 F1 H1 vs x S1 (x.slots L) R (PoE.ext x P)
    | _ => exact P
  | exc x a => rw [e] at P; exact P
  | bad => rw [e] at P; exact P
theorem mkAA {m : ME} {k : List D → AH → RE} {Q Q' : List V → Hp → Prop} (S : Sim K mg T r F H ah) (L : Slots K mg r F sd s) (P : PoA K mg T W r F H s ((m sd ah).args k) Q)
    (h : ∀ ds ah1 r1 F1 H1 vs, Ext r r1 F F1 H H1 → Sim K mg T r1 F1 H1 ah1 → Slots K mg r1 F1 sd s → Reps K mg r1 F1 ds vs → PoA K mg T W r1 F1 H1 s (k ds ah1) Q → Q' vs H1) : wpA K mg W m s H Q' := by
  refine ⟨T, r, F, sd, ah, S, L, ?_⟩
  cases e : m sd ah with
  | ok d a =>
    rw [e] at P
    cases d with
    | lst ds => exact fun r1 F1 H1 vs x S1 R => h _ a r1 F1 H1 vs x S1 (x.slots L) R (PoA.ext x P)
    | _ => exact P
  | exc x a => rw [e] at P; exact P
  | bad => rw [e] at P; exact P
theorem mkEA {m : ME} {k : D → AH → RE} {Q : List V → Hp → Prop} (S : Sim K mg T r F H ah) (L : Slots K mg r F sd s) (P : PoA K mg T W r F H s ((m sd ah).bind k) Q)
    (h : ∀ d ah1 r1 F1 H1 v, Ext r r1 F F1 H H1 → Sim K mg T r1 F1 H1 ah1 → Slots K mg r1 F1 sd s → Rep K mg r1 F1 d v → PoA K mg T W r1 F1 H1 s (k d ah1) Q → Q' v H1) : wpE K mg W m s H Q' := by
  refine ⟨T, r, F, sd, ah, S, L, ?_⟩
  cases e : m sd ah with
  | ok d a =>
    rw [e] at P
    exact fun r1 F1 H1 v x S1 R1 => h d a r1 F1 H1 v x S1 (x.slots L) R1 (PoA.ext x P)
  | exc x a => rw [e] at P; exact P
  | bad => rw [e] at P; exact P
end
/-- an end at once -/
theorem PoE.ret {K : PySem.W.Frag} {mg : Str → Option Value} {W : WX} {r : List Addr} {T F H : Hp} {s : L2.St} {d : D} {ah : AH} {Q : VK} {v : V} (P : PoE K mg T W r F H s (.ok d ah) Q) (S : Sim K mg T r F H ah) (R : Rep K mg r F d v) : Q v H :=
  P r F H v .refl S R

/-! ### names and constants -/
section
variable {X : Cx} {W : WX} {pos : Pos}
def mVar (i : Nat) : ME := fun sd ah => match sd[i]? with
  | some (some d) => .ok d ah
  | _ => .bad
def mC (d : D) : ME := fun _ ah => .ok d ah
theorem je_var (i : Nat) {x : Str} (hN : X.N[i]? = some x := by rfl) (hv : Vis X.env.scope x := by first | exact Or.inl rfl | exact Or.inr (Or.inl rfl) | exact Or.inr (Or.inr rfl)) (hd : (x == ("__debug__" : Str)) = false := by decide)
    (hcd : (x == ("__classdict__" : Str)) = false := by decide) : JE X W (mVar i) (.Name x pos) := impE (pe_var hN hv hd hcd) fun s H Q ⟨T, r, F, sd, ah, S, L, P⟩ => by
  unfold mVar at P
  split at P
  · rename_i d e
    obtain ⟨v, h1, h2⟩ := L.2 i d e
    exact ⟨v, h1, P.ret S h2⟩
  · exact P.elim
/-- the name's cell is read and frozen -/
def mVarF (i : Nat) : ME := fun sd ah => match sd[i]? with
  | some (some (.cell n)) => (match ah[n]? with
    | some (some c) => .ok c (ah.set n none)
    | _ => .bad)
  | _ => .bad
theorem je_varF (i : Nat) {x : Str} (hN : X.N[i]? = some x := by rfl) (hv : Vis X.env.scope x := by first | exact Or.inl rfl | exact Or.inr (Or.inl rfl) | exact Or.inr (Or.inr rfl)) (hd : (x == ("__debug__" : Str)) = false := by decide)
    (hcd : (x == ("__classdict__" : Str)) = false := by decide) : JE X W (mVarF i) (.Name x pos) := impE (pe_var hN hv hd hcd) fun s H Q ⟨T, r, F, sd, ah, S, L, P⟩ => by
  unfold mVarF at P
  split at P
  · rename_i n e
    split at P
    · rename_i c e2
      obtain ⟨v, h1, h2⟩ := L.2 i _ e
      unfold Rep at h2
      obtain ⟨a, rfl, h3⟩ := h2
      obtain ⟨F', S', x', R'⟩ := S.freeze e2 h3
      exact ⟨_, h1, P r F' H _ x' S' R'⟩
    · exact P.elim
  · exact P.elim
section
variable {j : Nat}
theorem je_int {i : Int} : JE X W (mC (.int i)) (.Constant (.int i) j pos) := impE pe_int fun s H Q ⟨T, r, F, sd, ah, S, L, P⟩ => P.ret S (by unfold Rep; rfl)
theorem je_bl {b : Bool} : JE X W (mC (.bl b)) (.Constant (.bool b) j pos) := impE pe_bl fun s H Q ⟨T, r, F, sd, ah, S, L, P⟩ => P.ret S (by unfold Rep; rfl)
theorem je_non : JE X W (mC .non) (.Constant .none j pos) := impE pe_non fun s H Q ⟨T, r, F, sd, ah, S, L, P⟩ => P.ret S (by unfold Rep; rfl)
theorem je_str {x : Str} (hx : PySem.PyData.strOk x = true := by decide +kernel) : JE X W (mC (.str x)) (.Constant (.str x) j pos) := impE pe_str fun s H Q ⟨T, r, F, sd, ah, S, L, P⟩ => P.ret S (by unfold Rep; exact ⟨rfl, hx⟩)
end
/-! ### operators by values -/
abbrev FB := D → D → AH → Option (D × AH)
abbrev FU := D → AH → Option (D × AH)
def OpD (K : PySem.W.Frag) (mg : Str → Option Value) (rr : R2) (f : FB) : Prop := ∀ T r F H ah d1 d2 v1 v2 Q, Sim K mg T r F H ah → Rep K mg r F d1 v1 → Rep K mg r F d2 v2 → PoV K mg T r F H (f d1 d2 ah) Q → rr v1 v2 H Q
def UnD (K : PySem.W.Frag) (mg : Str → Option Value) (rr : V → Hp → VK → Prop) (f : FU) : Prop := ∀ T r F H ah d v Q, Sim K mg T r F H ah → Rep K mg r F d v → PoV K mg T r F H (f d ah) Q → rr v H Q
def CallD (K : PySem.W.Frag) (mg : Str → Option Value) (rr : List V → Hp → VK → Prop) (f : List D → AH → Option (D × AH)) : Prop := ∀ T r F H ah ds vs Q, Sim K mg T r F H ah → Reps K mg r F ds vs → PoV K mg T r F H (f ds ah) Q → rr vs H Q
def mOp (f : FB) (ma mb : ME) : ME := fun sd ah => (ma sd ah).bind fun d1 a1 => (mb sd a1).bind fun d2 a2 => lift (f d1 d2 a2)
def mUn (f : FU) (ma : ME) : ME := fun sd ah => (ma sd ah).bind fun d a1 => lift (f d a1)
variable {a b c : Expr} {ma mb mc : ME} {rr rr' : R2} {f f' : FB}
theorem je_op {op : Operator} (ho : OpR X (binaryOp op) rr) (hf : OpD X.K X.mg rr f) (ha : JE X W ma a) (hb : JE X W mb b) : JE X W (mOp f ma mb) (.BinOp a op b pos) :=
  impE (pe_op ho ha hb) fun s H Q ⟨T, r, F, sd, ah, S, L, P⟩ => mkE S L P fun d1 ah1 r1 F1 H1 x e1 S1 L1 R1 P1 => mkE S1 L1 P1 fun d2 ah2 r2 F2 H2 y e2 S2 L2 R2 P2 => hf _ _ _ _ _ _ _ _ _ _ S2 (e2.rep R1) R2 P2.of_lift
theorem je_un {op : UnaryOp} {rr : V → Hp → VK → Prop} {f : FU} (ho : UnR X (unaryOp op) rr) (hf : UnD X.K X.mg rr f) (ha : JE X W ma a) : JE X W (mUn f ma) (.UnaryOp op a pos) :=
  impE (pe_un ho ha) fun s H Q ⟨T, r, F, sd, ah, S, L, P⟩ => mkE S L P fun d1 ah1 r1 F1 H1 x e1 S1 L1 R1 P1 => hf _ _ _ _ _ _ _ _ S1 R1 P1.of_lift
theorem je_cmp {op : CmpOp} (ho : OpR X (compareOp op) rr) (hf : OpD X.K X.mg rr f) (ha : JE X W ma a) (hb : JE X W mb b) (hm : behindInMarks op b = false := by first | exact nomark _ | rfl) : JE X W (mOp f ma mb) (.Compare a [op] [b] pos) :=
  impE (pe_cmpR ho ha hb hm) fun s H Q ⟨T, r, F, sd, ah, S, L, P⟩ => mkE S L P fun d1 ah1 r1 F1 H1 x e1 S1 L1 R1 P1 => mkE S1 L1 P1 fun d2 ah2 r2 F2 H2 y e2 S2 L2 R2 P2 => hf _ _ _ _ _ _ _ _ _ _ S2 (e2.rep R1) R2 P2.of_lift
/-- a value's truth, where it is a bool -/
theorem PoT.bl {K : PySem.W.Frag} {mg : Str → Option Value} {r : List Addr} {T F H : Hp} {s : L2.St} {m : RE} {Q : Bool → Hp → Prop} (P : PoT K mg T W r F H s m Q) : PoE K mg T W r F H s m (fun x H' => ∃ k, x = .bl k ∧ Q k H') := by
  cases m with
  | ok d a =>
    cases d with
    | bl b =>
      intro r' F' H' v e S R
      unfold Rep at R
      exact ⟨b, R, P r' F' H' e S⟩
    | _ => exact P.elim
  | exc x a => exact P
  | bad => exact P
theorem jt_cmp {op : CmpOp} (ho : OpR X (compareOp op) rr) (hf : OpD X.K X.mg rr f) (ha : JE X W ma a) (hb : JE X W mb b) (hm : behindInMarks op b = false := by first | exact nomark _ | rfl) : JT X W (mOp f ma mb) (.Compare a [op] [b] pos) :=
  impT (pt_cmpR ho ha hb hm) fun s H Q ⟨T, r, F, sd, ah, S, L, P⟩ => mkE S L P.bl fun d1 ah1 r1 F1 H1 x e1 S1 L1 R1 P1 => mkE S1 L1 P1 fun d2 ah2 r2 F2 H2 y e2 S2 L2 R2 P2 => hf _ _ _ _ _ _ _ _ _ _ S2 (e2.rep R1) R2 P2.of_lift
/-- a value that is a bool, as a test -/
theorem jt_val (h : JE X W ma a) (he : ∀ whole, isTrue a X.env whole = (do let v ← whole; standAt a.pos; holding [v] (truthy v)) := by intro _; rfl) : JT X W ma a :=
  impT (pt_val h he) fun s H Q ⟨T, r, F, sd, ah, S, L, P⟩ => ⟨T, r, F, sd, ah, S, L, P.bl⟩
/-- a op b op' c -/
def mChain (f f' : FB) (ma mb mc : ME) : ME := fun sd ah => (ma sd ah).bind fun d1 a1 => (mb sd a1).bind fun d2 a2 => (lift (f d1 d2 a2)).test (fun a3 => (mc sd a3).bind fun d3 a4 => lift (f' d2 d3 a4)) fun a3 => .ok (.bl false) a3
/-! ### and, or, not -/
def mAnd (ma mb : ME) : ME := fun sd ah => (ma sd ah).test (fun a1 => mb sd a1) fun a1 => .ok (.bl false) a1
def mOr (ma mb : ME) : ME := fun sd ah => (ma sd ah).test (fun a1 => .ok (.bl true) a1) fun a1 => mb sd a1
def mNot (ma : ME) : ME := fun sd ah => (ma sd ah).test (fun a1 => .ok (.bl false) a1) fun a1 => .ok (.bl true) a1
def mIf (mc ma mb : ME) : ME := fun sd ah => (mc sd ah).test (fun a1 => ma sd a1) fun a1 => mb sd a1
variable {rest : List Expr}
theorem jw_and1 (ha : JT X W ma a) : JW X W ma (.BoolOp .And [a] pos) := pw_and1 ha
theorem jw_or1 (ha : JT X W ma a) : JW X W ma (.BoolOp .Or [a] pos) := pw_or1 ha
theorem jw_and (ha : JT X W ma a) (hb : JW X W mb (.BoolOp .And (b :: rest) pos)) : JW X W (mAnd ma mb) (.BoolOp .And (a :: b :: rest) pos) :=
  impW (pw_and ha hb) fun s H Q ⟨T, r, F, sd, ah, S, L, P⟩ => mkTT S L P fun c ah1 r1 F1 H1 e1 S1 L1 P1 => by
    cases c with
    | true => exact ⟨T, r1, F1, sd, ah1, S1, L1, P1⟩
    | false => exact P1 r1 F1 H1 .refl S1
theorem jw_or (ha : JT X W ma a) (hb : JW X W mb (.BoolOp .Or (b :: rest) pos)) : JW X W (mOr ma mb) (.BoolOp .Or (a :: b :: rest) pos) :=
  impW (pw_or ha hb) fun s H Q ⟨T, r, F, sd, ah, S, L, P⟩ => mkTT S L P fun c ah1 r1 F1 H1 e1 S1 L1 P1 => by
    cases c with
    | true => exact P1 r1 F1 H1 .refl S1
    | false => exact ⟨T, r1, F1, sd, ah1, S1, L1, P1⟩
theorem jt_w (h : JW X W ma a) : JT X W ma a := PW.pt h
theorem jt_not (ha : JT X W ma a) : JT X W (mNot ma) (.UnaryOp .Not a pos) :=
  impT (pt_not ha) fun s H Q ⟨T, r, F, sd, ah, S, L, P⟩ => mkTT S L P fun c ah1 r1 F1 H1 e1 S1 L1 P1 => by
    cases c with
    | true => exact P1 r1 F1 H1 .refl S1
    | false => exact P1 r1 F1 H1 .refl S1
theorem repBl {K : PySem.W.Frag} {mg : Str → Option Value} {r : List Addr} {F : Hp} {b : Bool} : Rep K mg r F (.bl b) (.bl b) := by unfold Rep; rfl
/-- a bool's run seen as a test's -/
theorem mkB {K : PySem.W.Frag} {mg : Str → Option Value} {r : List Addr} {T F H : Hp} {s : L2.St} {sd : SD} {ah : AH} {Q Q' : VK} {m : ME} {A B : AH → RE} (S : Sim K mg T r F H ah) (L : Slots K mg r F sd s) (P : PoE K mg T W r F H s ((m sd ah).test A B) Q)
    (h : ∀ c ah1 r1 F1 H1, Ext r r1 F F1 H H1 → Sim K mg T r1 F1 H1 ah1 → Slots K mg r1 F1 sd s → PoE K mg T W r1 F1 H1 s (if c = true then A ah1 else B ah1) Q → Q' (.bl c) H1) : wpE K mg W m s H Q' := by
  refine ⟨T, r, F, sd, ah, S, L, ?_⟩
  cases e : m sd ah with
  | ok d a =>
    rw [e] at P
    cases d with
    | bl c =>
      cases c <;> (
        intro r1 F1 H1 v x S1 R
        unfold Rep at R
        subst R
        exact h _ a r1 F1 H1 x S1 (x.slots L) (PoE.ext x P))
    | _ => exact P.elim
  | exc x a => rw [e] at P; exact P
  | bad => rw [e] at P; exact P
theorem je_one {op : BoolOp} (h : JE X W ma a) : JE X W ma (.BoolOp op [a] pos) := pe_one h
theorem je_and (ha : JE X W ma a) (hb : JE X W mb (.BoolOp .And (b :: rest) pos)) : JE X W (mAnd ma mb) (.BoolOp .And (a :: b :: rest) pos) :=
  impE (pe_and ha hb) fun s H Q ⟨T, r, F, sd, ah, S, L, P⟩ => mkB S L P fun c ah1 r1 F1 H1 e1 S1 L1 P1 => ⟨c, rfl, by
    cases c with
    | true => exact ⟨T, r1, F1, sd, ah1, S1, L1, P1⟩
    | false => exact P1.ret S1 repBl⟩
theorem je_or (ha : JE X W ma a) (hb : JE X W mb (.BoolOp .Or (b :: rest) pos)) : JE X W (mOr ma mb) (.BoolOp .Or (a :: b :: rest) pos) :=
  impE (pe_or ha hb) fun s H Q ⟨T, r, F, sd, ah, S, L, P⟩ => mkB S L P fun c ah1 r1 F1 H1 e1 S1 L1 P1 => ⟨c, rfl, by
    cases c with
    | true => exact P1.ret S1 repBl
    | false => exact ⟨T, r1, F1, sd, ah1, S1, L1, P1⟩⟩
theorem je_not (ha : JE X W ma a) : JE X W (mNot ma) (.UnaryOp .Not a pos) :=
  impE (pe_not ha) fun s H Q ⟨T, r, F, sd, ah, S, L, P⟩ => mkB S L P fun c ah1 r1 F1 H1 e1 S1 L1 P1 => ⟨c, rfl, by
    cases c <;> exact P1.ret S1 repBl⟩
theorem je_if (hc : JT X W mc c) (ha : JE X W ma a) (hb : JE X W mb b) : JE X W (mIf mc ma mb) (.IfExp c a b pos) :=
  impE (pe_ifExp hc ha hb) fun s H Q ⟨T, r, F, sd, ah, S, L, P⟩ => mkT S L P fun c ah1 r1 F1 H1 e1 S1 L1 P1 => by
    cases c with
    | true => exact ⟨T, r1, F1, sd, ah1, S1, L1, P1⟩
    | false => exact ⟨T, r1, F1, sd, ah1, S1, L1, P1⟩
/-! ### arguments, displays -/
def aNil : ME := fun _ ah => .ok (.lst []) ah
def aCons (ma mr : ME) : ME := fun sd ah => (ma sd ah).bind fun d a1 => (mr sd a1).args fun ds a2 => .ok (.lst (d :: ds)) a2
theorem ja_nil : JA X W aNil [] := impA pa_nil fun s H Q ⟨T, r, F, sd, ah, S, L, P⟩ => P r F H [] .refl S .nil
theorem ja_cons {es : List Expr} {mr : ME} (ha : JE X W ma a) (hr : JA X W mr es) (hs : starEach (a :: es) X.env = (false, eval a X.env) :: starEach es X.env := by rfl) : JA X W (aCons ma mr) (a :: es) :=
  impA (pa_cons ha hr hs) fun s H Q ⟨T, r, F, sd, ah, S, L, P⟩ => mkEA S L P fun d1 ah1 r1 F1 H1 x e1 S1 L1 R1 P1 => mkAA S1 L1 P1 fun ds ah2 r2 F2 H2 vs e2 S2 L2 R2 P2 => P2 r2 F2 H2 (x :: vs) .refl S2 (.cons (e2.rep R1) R2)
/-- a new object: frozen at once, or live -/
def mkA' (fz : Bool) (c : D) (ah : AH) : RE := if fz = true then .ok c ah else .ok (.cell ah.length) (ah ++ [some c])
theorem new_obj {K : PySem.W.Frag} {mg : Str → Option Value} {r : List Addr} {T F H : Hp} {s : L2.St} {ah : AH} {Q : VK} {fz : Bool} {c : D} {o : HO} {p : Addr} (S : Sim K mg T r F H ah) (hp : H p = none) (ro : RepO K mg r F c o)
    (P : PoE K mg T W r F H s (mkA' fz c ah) Q) : Q (.ref p) (upd H p o) := by
  cases fz with
  | true =>
    obtain ⟨S', x, e⟩ := S.freshF (o := o) hp
    exact P _ _ _ _ x S' (Rep.ofO (ro.mono x.pre x.fro) e)
  | false =>
    obtain ⟨S', x, e⟩ := S.freshC hp ro
    exact P _ _ _ _ x S' (by unfold Rep; exact ⟨p, rfl, e⟩)
def mLst (fz : Bool) (m : ME) : ME := fun sd ah => (m sd ah).args fun ds a1 => if ds.length ≤ sizeLine then mkA' fz (.lst ds) a1 else .bad
def mTup (m : ME) : ME := fun sd ah => (m sd ah).args fun ds a1 => if ds.length ≤ sizeLine then .ok (.tup ds) a1 else .bad
theorem je_lst (fz : Bool) {es : List Expr} {m : ME} (h : JA X W m es) : JE X W (mLst fz m) (.List es pos) :=
  impE (pe_lst h) fun s H Q ⟨T, r, F, sd, ah, S, L, P⟩ => mkA S L P fun ds ah1 r1 F1 H1 vs e1 S1 L1 R1 P1 => by
    by_cases hl : ds.length ≤ sizeLine
    · rw [if_pos hl] at P1
      exact ⟨by rw [← R1.length]; exact hl, fun p hp => new_obj (c := .lst ds) S1 hp ⟨vs, rfl, R1⟩ P1⟩
    · rw [if_neg hl] at P1
      exact P1.elim
theorem je_tup {es : List Expr} {m : ME} {k : Nat} (h : JA X W m es) : JE X W (mTup m) (.Tuple es k pos) :=
  impE (pe_tup h) fun s H Q ⟨T, r, F, sd, ah, S, L, P⟩ => mkA S L P fun ds ah1 r1 F1 H1 vs e1 S1 L1 R1 P1 => by
    by_cases hl : ds.length ≤ sizeLine
    · rw [if_pos hl] at P1
      refine ⟨by rw [← R1.length]; exact hl, fun p hp => ?_⟩
      obtain ⟨S', x, e⟩ := S1.freshF (o := .tup vs) hp
      exact P1 _ _ _ _ x S' (by unfold Rep; exact ⟨p, vs, rfl, .inl e, x.reps R1⟩)
    · rw [if_neg hl] at P1
      exact P1.elim
def mDict0 (fz : Bool) : ME := fun _ ah => mkA' fz (.dic [] []) ah
theorem je_dict0 (fz : Bool) : JE X W (mDict0 fz) (.Dict [] [] pos) :=
  impE pe_dnewK fun s H Q ⟨T, r, F, sd, ah, S, L, P⟩ => fun p hp => new_obj (c := .dic [] []) S hp ⟨[], rfl, rfl, .nil⟩ P
end

/-! ### statements -/
section
variable {X : Cx} {W : WX} {pos : Pos} {st : Stmt} {rest sts sts' : List Stmt} {m m1 m2 : MS} {me mc : ME} {e c : Expr}
theorem jss_nil : JSs X W .nx [] := impSs pss_nil fun D s H ⟨T, r, F, sd, ah, S, L, P⟩ => P r F H s .refl S L
def mSeq (m1 m2 : MS) : MS := fun sd ah => (m1 sd ah).bind m2
theorem jss_cons (h1 : JS X W m1 st) (h2 : JSs X W m2 rest) : JSs X W (mSeq m1 m2) (st :: rest) :=
  impSs (pss_cons h1 h2) fun D s H ⟨T, r, F, sd, ah, S, L, P⟩ => ⟨T, r, F, sd, ah, S, L, by
    unfold mSeq at P
    cases e : m1 sd ah with
    | nx sd1 ah1 =>
      rw [e] at P
      exact fun r1 F1 H1 s1 x S1 L1 => ⟨T, r1, F1, sd1, ah1, S1, L1, PoS.ext x P⟩
    | _ => rw [e] at P; exact P⟩
theorem jss_one (h1 : JS X W m1 st) : JSs X W m1 [st] := pss_one h1
theorem js_pass : JS X W .nx (.Pass pos) := impS ps_pass fun D s H ⟨T, r, F, sd, ah, S, L, P⟩ => P r F H s .refl S L
theorem js_break : JS X W .brk (.Break pos) := impS ps_break fun D s H ⟨T, r, F, sd, ah, S, L, P⟩ => P r F H s .refl S L
theorem js_continue : JS X W .cnt (.Continue pos) := impS ps_continue fun D s H ⟨T, r, F, sd, ah, S, L, P⟩ => P r F H s .refl S L
def mDrop (me : ME) : MS := fun sd ah => (me sd ah).toS sd fun _ a => .nx sd a
theorem js_expr (he : JE X W me e) (hs : swapsWith e none pos.line X.env = pure false := by rfl) : JS X W (mDrop me) (.Expr e pos) :=
  impS (ps_expr he hs) fun D s H ⟨T, r, F, sd, ah, S, L, P⟩ => mkES S L P fun d ah1 r1 F1 H1 v x S1 L1 R1 P1 => P1 r1 F1 H1 s .refl S1 L1
def mRet (me : ME) : MS := fun sd ah => (me sd ah).toS sd fun d a => .ret d a
theorem js_ret (he : JE X W me e) : JS X W (mRet me) (.Return (some e) pos) :=
  impS (ps_ret he) fun D s H ⟨T, r, F, sd, ah, S, L, P⟩ => mkES S L P fun d ah1 r1 F1 H1 v x S1 L1 R1 P1 => P1 r1 F1 H1 v .refl S1 R1
theorem js_retN : JS X W (fun _ ah => .ret .non ah) (.Return none pos) :=
  impS ps_retN fun D s H ⟨T, r, F, sd, ah, S, L, P⟩ => P r F H .non .refl S (by unfold Rep; rfl)
def mIfS (mc : ME) (a b : MS) : MS := fun sd ah => (mc sd ah).testS sd (fun h => a sd h) fun h => b sd h
theorem js_if (hc : JT X W mc c) (ha : JSs X W m1 sts) (hb : JSs X W m2 sts') : JS X W (mIfS mc m1 m2) (.If c sts sts' pos) :=
  impS (ps_if hc ha hb) fun D s H ⟨T, r, F, sd, ah, S, L, P⟩ => mkTS S L P fun c ah1 r1 F1 H1 x S1 L1 P1 => by
    cases c with
    | true => exact ⟨T, r1, F1, sd, ah1, S1, L1, P1⟩
    | false => exact ⟨T, r1, F1, sd, ah1, S1, L1, P1⟩
/-- the cell that a name holds is frozen, the name holds the tree from then on -/
def mFrz (i : Nat) (m : MS) : MS := fun sd ah => match sd[i]? with
  | some (some (.cell n)) => (match ah[n]? with
    | some (some c) => m (sd.set i (some c)) (ah.set n none)
    | _ => .bad)
  | _ => .bad
theorem jss_frz (i : Nat) (h : JSs X W m sts) : JSs X W (mFrz i m) sts :=
  impSs h fun D s H ⟨T, r, F, sd, ah, S, L, P⟩ => by
    unfold mFrz at P
    split at P
    · rename_i n e
      split at P
      · rename_i c e2
        obtain ⟨v, h1, h2⟩ := L.2 i _ e
        unfold Rep at h2
        obtain ⟨a, rfl, h3⟩ := h2
        obtain ⟨F', S', x', R'⟩ := S.freeze e2 h3
        refine ⟨T, r, F', _, _, S', ?_, PoS.ext x' P⟩
        have L' := (x'.slots L).set i R'
        have es : s.set i (some (.ref a)) = s := by
          apply List.ext_getElem?
          intro j
          by_cases hj : i = j
          · subst hj
            rw [List.getElem?_set_self (List.getElem?_eq_some_iff.mp h1).1, h1]
          · rw [List.getElem?_set_ne hj]
        rw [es] at L'
        exact L'
      · exact P.elim
    · exact P.elim
/-! ### targets -/
abbrev MG := D → SD → Option SD
/-- s' is s but for the slots own -/
def OnlyAt (own : List Nat) (s s' : L2.St) : Prop := ∀ vs : List Nat, (∀ i ∈ own, i ∈ vs) → wipe s' vs = wipe s vs
theorem wipe_set (i : Nat) (x : Option V) : ∀ (vs : List Nat) (s : L2.St), wipe (s.set i x) vs = if i ∈ vs then wipe s vs else (wipe s vs).set i x
  | [], s => by simp [wipe]
  | v :: vs, s => by
    show (wipe (s.set i x) vs).set v none = if i ∈ v :: vs then (wipe s vs).set v none else ((wipe s vs).set v none).set i x
    rw [wipe_set i x vs s]
    by_cases h : i ∈ vs
    · simp [h]
    · by_cases hv : i = v
      · subst hv
        simp [h]
      · simp only [h, if_false, List.mem_cons, hv, or_self]
        exact List.set_comm _ _ hv
theorem OnlyAt.set (i : Nat) (x : Option V) (s : L2.St) : OnlyAt [i] s (s.set i x) := fun vs h => by
  rw [wipe_set, if_pos (h i (by simp))]
theorem OnlyAt.refl (s : L2.St) : OnlyAt [] s s := fun _ _ => rfl
theorem OnlyAt.trans {o o' : List Nat} {s s' s'' : L2.St} (a : OnlyAt o s s') (b : OnlyAt o' s' s'') : OnlyAt (o ++ o') s s'' := fun vs h =>
  (b vs fun i hi => h i (List.mem_append_right _ hi)).trans (a vs fun i hi => h i (List.mem_append_left _ hi))
def wpG (K : PySem.W.Frag) (mg : Str → Option Value) (g : MG) (own : List Nat) : TG := fun v s H Q => ∃ T r F sd ah d sd', Sim K mg T r F H ah ∧ Slots K mg r F sd s ∧ Rep K mg r F d v ∧ g d sd = some sd' ∧ ∀ s', Slots K mg r F sd' s' → OnlyAt own s s' → Q s' H
def JG (X : Cx) (g : MG) (own : List Nat) (e : Expr) : Prop := PG X e (wpG X.K X.mg g own)
abbrev MGs := List D → SD → Option SD
def wpGs (K : PySem.W.Frag) (mg : Str → Option Value) (g : MGs) (own : List Nat) : TGs := fun vs s H Q => ∃ T r F sd ah ds sd', Sim K mg T r F H ah ∧ Slots K mg r F sd s ∧ Reps K mg r F ds vs ∧ g ds sd = some sd' ∧ ∀ s', Slots K mg r F sd' s' → OnlyAt own s s' → Q s' H
def JGs (X : Cx) (g : MGs) (own : List Nat) (es : List Expr) : Prop := PGs X es (wpGs X.K X.mg g own)
def tgName (i : Nat) : MG := fun d sd => some (sd.set i (some d))
theorem impG {t t' : TG} (h : PG X e t) (i : ∀ v s H Q, t' v s H Q → t v s H Q) : PG X e t' := ⟨fun p s σ H v u Q I r q => h.run p s σ H v u Q I r (i _ _ _ _ q)⟩
theorem impGs {t t' : TGs} {es : List Expr} (h : PGs X es t) (i : ∀ v s H Q, t' v s H Q → t v s H Q) : PGs X es t' := ⟨fun p s σ H v u Q I r q => h.run p s σ H v u Q I r (i _ _ _ _ q)⟩
theorem jg_name (i : Nat) {x : Str} (hN : X.N.Nodup) (hi : X.N[i]? = some x := by rfl) (hx : Loc X.env.scope x := by first | exact Or.inl rfl | exact Or.inr rfl) (hf : X.fn x = true ∨ X.env.scope.names.lookup x = some .local := by first | exact .inl rfl | exact .inr rfl | assumption) : JG X (tgName i) [i] (.Name x pos) :=
  impG (pg_name hN hi hx hf) fun v s H Q ⟨T, r, F, sd, ah, d, sd', S, L, R, e, q⟩ => by
    cases e
    exact q _ (L.set i R) (OnlyAt.set _ _ _)
def tgNil : MGs := fun ds sd => match ds with
  | [] => some sd
  | _ => none
def tgCons (g : MG) (gs : MGs) : MGs := fun ds sd => match ds with
  | d :: r => (g d sd).bind fun sd1 => gs r sd1
  | [] => none
theorem jgs_nil : JGs X tgNil [] [] := impGs pgs_nil fun vs s H Q ⟨T, r, F, sd, ah, ds, sd', S, L, R, e, q⟩ => by
  cases ds with
  | nil =>
    cases e
    unfold Reps at R
    exact ⟨R, q s L (OnlyAt.refl _)⟩
  | cons _ _ => cases e
theorem jgs_cons {es : List Expr} {g : MG} {gs : MGs} {o o' : List Nat} (h1 : JG X g o e) (h2 : JGs X gs o' es) (hs : (assignEach (e :: es) X.env).map (·.2) = assign e X.env :: (assignEach es X.env).map (·.2) := by rfl) : JGs X (tgCons g gs) (o ++ o') (e :: es) :=
  impGs (pgs_cons h1 h2 hs) fun vs s H Q ⟨T, r, F, sd, ah, ds, sd', S, L, R, ed, q⟩ => by
    cases ds with
    | nil => cases ed
    | cons d rest =>
      unfold Reps at R
      obtain ⟨v, ws, rfl, R1, R2⟩ := R
      have ed' : (g d sd).bind (fun sd1 => gs rest sd1) = some sd' := ed
      cases e1 : g d sd with
      | none => rw [e1] at ed'; cases ed'
      | some sd1 =>
        rw [e1] at ed'
        exact ⟨v, ws, rfl, T, r, F, sd, ah, d, sd1, S, L, R1, e1, fun s1 L1 o1 => ⟨T, r, F, sd1, ah, rest, sd', S, L1, R2, ed', fun s2 L2 o2 => q s2 L2 (o1.trans o2)⟩⟩
def tgTup (n : Nat) (g : MGs) : MG := fun d sd => match d with
  | .tup xs => if xs.length = n then g xs sd else none
  | _ => none
theorem jg_tup {es : List Expr} {k n : Nat} {g : MGs} {o : List Nat} (hc : X.calm = true) (h : JGs X g o es) (hn : (assignEach es X.env).length = n := by rfl) (hst : (assignEach es X.env).findIdx? (·.1) = none := by rfl) : JG X (tgTup n g) o (.Tuple es k pos) :=
  impG (pg_tup hc h hn hst) fun v s H Q ⟨T, r, F, sd, ah, d, sd', S, L, R, e, q⟩ => by
    cases d with
    | tup xs =>
      have e' : (if xs.length = n then g xs sd else none) = some sd' := e
      unfold Rep at R
      obtain ⟨a, vs, rfl, hq, R⟩ := R
      by_cases hl : xs.length = n
      · rw [if_pos hl] at e'
        refine ⟨a, vs, rfl, ?_, by rw [← R.length]; exact hl, T, r, F, sd, ah, xs, sd', S, L, R, e', q⟩
        rcases hq with z | z
        · exact .inl (S.sub _ _ z)
        · exact z H
      · rw [if_neg hl] at e'; cases e'
    | _ => cases e
def optS (o : Option SD) (ah : AH) : RS := match o with
  | some sd => .nx sd ah
  | none => .bad
def mAsg (me : ME) (g : MG) : MS := fun sd ah => (me sd ah).toS sd fun d a => optS (g d sd) a
theorem asg_end {K : PySem.W.Frag} {mg : Str → Option Value} {r : List Addr} {T F H : Hp} {s : L2.St} {sd : SD} {ah : AH} {d : D} {v : V} {g : MG} {o : List Nat} {D : Ends} (S : Sim K mg T r F H ah) (L : Slots K mg r F sd s) (R : Rep K mg r F d v)
    (P : PoS K mg T W r F H (optS (g d sd) ah) D) : wpG K mg g o v s H D.nx := by
  cases e : g d sd with
  | none => rw [e] at P; exact P.elim
  | some sd' =>
    rw [e] at P
    exact ⟨T, r, F, sd, ah, d, sd', S, L, R, e, fun s' L' _ => P r F H s' .refl S L'⟩
theorem js_asg {tg : Expr} {g : MG} {o : List Nat} (he : JE X W me e) (hg : JG X g o tg) (hs : swapsWithSole [tg] e pos.line X.env = pure false := by rfl) (hw : swappedStores [tg] e X.env = pure none := by rfl)
    (h1 : (assignEach [tg] X.env).map (·.2) = [assign tg X.env] := by rfl) : JS X W (mAsg me g) (.Assign [tg] e pos) :=
  impS (ps_asg he hg hs hw h1) fun D s H ⟨T, r, F, sd, ah, S, L, P⟩ => mkES S L P fun d ah1 r1 F1 H1 v x S1 L1 R1 P1 => asg_end S1 L1 R1 P1
/-- name = value -/
theorem js_set (i : Nat) {x : Str} {pos' : Pos} (hN : X.N.Nodup) (he : JE X W me e) (hi : X.N[i]? = some x := by rfl) (hx : Loc X.env.scope x := by first | exact Or.inl rfl | exact Or.inr rfl) (hs : swapsWith e (some (.Name x pos')) pos.line X.env = pure false := by rfl)
    (hf : X.fn x = true ∨ X.env.scope.names.lookup x = some .local := by first | exact .inl rfl | exact .inr rfl | assumption) : JS X W (mAsg me (tgName i)) (.Assign [.Name x pos'] e pos) :=
  impS (ps_set hN hi hx he hs hf) fun D s H ⟨T, r, F, sd, ah, S, L, P⟩ => mkES S L P fun d ah1 r1 F1 H1 v x S1 L1 R1 P1 => P1 r1 F1 H1 _ .refl S1 (L1.set i R1)
end
end LD

set_option Elab.async false
set_option linter.all false
set_option maxRecDepth 100000
set_option maxHeartbeats 2000000
namespace LD
open PySem PySem.Spec PyProof.Rows L2
/-! ### what is walked -/
def ItD (K : PySem.W.Frag) (mg : Str → Option Value) (r0 : List Addr) (F0 : Hp) (J : It) (items : List D) : Prop :=
  ∀ (i : Nat) T r F H ah, (∃ t, r = r0 ++ t) → (∀ a u, F0 a = some u → F a = some u) → Sim K mg T r F H ah → (items.length ≤ i → J.stop i H) ∧
    ∀ d, items[i]? = some d → J.go i H ∧ ∀ x H', J.yld i H x H' → ∃ F', Ext r r F F' H H' ∧ Sim K mg T r F' H' ah ∧ Rep K mg r F' d x
def PoI (K : PySem.W.Frag) (mg : Str → Option Value) (T : Hp) (W : WX) (r : List Addr) (F H : Hp) (s : L2.St) (m : RE) (R : It → Hp → Prop) : Prop := match m with
  | .ok (.lst items) ah' => ∀ r' F' H' J, Ext r r' F F' H H' → Sim K mg T r' F' H' ah' → ItD K mg r' F' J items → R J H'
  | .ok _ _ => False
  | .exc x ah' => PoX K mg T W r F H s x ah'
  | .bad => False
def wpI (K : PySem.W.Frag) (mg : Str → Option Value) (W : WX) (m : ME) : TI := fun s H R => ∃ T r F sd ah, Sim K mg T r F H ah ∧ Slots K mg r F sd s ∧ PoI K mg T W r F H s (m sd ah) R
def JI (X : Cx) (W : WX) (m : ME) (tg iter : Expr) : Prop := PI X tg iter (wpI X.K X.mg W m)
theorem impI {X : Cx} {tg e : Expr} {t t' : TI} (h : PI X tg e t) (i : ∀ s H Q, t' s H Q → t s H Q) : PI X tg e t' := ⟨fun p s σ H R I q => h.run p s σ H R I (i _ _ _ q)⟩
section
variable {K : PySem.W.Frag} {mg : Str → Option Value} {W : WX} {r r1 : List Addr} {T F F1 H H1 : Hp} {s : L2.St} {sd : SD} {ah : AH} {Q' : VK} {R : It → Hp → Prop}
theorem PoI.ext {m : RE} (e : Ext r r1 F F1 H H1) (h : PoI K mg T W r F H s m R) : PoI K mg T W r1 F1 H1 s m R := by
  cases m with
  | ok d a => cases d <;> first | exact h | exact fun r' F' H' v e' => h r' F' H' v (e.trans e')
  | exc x a => exact PoX.ext e h
  | bad => exact h
theorem mkEI {m : ME} {k : D → AH → RE} (S : Sim K mg T r F H ah) (L : Slots K mg r F sd s) (P : PoI K mg T W r F H s ((m sd ah).bind k) R)
    (h : ∀ d ah1 r1 F1 H1 v, Ext r r1 F F1 H H1 → Sim K mg T r1 F1 H1 ah1 → Slots K mg r1 F1 sd s → Rep K mg r1 F1 d v → PoI K mg T W r1 F1 H1 s (k d ah1) R → Q' v H1) : wpE K mg W m s H Q' := by
  refine ⟨T, r, F, sd, ah, S, L, ?_⟩
  cases e : m sd ah with
  | ok d a =>
    rw [e] at P
    exact fun r1 F1 H1 v x S1 R1 => h d a r1 F1 H1 v x S1 (x.slots L) R1 (PoI.ext x P)
  | exc x a => rw [e] at P; exact P
  | bad => rw [e] at P; exact P
theorem mkAI {m : ME} {k : List D → AH → RE} {Q' : List V → Hp → Prop} (S : Sim K mg T r F H ah) (L : Slots K mg r F sd s) (P : PoI K mg T W r F H s ((m sd ah).args k) R)
    (h : ∀ ds ah1 r1 F1 H1 vs, Ext r r1 F F1 H H1 → Sim K mg T r1 F1 H1 ah1 → Slots K mg r1 F1 sd s → Reps K mg r1 F1 ds vs → PoI K mg T W r1 F1 H1 s (k ds ah1) R → Q' vs H1) : wpA K mg W m s H Q' := by
  refine ⟨T, r, F, sd, ah, S, L, ?_⟩
  cases e : m sd ah with
  | ok d a =>
    rw [e] at P
    cases d with
    | lst ds => exact fun r1 F1 H1 vs x S1 R => h _ a r1 F1 H1 vs x S1 (x.slots L) R (PoI.ext x P)
    | _ => exact P
  | exc x a => rw [e] at P; exact P
  | bad => rw [e] at P; exact P
/-- a frozen list, a tuple -/
theorem itd_list {a : Addr} {vs : List V} {xs : List D} (hF : F a = some (.lst vs)) (R : Reps K mg r F xs vs) : ItD K mg r F (Itl K a) xs := by
  intro i T2 r2 F2 H2 ah2 hr hf S2
  have q : SqL K H2 a vs := .inl (S2.sub _ _ (hf _ _ hF))
  have hl := R.length
  refine ⟨fun hi => ⟨vs, q, by omega⟩, fun d hd => ?_⟩
  obtain ⟨v, h1, h2⟩ := R.get hd
  refine ⟨⟨vs, v, q, h1⟩, fun x H' ⟨e, hy⟩ => ?_⟩
  subst e
  have e2 := hy vs q
  rw [h1] at e2; cases e2
  exact ⟨F2, .refl, S2, Rep.mono hr hf _ _ h2⟩
theorem itd_scr {a : Addr} {ns : List Int} (hF : F a = some (.lst (ns.map V.int)) ∨ ∀ H, SqL K H a (ns.map V.int)) : ItD K mg r F (Itl K a) (ns.map D.int) := by
  intro i T2 r2 F2 H2 ah2 hr hf S2
  have q : SqL K H2 a (ns.map V.int) := hF.elim (fun z => .inl (S2.sub _ _ (hf _ _ z))) fun z => z H2
  refine ⟨fun hi => ⟨_, q, by simpa using hi⟩, fun d hd => ?_⟩
  obtain ⟨n, h1, rfl⟩ : ∃ n, ns[i]? = some n ∧ d = .int n := by
    rw [List.getElem?_map] at hd
    cases e : ns[i]? with
    | none => rw [e] at hd; cases hd
    | some n => rw [e] at hd; exact ⟨n, rfl, (Option.some.inj hd).symm⟩
  have h2 : (ns.map V.int)[i]? = some (.int n) := by rw [List.getElem?_map, h1]; rfl
  refine ⟨⟨_, _, q, h2⟩, fun x H' ⟨e, hy⟩ => ?_⟩
  subst e
  have e2 := hy _ q
  rw [h2] at e2; cases e2
  exact ⟨F2, .refl, S2, by unfold Rep; rfl⟩
theorem itd_tup {a : Addr} {vs : List V} {xs : List D} (hF : F a = some (.tup vs) ∨ ∀ H, SqT K H a vs) (R : Reps K mg r F xs vs) : ItD K mg r F (Itt K a) xs := by
  intro i T2 r2 F2 H2 ah2 hr hf S2
  have q : SqT K H2 a vs := by
    rcases hF with z | z
    · exact .inl (S2.sub _ _ (hf _ _ z))
    · exact z H2
  have hl := R.length
  refine ⟨fun hi => ⟨vs, q, by omega⟩, fun d hd => ?_⟩
  obtain ⟨v, h1, h2⟩ := R.get hd
  refine ⟨⟨vs, v, q, h1⟩, fun x H' ⟨e, hy⟩ => ?_⟩
  subst e
  have e2 := hy vs q
  rw [h1] at e2; cases e2
  exact ⟨F2, .refl, S2, Rep.mono hr hf _ _ h2⟩
end
def intsFrom (lo : Int) (n : Nat) : List D := (List.range n).map fun i => .int (lo + (i : Nat))
theorem itd_range {K : PySem.W.Frag} {mg : Str → Option Value} {r : List Addr} {F : Hp} (lo : Int) (n : Nat) : ItD K mg r F (Itr lo n) (intsFrom lo n) := by
  intro i T2 r2 F2 H2 ah2 hr hf S2
  refine ⟨fun hi => by show n ≤ i; simpa [intsFrom] using hi, fun d hd => ?_⟩
  have hlt : i < n := by
    have := (List.getElem?_eq_some_iff.mp hd).1
    simpa [intsFrom] using this
  have ed : d = .int (lo + (i : Nat)) := by
    simp [intsFrom, hlt] at hd
    exact hd.symm
  subst ed
  refine ⟨hlt, fun x H' ⟨e, hx⟩ => ?_⟩
  subst e; subst hx
  exact ⟨F2, .refl, S2, by unfold Rep; rfl⟩
def signsOf (x : Str) : List D := x.cps.toList.map fun c => .str ⟨#[c]⟩
theorem sign_ok {x : Str} (h : PySem.PyData.strOk x = true) {i c : Nat} (hc : x.cps[i]? = some c) : PySem.PyData.strOk ⟨#[c]⟩ = true := by
  unfold PySem.PyData.strOk at h ⊢
  rw [Array.all_eq_true'] at h
  have q := h c (Array.mem_of_getElem? hc)
  simpa using q
theorem itd_str {K : PySem.W.Frag} {mg : Str → Option Value} {r : List Addr} {F : Hp} (x : Str) (hx : PySem.PyData.strOk x = true) : ItD K mg r F (Its x) (signsOf x) := by
  intro i T2 r2 F2 H2 ah2 hr hf S2
  refine ⟨fun hi => by show x.cps.size ≤ i; simpa [signsOf] using hi, fun d hd => ?_⟩
  have hlt : i < x.cps.size := by
    have := (List.getElem?_eq_some_iff.mp hd).1
    simpa [signsOf] using this
  refine ⟨hlt, fun v H' ⟨e, c, hc, hv⟩ => ?_⟩
  subst e; subst hv
  have ed : d = .str ⟨#[c]⟩ := by
    simp only [signsOf, List.getElem?_map, Array.getElem?_toList, hc, Option.map_some, Option.some.injEq] at hd
    exact hd.symm
  subst ed
  exact ⟨F2, .refl, S2, by unfold Rep; exact ⟨rfl, sign_ok hx hc⟩⟩
def enumOf (xs : List D) : List D := xs.zipIdx.map fun p => .tup [.int (p.2 : Nat), p.1]
theorem itd_enum {K : PySem.W.Frag} {mg : Str → Option Value} {r : List Addr} {F : Hp} {a : Addr} {vs : List V} {xs : List D} (hF : F a = some (.lst vs)) (R : Reps K mg r F xs vs) : ItD K mg r F (Ite K a) (enumOf xs) := by
  intro i T2 r2 F2 H2 ah2 hr hf S2
  have q : SqL K H2 a vs := .inl (S2.sub _ _ (hf _ _ hF))
  have hl := R.length
  refine ⟨fun hi => ⟨vs, q, by simp [enumOf] at hi; omega⟩, fun d hd => ?_⟩
  have hlt : i < xs.length := by
    have := (List.getElem?_eq_some_iff.mp hd).1
    simpa [enumOf] using this
  have ed : d = .tup [.int (i : Nat), xs[i]] := by
    simp [enumOf, hlt] at hd
    exact hd.symm
  subst ed
  obtain ⟨v, h1, h2⟩ := R.get (List.getElem?_eq_getElem hlt)
  refine ⟨⟨vs, v, q, h1⟩, fun x H' ⟨T, y, ex, hT, eH, hy⟩ => ?_⟩
  subst ex; subst eH
  have e2 := hy vs q
  rw [h1] at e2; cases e2
  obtain ⟨S', x', e'⟩ := S2.freshF (o := .tup [.int (i : Nat), v]) hT
  refine ⟨_, x', S', ?_⟩
  unfold Rep
  exact ⟨T, _, rfl, .inl e', .cons (by unfold Rep; rfl) (.one (x'.rep (Rep.mono hr hf _ _ h2)))⟩
section
variable {X : Cx} {W : WX} {pos : Pos} {tg e : Expr} {me : ME}
/-- the items of a list or of a tuple that stand still -/
def iSeq (me : ME) : ME := fun sd ah => (me sd ah).bind fun d a => match d with
  | .lst xs => .ok (.lst xs) a
  | .scr ns => .ok (.lst (ns.map D.int)) a
  | _ => .bad
def iTupD (me : ME) : ME := fun sd ah => (me sd ah).bind fun d a => match d with
  | .tup xs => .ok (.lst xs) a
  | _ => .bad
def iStrD (me : ME) : ME := fun sd ah => (me sd ah).bind fun d a => match d with
  | .str x => .ok (.lst (signsOf x)) a
  | _ => .bad
theorem ji_list (h : JE X W me e) : JI X W (iSeq me) tg e :=
  impI (pi_list h) fun s H Q ⟨T, r, F, sd, ah, S, L, P⟩ => mkEI S L P fun d ah1 r1 F1 H1 v x S1 L1 R1 P1 => by
    cases d with
    | lst xs =>
      unfold Rep at R1
      obtain ⟨a, vs, rfl, hF, R⟩ := R1
      exact ⟨a, rfl, ⟨vs, .inl (S1.sub _ _ hF)⟩, P1 r1 F1 H1 _ .refl S1 (itd_list hF R)⟩
    | scr ns =>
      unfold Rep at R1
      obtain ⟨a, rfl, hF⟩ := R1
      exact ⟨a, rfl, ⟨_, hF.elim (fun z => .inl (S1.sub _ _ z)) fun z => z H1⟩, P1 r1 F1 H1 _ .refl S1 (itd_scr hF)⟩
    | _ => exact P1.elim
theorem ji_tup (h : JE X W me e) : JI X W (iTupD me) tg e :=
  impI (pi_tup h) fun s H Q ⟨T, r, F, sd, ah, S, L, P⟩ => mkEI S L P fun d ah1 r1 F1 H1 v x S1 L1 R1 P1 => by
    cases d with
    | tup xs =>
      unfold Rep at R1
      obtain ⟨a, vs, rfl, hF, R⟩ := R1
      refine ⟨a, rfl, ⟨vs, ?_⟩, P1 r1 F1 H1 _ .refl S1 (itd_tup hF R)⟩
      rcases hF with z | z
      · exact .inl (S1.sub _ _ z)
      · exact z H1
    | _ => exact P1.elim
theorem PI.or {tg e : Expr} {t t' : TI} (h : PI X tg e t) (h' : PI X tg e t') : PI X tg e (fun s H R => t s H R ∨ t' s H R) :=
  ⟨fun p s σ H R I q => q.elim (fun z => h.run p s σ H R I z) fun z => h'.run p s σ H R I z⟩
theorem ji_str (h : JE X W me e) : JI X W (iStrD me) tg e :=
  impI (pi_str h) fun s H Q ⟨T, r, F, sd, ah, S, L, P⟩ => mkEI S L P fun d ah1 r1 F1 H1 v x S1 L1 R1 P1 => by
    cases d with
    | str y =>
      unfold Rep at R1
      obtain ⟨rfl, hy⟩ := R1
      exact ⟨y, rfl, P1 r1 F1 H1 _ .refl S1 (itd_str y hy)⟩
    | _ => exact P1.elim
def iRange1 (ma : ME) : ME := fun sd ah => (ma sd ah).args fun ds a => match ds with
  | [.int j] => if -(2 ^ 62) ≤ j ∧ j < 2 ^ 62 then .ok (.lst (intsFrom 0 j.toNat)) a else .bad
  | _ => .bad
def iRange2 (ma : ME) : ME := fun sd ah => (ma sd ah).args fun ds a => match ds with
  | [.int i, .int j] => if -(2 ^ 62) ≤ i ∧ i < 2 ^ 62 ∧ -(2 ^ 62) ≤ j ∧ j < 2 ^ 62 then .ok (.lst (intsFrom i (j - i).toNat)) a else .bad
  | _ => .bad
theorem reps1 {K : PySem.W.Frag} {mg : Str → Option Value} {r : List Addr} {F : Hp} {d : D} {vs : List V} (h : Reps K mg r F [d] vs) : ∃ v, vs = [v] ∧ Rep K mg r F d v := by
  unfold Reps at h
  obtain ⟨v, ws, rfl, h1, h2⟩ := h
  unfold Reps at h2
  subst h2
  exact ⟨v, rfl, h1⟩
theorem reps2 {K : PySem.W.Frag} {mg : Str → Option Value} {r : List Addr} {F : Hp} {d e : D} {vs : List V} (h : Reps K mg r F [d, e] vs) : ∃ v u, vs = [v, u] ∧ Rep K mg r F d v ∧ Rep K mg r F e u := by
  unfold Reps at h
  obtain ⟨v, ws, rfl, h1, h2⟩ := h
  obtain ⟨u, rfl, h3⟩ := reps1 h2
  exact ⟨v, u, rfl, h1, h3⟩
theorem ji_range1 {a : Expr} {ma : ME} {p : Pos} (hg : Gl X "range") (hm : X.mg "range" = none) (ha : JA X W ma [a]) (hs : starEach [a] X.env = [(false, eval a X.env)] := by rfl) : JI X W (iRange1 ma) tg (.Call (.Name "range" p) [a] [] pos) :=
  impI (pi_range1 hg hm ha hs) fun s H Q ⟨T, r, F, sd, ah, S, L, P⟩ => mkAI S L P fun ds ah1 r1 F1 H1 vs x S1 L1 R1 P1 => by
    match ds, R1, P1 with
    | [.int j], R1, P1 =>
      obtain ⟨v, rfl, R⟩ := reps1 R1
      unfold Rep at R
      subst R
      have P2 : PoI X.K X.mg T W r1 F1 H1 s (if -(2 ^ 62) ≤ j ∧ j < 2 ^ 62 then .ok (.lst (intsFrom 0 j.toNat)) ah1 else .bad) Q := P1
      by_cases c : -(2 ^ 62) ≤ j ∧ j < 2 ^ 62
      · rw [if_pos c] at P2
        exact ⟨j, rfl, c.1, c.2, P2 r1 F1 H1 _ .refl S1 (itd_range 0 _)⟩
      · rw [if_neg c] at P2
        exact P2.elim
theorem ji_range2 {a b : Expr} {ma : ME} {p : Pos} (hg : Gl X "range") (hm : X.mg "range" = none) (ha : JA X W ma [a, b]) (hs : starEach [a, b] X.env = [(false, eval a X.env), (false, eval b X.env)] := by rfl) (hs2 : starEach [b] X.env = [(false, eval b X.env)] := by rfl) :
    JI X W (iRange2 ma) tg (.Call (.Name "range" p) [a, b] [] pos) :=
  impI (pi_range2 hg hm ha hs hs2) fun s H Q ⟨T, r, F, sd, ah, S, L, P⟩ => mkAI S L P fun ds ah1 r1 F1 H1 vs x S1 L1 R1 P1 => by
    match ds, R1, P1 with
    | [.int i, .int j], R1, P1 =>
      obtain ⟨v, u, rfl, R, R'⟩ := reps2 R1
      unfold Rep at R R'
      subst R; subst R'
      have P2 : PoI X.K X.mg T W r1 F1 H1 s (if -(2 ^ 62) ≤ i ∧ i < 2 ^ 62 ∧ -(2 ^ 62) ≤ j ∧ j < 2 ^ 62 then .ok (.lst (intsFrom i (j - i).toNat)) ah1 else .bad) Q := P1
      by_cases c : -(2 ^ 62) ≤ i ∧ i < 2 ^ 62 ∧ -(2 ^ 62) ≤ j ∧ j < 2 ^ 62
      · rw [if_pos c] at P2
        exact ⟨i, j, rfl, c, P2 r1 F1 H1 _ .refl S1 (itd_range i _)⟩
      · rw [if_neg c] at P2
        exact P2.elim
def iEnumD (ma : ME) : ME := fun sd ah => (ma sd ah).args fun ds a => match ds with
  | [.lst xs] => .ok (.lst (enumOf xs)) a
  | _ => .bad
theorem ji_enum {ma : ME} {p tpos : Pos} {elts : List Expr} {kk : Nat} (hg : Gl X "enumerate") (hm : X.mg "enumerate" = none) (ha : JA X W ma [e]) (hs : starEach [e] X.env = [(false, eval e X.env)] := by rfl) :
    JI X W (iEnumD ma) (.Tuple elts kk tpos) (.Call (.Name "enumerate" p) [e] [] pos) :=
  impI (pi_enum hg hm ha hs) fun s H Q ⟨T, r, F, sd, ah, S, L, P⟩ => mkAI S L P fun ds ah1 r1 F1 H1 vs x S1 L1 R1 P1 => by
    match ds, R1, P1 with
    | [.lst xs], R1, P1 =>
      obtain ⟨v, rfl, R⟩ := reps1 R1
      unfold Rep at R
      obtain ⟨a, vs, rfl, hF, R⟩ := R
      exact ⟨a, vs, rfl, .inl (S1.sub _ _ hF), P1 r1 F1 H1 _ .refl S1 (itd_enum hF R)⟩
end
/-! ### for -/
def forD (g : MG) (mb : MS) : List D → SD → AH → RS
  | [], sd, ah => .nx sd ah
  | d :: rest, sd, ah => match g d sd with
    | none => .bad
    | some sd1 => match mb sd1 ah with
      | .nx s a => forD g mb rest s a
      | .cnt s a => forD g mb rest s a
      | .brk s a => .nx s a
      | .ret d a => .ret d a
      | .exc x s a => .exc x s a
      | .bad => .bad
def mFor (mi : ME) (g : MG) (mb : MS) : MS := fun sd ah => match mi sd ah with
  | .ok (.lst items) a => forD g mb items sd a
  | .ok _ _ => .bad
  | .exc x a => .exc x sd a
  | .bad => .bad
section
variable {X : Cx} {W : WX} {pos : Pos} {tg iter : Expr} {body : List Stmt} {mi : ME} {g : MG} {mb : MS}
theorem js_for (hp : PassesOwn (model X.prog X.w) X.A X.env X.xe) (hc : X.calm = true) {o : List Nat} (hi : JI X W mi tg iter) (hg : JG X g o tg) (hb : JSs X W mb body) (hs : ∀ x, foldedSetIterable iter X.env x = pure x := by intro _; rfl) :
    JS X W (mFor mi g mb) (.For tg iter body [] pos) := by
  refine impS (ps_for hp hc hi hg hb hs) fun D s H ⟨T, r, F, sd, ah, S, L, P⟩ => ⟨T, r, F, sd, ah, S, L, ?_⟩
  unfold mFor at P
  cases e : mi sd ah with
  | bad => rw [e] at P; exact P.elim
  | exc x a =>
    rw [e] at P
    exact fun r' F' H' cls dx e' S' R' => P r' F' H' s cls dx e' S' (e'.slots L) R'
  | ok d a =>
    rw [e] at P
    cases d with
    | lst items =>
      intro r1 F1 H1 J x1 S1 IT
      have P1 : PoS X.K X.mg T W r1 F1 H1 (forD g mb items sd a) D := PoS.ext x1 P
      refine ⟨fun i m s2 H2 => m = items.length - i ∧ i ≤ items.length ∧ ∃ r2 F2 sd2 ah2, (∃ t, r2 = r1 ++ t) ∧ (∀ a u, F1 a = some u → F2 a = some u) ∧ Sim X.K X.mg T r2 F2 H2 ah2 ∧ Slots X.K X.mg r2 F2 sd2 s2 ∧ PoS X.K X.mg T W r2 F2 H2 (forD g mb (items.drop i) sd2 ah2) D,
        ⟨_, rfl, Nat.zero_le _, r1, F1, sd, a, ⟨[], by simp⟩, fun _ _ h => h, S1, x1.slots L, by simpa using P1⟩, ?_⟩
      rintro i m s2 H2 ⟨rfl, hi', r2, F2, sd2, ah2, hr2, hf2, S2, L2', P2⟩
      obtain ⟨I1, I2⟩ := IT i T r2 F2 H2 ah2 hr2 hf2 S2
      by_cases hlt : i < items.length
      · refine .inr ?_
        obtain ⟨go, yl⟩ := I2 items[i] (List.getElem?_eq_getElem hlt)
        refine ⟨go, fun s3 H3 => ∃ r3 F3 sd3 ah3, (∃ t, r3 = r1 ++ t) ∧ (∀ a u, F1 a = some u → F3 a = some u) ∧ Sim X.K X.mg T r3 F3 H3 ah3 ∧ Slots X.K X.mg r3 F3 sd3 s3 ∧ PoS X.K X.mg T W r3 F3 H3 (forD g mb (items.drop (i + 1)) sd3 ah3) D, ?_, ?_⟩
        · rintro s3 H3 ⟨r3, F3, sd3, ah3, hr3, hf3, S3, L3, P3⟩
          exact ⟨items.length - (i + 1), by omega, rfl, by omega, r3, F3, sd3, ah3, hr3, hf3, S3, L3, P3⟩
        · intro v H3 hy
          obtain ⟨F3, x3, S3, R3⟩ := yl v H3 hy
          have ed : items.drop i = items[i] :: items.drop (i + 1) := List.drop_eq_getElem_cons hlt
          rw [ed] at P2
          have P3 := PoS.ext x3 P2
          unfold forD at P3
          cases eg : g items[i] sd2 with
          | none => rw [eg] at P3; exact P3.elim
          | some sd3 =>
            rw [eg] at P3
            dsimp only at P3
            refine ⟨T, r2, F3, sd2, ah2, items[i], sd3, S3, x3.slots L2', R3, eg, fun s3 L3 _ => ⟨T, r2, F3, sd3, ah2, S3, L3, ?_⟩⟩
            obtain ⟨t2, ht2⟩ := hr2
            have hf3 : ∀ a u, F1 a = some u → F3 a = some u := fun a u q => x3.fro _ _ (hf2 _ _ q)
            cases eb : mb sd3 ah2 with
            | nx sd4 ah4 =>
              rw [eb] at P3
              exact fun r4 F4 H4 s4 x4 S4 L4 => ⟨r4, F4, sd4, ah4, by obtain ⟨t, rfl⟩ := x4.pre; exact ⟨t2 ++ t, by rw [ht2, List.append_assoc]⟩, fun a u q => x4.fro _ _ (hf3 _ _ q), S4, L4, PoS.ext x4 P3⟩
            | cnt sd4 ah4 =>
              rw [eb] at P3
              exact fun r4 F4 H4 s4 x4 S4 L4 => ⟨r4, F4, sd4, ah4, by obtain ⟨t, rfl⟩ := x4.pre; exact ⟨t2 ++ t, by rw [ht2, List.append_assoc]⟩, fun a u q => x4.fro _ _ (hf3 _ _ q), S4, L4, PoS.ext x4 P3⟩
            | brk sd4 ah4 => rw [eb] at P3; exact P3
            | ret d a => rw [eb] at P3; exact P3
            | exc x s a => rw [eb] at P3; exact P3
            | bad => rw [eb] at P3; exact P3
      · have ei : i = items.length := by omega
        subst ei
        refine .inl ⟨I1 (Nat.le_refl _), ?_⟩
        rw [List.drop_length] at P2
        exact P2 r2 F2 H2 s2 .refl S2 L2'
    | _ => exact P.elim
end
/-! ### [e for t in it if c] -/
def lcD (g : MG) (mt me : ME) (vs : List Nat) (sd0 : SD) : List D → List D → AH → Option (List D × AH)
  | [], acc, ah => some (acc, ah)
  | d :: rest, acc, ah => match g d sd0 with
    | none => none
    | some sd1 => match mt sd1 ah with
      | .ok (.bl false) a => lcD g mt me vs sd0 rest acc a
      | .ok (.bl true) a => (match me sd1 a with
        | .ok y a2 => if acc.length < sizeLine then lcD g mt me vs sd0 rest (acc ++ [y]) a2 else none
        | _ => none)
      | _ => none
def wipeD (sd : SD) : List Nat → SD
  | [] => sd
  | v :: vs => (wipeD sd vs).set v none
def mLc (fz : Bool) (mi : ME) (g : MG) (mt me : ME) (vs : List Nat) : ME := fun sd ah => match mi sd ah with
  | .ok (.lst items) a => (match lcD g mt me vs (wipeD sd vs) items [] a with
    | some (ys, a2) => mkA' fz (.lst ys) a2
    | none => .bad)
  | .ok _ _ => .bad
  | .exc x a => .exc x a
  | .bad => .bad
abbrev W0 : WX := fun _ _ _ _ => False
def mYes : ME := fun _ ah => .ok (.bl true) ah
def JTs (X : Cx) (W : WX) (m : ME) (ifs : List Expr) : Prop := PTs X ifs (wpT X.K X.mg W m)
theorem jts_nil {X : Cx} {W : WX} : JTs X W mYes [] := ⟨fun p s σ H Q I ⟨T, r, F, sd, ah, S, L, P⟩ => pts_nil.run p s σ H Q I (P r F H .refl S)⟩
theorem jts_one {X : Cx} {W : WX} {m : ME} {c : Expr} (h : JT X W m c) : JTs X W m [c] := pts_one h
theorem Slots.wipe {K : PySem.W.Frag} {mg : Str → Option Value} {r : List Addr} {F : Hp} {sd : SD} {s : L2.St} (h : Slots K mg r F sd s) : ∀ vs, Slots K mg r F (wipeD sd vs) (wipe s vs)
  | [] => h
  | v :: vs => (Slots.wipe h vs).unset v none

theorem wipe_wipe (s : L2.St) (vs : List Nat) : ∀ us : List Nat, (∀ u ∈ us, u ∈ vs) → wipe (wipe s us) vs = wipe s vs
  | [], _ => rfl
  | u :: us, h => by
    show wipe ((wipe s us).set u none) vs = wipe s vs
    rw [wipe_set, if_pos (h u (by simp))]
    exact wipe_wipe s vs us fun x hx => h x (by simp [hx])
section
variable {X : Cx} {W : WX} {pos : Pos} {elt tg iter : Expr} {ifs : List Expr} {scope : Scope} {own : List (Str × Nat)} {mi mt me : ME} {g : MG} {o : List Nat}
theorem lc_run {mi : ME} {fz : Bool} {vs : List Nat} {s : L2.St} {H : Hp} {Q : VK} (ho : ∀ i ∈ o, i ∈ vs) (h : wpE X.K X.mg W (mLc fz mi g mt me vs) s H Q) :
    tLc (wpI X.K X.mg W mi) (wpG X.K X.mg g o) (wpT X.K X.mg W0 mt) (wpE X.K X.mg W0 me) vs s H Q := by
  obtain ⟨T, r, F, sd, ah, S, L, P⟩ := h
  refine ⟨T, r, F, sd, ah, S, L, ?_⟩
  unfold mLc at P
  cases e : mi sd ah with
  | bad => rw [e] at P; exact P.elim
  | exc x a => rw [e] at P; exact P
  | ok d a =>
    rw [e] at P
    cases d with
    | lst items =>
      intro r1 F1 H1 J x1 S1 IT D0 hD0
      dsimp only at P
      cases el : lcD g mt me vs (wipeD sd vs) items [] a with
      | none => rw [el] at P; exact P.elim
      | some q =>
        obtain ⟨ys, a2⟩ := q
        rw [el] at P
        dsimp only at P
        have P1 : PoE X.K X.mg T W r1 F1 H1 s (mkA' fz (.lst ys) a2) Q := PoE.ext x1 P
        have T0 : T D0 = none := by
          cases q : T D0 with
          | none => rfl
          | some u => have := S1.prv D0 u q; rw [hD0] at this; cases this
        have L1 : Slots X.K X.mg r1 F1 (wipeD sd vs) (wipe s vs) := (x1.slots L).wipe vs
        refine ⟨fun i m H2 => m = items.length - i ∧ i ≤ items.length ∧ ∃ r2 F2 ah2 acc zs, (∃ t, r2 = r1 ++ t) ∧ (∀ a u, F1 a = some u → F2 a = some u) ∧ Sim X.K X.mg (upd T D0 (.lst zs)) r2 F2 H2 ah2 ∧ Reps X.K X.mg r2 F2 acc zs ∧ lcD g mt me vs (wipeD sd vs) (items.drop i) acc ah2 = some (ys, a2),
          ⟨_, rfl, Nat.zero_le _, r1, F1, a, [], [], ⟨[], by simp⟩, fun _ _ h => h, S1.privNew hD0, .nil, by simpa using el⟩, ?_⟩
        rintro i m H2 ⟨rfl, hi', r2, F2, ah2, acc, zs, hr2, hf2, S2, RA, el2⟩
        obtain ⟨I1, I2⟩ := IT i _ r2 F2 H2 ah2 hr2 hf2 S2
        by_cases hlt : i < items.length
        · refine .inr ?_
          obtain ⟨go, yl⟩ := I2 items[i] (List.getElem?_eq_getElem hlt)
          refine ⟨go, fun H3 => ∃ r3 F3 ah3 acc' zs', (∃ t, r3 = r1 ++ t) ∧ (∀ a u, F1 a = some u → F3 a = some u) ∧ Sim X.K X.mg (upd T D0 (.lst zs')) r3 F3 H3 ah3 ∧ Reps X.K X.mg r3 F3 acc' zs' ∧ lcD g mt me vs (wipeD sd vs) (items.drop (i + 1)) acc' ah3 = some (ys, a2), ?_, ?_⟩
          · rintro H3 ⟨r3, F3, ah3, acc', zs', hr3, hf3, S3, RA3, el3⟩
            exact ⟨items.length - (i + 1), by omega, rfl, by omega, r3, F3, ah3, acc', zs', hr3, hf3, S3, RA3, el3⟩
          · intro v H3 hy
            obtain ⟨F3, x3, S3, R3⟩ := yl v H3 hy
            have ed : items.drop i = items[i] :: items.drop (i + 1) := List.drop_eq_getElem_cons hlt
            rw [ed] at el2
            unfold lcD at el2
            cases eg : g items[i] (wipeD sd vs) with
            | none => rw [eg] at el2; cases el2
            | some sd3 =>
              rw [eg] at el2
              dsimp only at el2
              have L2' : Slots X.K X.mg r2 F2 (wipeD sd vs) (wipe s vs) := Ext.slots (H := H1) (H' := H2) ⟨hr2, hf2⟩ L1
              refine ⟨_, r2, F3, wipeD sd vs, ah2, items[i], sd3, S3, x3.slots L2', R3, eg, fun s3 L3 o3 => ?_⟩
              refine ⟨(o3 vs ho).trans (wipe_wipe s vs vs fun _ h => h), ?_⟩
              obtain ⟨t2, ht2⟩ := hr2
              refine ⟨_, r2, F3, sd3, ah2, S3, L3, ?_⟩
              cases et : mt sd3 ah2 with
              | ok b a3 =>
                rw [et] at el2
                cases b with
                | bl b =>
                  cases b with
                  | false =>
                    dsimp only at el2
                    intro r4 F4 H4 x4 S4
                    rw [if_neg Bool.false_ne_true]
                    exact ⟨r4, F4, a3, acc, zs, by obtain ⟨t, rfl⟩ := x4.pre; exact ⟨t2 ++ t, by rw [ht2, List.append_assoc]⟩, fun a u q => x4.fro _ _ (x3.fro _ _ (hf2 _ _ q)), S4, x4.reps (x3.reps RA), el2⟩
                  | true =>
                    dsimp only at el2
                    intro r4 F4 H4 x4 S4
                    rw [if_pos rfl]
                    refine ⟨_, r4, F4, sd3, a3, S4, x4.slots L3, ?_⟩
                    cases em : me sd3 a3 with
                    | ok y a5 =>
                      rw [em] at el2
                      dsimp only at el2
                      by_cases hsz : acc.length < sizeLine
                      · rw [if_pos hsz] at el2
                        intro r5 F5 H5 u x5 S5 R5
                        have RA5 := x5.reps (x4.reps (x3.reps RA))
                        refine ⟨zs, S5.prv D0 _ upd_same, by rw [← RA.length]; exact hsz, r5, F5, a5, acc ++ [y], zs ++ [u], ?_, fun a u q => x5.fro _ _ (x4.fro _ _ (x3.fro _ _ (hf2 _ _ q))), ?_, RA5.append (.one R5), el2⟩
                        · obtain ⟨t, rfl⟩ := x4.pre
                          obtain ⟨t', rfl⟩ := x5.pre
                          exact ⟨t2 ++ t ++ t', by rw [ht2]; simp⟩
                        · have q := S5.privSet (p := D0) (o' := .lst (zs ++ [u])) upd_same (fun _ _ z => nomatch z)
                          rw [upd_upd] at q
                          exact q
                      · rw [if_neg hsz] at el2; cases el2
                    | exc _ _ => rw [em] at el2; cases el2
                    | bad => rw [em] at el2; cases el2
                | _ => cases el2
              | exc _ _ => rw [et] at el2; cases el2
              | bad => rw [et] at el2; cases el2
        · have ei : i = items.length := by omega
          subst ei
          refine .inl ⟨I1 (Nat.le_refl _), ?_⟩
          rw [List.drop_length] at el2
          unfold lcD at el2
          cases el2
          have x2 : Ext r1 r2 F1 F2 H1 H2 := ⟨hr2, hf2⟩
          have P2 := PoE.ext x2 P1
          have hT : ∀ a u, T a = some u → upd T D0 (.lst zs) a = some u := fun a u e => by rw [upd_ne (ne_of_none e T0)]; exact e
          cases fz with
          | true =>
            obtain ⟨F', S', x', R'⟩ := S2.privFrz (c := .lst ys) upd_same (fun _ _ z => nomatch z) hT T0 ⟨zs, rfl, RA⟩
            exact P2 _ _ _ _ x' S' R'
          | false =>
            obtain ⟨S', x', e'⟩ := S2.privCell (c := .lst ys) upd_same (fun _ _ z => nomatch z) hT T0 ⟨zs, rfl, RA⟩
            exact P2 _ _ _ _ x' S' (by unfold Rep; exact ⟨D0, rfl, e'⟩)
    | _ => exact P.elim
theorem je_lc (fz : Bool) (hc : X.calm = true) (hN : X.N.Nodup) (hi : JI X W mi tg iter) (ok : BlkOk X.N X.env.scope scope own)
    (hg : ∀ (s : Shared) (H : Hp) (C : Addr) (cl : List (Str × Addr)) (fp : List Addr), JG (X.blk s H scope (compEnvC scope cl C X.env) fp) g o tg)
    (ht : ∀ (s : Shared) (H : Hp) (C : Addr) (cl : List (Str × Addr)) (fp : List Addr), JTs (X.blk s H scope (compEnvC scope cl C X.env) fp) W0 mt ifs)
    (he : ∀ (s : Shared) (H : Hp) (C : Addr) (cl : List (Str × Addr)) (fp : List Addr), JE (X.blk s H scope (compEnvC scope cl C X.env) fp) W0 me elt) (ho : ∀ i ∈ o, i ∈ own.map (·.2) := by decide) (hs : ∀ x, foldedSetIterable iter X.env x = pure x := by intro _; rfl) :
    JE X W (mLc fz mi g mt me (own.map (·.2))) (.ListComp elt [⟨tg, iter, ifs, 0⟩] scope pos) :=
  impE (pe_lc (g := wpG X.K X.mg g o) (tt := wpT X.K X.mg W0 mt) (te := wpE X.K X.mg W0 me) hc hN hi ok hg ht he hs) fun s H Q h => lc_run ho h
/-- name = [..] -/
theorem js_setLc (i : Nat) (fz : Bool) {y : Str} {py spos : Pos} (hc : X.calm = true) (hN : X.N.Nodup) (hi : JI X W mi tg iter) (ok : BlkOk X.N X.env.scope scope own)
    (hg : ∀ (s : Shared) (H : Hp) (C : Addr) (cl : List (Str × Addr)) (fp : List Addr), JG (X.blk s H scope (compEnvC scope cl C X.env) fp) g o tg)
    (ht : ∀ (s : Shared) (H : Hp) (C : Addr) (cl : List (Str × Addr)) (fp : List Addr), JTs (X.blk s H scope (compEnvC scope cl C X.env) fp) W0 mt ifs)
    (he : ∀ (s : Shared) (H : Hp) (C : Addr) (cl : List (Str × Addr)) (fp : List Addr), JE (X.blk s H scope (compEnvC scope cl C X.env) fp) W0 me elt)
    (hsw : swapsWith (.ListComp elt [⟨tg, iter, ifs, 0⟩] scope pos) (some (.Name y py)) spos.line X.env = pure true) (hy : X.N[i]? = some y := by rfl) (hyl : X.env.scope.names.lookup y = some .local := by rfl)
    (ho : ∀ i ∈ o, i ∈ own.map (·.2) := by decide) (hs : ∀ x, foldedSetIterable iter X.env x = pure x := by intro _; rfl) :
    JS X W (mAsg (mLc fz mi g mt me (own.map (·.2))) (tgName i)) (.Assign [.Name y py] (.ListComp elt [⟨tg, iter, ifs, 0⟩] scope pos) spos) :=
  impS (ps_setLc (g := wpG X.K X.mg g o) (tt := wpT X.K X.mg W0 mt) (te := wpE X.K X.mg W0 me) hc hN hy hyl hsw hi ok hg ht he hs) fun D s H ⟨T, r, F, sd, ah, S, L, P⟩ => lc_run (Q := fun x H1 => gName i x s H1 D.nx) ho (mkES S L P fun d ah1 r1 F1 H1 v x S1 L1 R1 P1 => P1 r1 F1 H1 _ .refl S1 (L1.set i R1))
end
end LD

set_option Elab.async false
set_option linter.all false
set_option maxRecDepth 100000
set_option maxHeartbeats 2000000
namespace LD
open PySem PySem.Spec PyProof.Rows L2
/-! ### trees without cells from n on -/
mutual
def below (n : Nat) : D → Bool
  | .cell m => decide (m < n)
  | .lst xs => belows n xs
  | .tup xs => belows n xs
  | .dic _ vs => belows n vs
  | .ins _ _ vs => belows n vs
  | _ => true
def belows (n : Nat) : List D → Bool
  | [] => true
  | d :: ds => below n d && belows n ds
end
section
variable {K : PySem.W.Frag} {mg : Str → Option Value} {r t : List Addr} {F : Hp}
mutual
theorem Rep.isBelow : ∀ (d : D) (v : V), Rep K mg r F d v → below r.length d = true
  | .non, _, _ => by simp [below]
  | .bl _, _, _ => by simp [below]
  | .int _, _, _ => by simp [below]
  | .str _, _, _ => by simp [below]
  | .cell n, v, h => by
    unfold Rep at h
    obtain ⟨a, _, q⟩ := h
    simp [below, (List.getElem?_eq_some_iff.mp q).1]
  | .scr _, _, _ => by simp [below]
  | .lst xs, v, h => by
    unfold Rep at h
    obtain ⟨a, vs, _, _, q⟩ := h
    unfold below; exact Reps.isBelow xs vs q
  | .tup xs, v, h => by
    unfold Rep at h
    obtain ⟨a, vs, _, _, q⟩ := h
    unfold below; exact Reps.isBelow xs vs q
  | .dic ks ds, v, h => by
    unfold Rep at h
    obtain ⟨a, kvs, _, _, _, q⟩ := h
    unfold below; exact Reps.isBelow ds _ q
  | .ins c ns ds, v, h => by
    unfold Rep at h
    obtain ⟨a, C, dx, gs, _, _, _, _, q⟩ := h
    unfold below; exact Reps.isBelow ds _ q
theorem Reps.isBelow : ∀ (ds : List D) (vs : List V), Reps K mg r F ds vs → belows r.length ds = true
  | [], _, _ => by simp [belows]
  | d :: ds, vs, h => by
    unfold Reps at h
    obtain ⟨v, ws, rfl, h1, h2⟩ := h
    simp [belows, Rep.isBelow d v h1, Reps.isBelow ds ws h2]
end
mutual
theorem Rep.cut : ∀ (d : D) (v : V), Rep K mg (r ++ t) F d v → below r.length d = true → Rep K mg r F d v
  | .non, _, h, _ => h
  | .bl _, _, h, _ => h
  | .int _, _, h, _ => h
  | .str _, _, h, _ => h
  | .scr _, _, h, _ => by unfold Rep at h ⊢; exact h
  | .cell n, v, h, b => by
    unfold Rep at h ⊢
    obtain ⟨a, e, q⟩ := h
    have hn : n < r.length := by simpa [below] using b
    rw [List.getElem?_append_left hn] at q
    exact ⟨a, e, q⟩
  | .lst xs, v, h, b => by
    unfold Rep at h ⊢
    obtain ⟨a, vs, e, f, q⟩ := h
    exact ⟨a, vs, e, f, Reps.cut xs vs q (by simpa [below] using b)⟩
  | .tup xs, v, h, b => by
    unfold Rep at h ⊢
    obtain ⟨a, vs, e, f, q⟩ := h
    exact ⟨a, vs, e, f, Reps.cut xs vs q (by simpa [below] using b)⟩
  | .dic ks ds, v, h, b => by
    unfold Rep at h ⊢
    obtain ⟨a, kvs, e, f, k, q⟩ := h
    exact ⟨a, kvs, e, f, k, Reps.cut ds _ q (by simpa [below] using b)⟩
  | .ins c ns ds, v, h, b => by
    unfold Rep at h ⊢
    obtain ⟨a, C, dx, gs, e, f, c, k, q⟩ := h
    exact ⟨a, C, dx, gs, e, f, c, k, Reps.cut ds _ q (by simpa [below] using b)⟩
theorem Reps.cut : ∀ (ds : List D) (vs : List V), Reps K mg (r ++ t) F ds vs → belows r.length ds = true → Reps K mg r F ds vs
  | [], _, h, _ => by unfold Reps at h ⊢; exact h
  | d :: ds, vs, h, b => by
    unfold Reps at h ⊢
    obtain ⟨v, ws, e, h1, h2⟩ := h
    have b' : below r.length d = true ∧ belows r.length ds = true := by simpa [belows] using b
    exact ⟨v, ws, e, Rep.cut d v h1 b'.1, Reps.cut ds ws h2 b'.2⟩
end
theorem RepO.isBelow {d : D} {o : HO} (h : RepO K mg r F d o) : below r.length d = true := by
  cases d with
  | lst xs => obtain ⟨vs, _, z⟩ := h; unfold below; exact Reps.isBelow _ _ z
  | dic ks ds => obtain ⟨kvs, _, _, z⟩ := h; unfold below; exact Reps.isBelow _ _ z
  | ins c ns ds => obtain ⟨C, dx, gs, _, _, _, z⟩ := h; unfold below; exact Reps.isBelow _ _ z
  | _ => exact h.elim
theorem RepO.cut {d : D} {o : HO} (h : RepO K mg (r ++ t) F d o) (b : below r.length d = true) : RepO K mg r F d o := by
  cases d with
  | lst xs => obtain ⟨vs, e, z⟩ := h; exact ⟨vs, e, Reps.cut _ _ z (by simpa [below] using b)⟩
  | dic ks ds => obtain ⟨kvs, e, k, z⟩ := h; exact ⟨kvs, e, k, Reps.cut _ _ z (by simpa [below] using b)⟩
  | ins c ns ds => obtain ⟨C, dx, gs, e, c, k, z⟩ := h; exact ⟨C, dx, gs, e, c, k, Reps.cut _ _ z (by simpa [below] using b)⟩
  | _ => exact h.elim
end
/-- the cells behind the first ones are let go -/
def Trunc (ah : AH) (ds : List D) (a a' : AH) : Prop :=
  a' = a ∨ (belows ah.length ds = true ∧ a' = a.take ah.length ∧ ∀ (m : Nat) (c : D), m < ah.length → a[m]? = some (some c) → ah[m]? = some (some c) ∨ below ah.length c = true)
def RefE (ah : AH) : RE → RE → Prop
  | _, .bad => True
  | .ok d a, .ok d' a' => d = d' ∧ Trunc ah [d] a a'
  | .exc x a, .exc x' a' => x = x' ∧ Trunc ah x.vs a a'
  | _, _ => False
theorem RefE.refl (ah : AH) : ∀ m : RE, RefE ah m m
  | .ok _ _ => ⟨rfl, .inl rfl⟩
  | .exc _ _ => ⟨rfl, .inl rfl⟩
  | .bad => trivial
theorem take_app (ah ex : AH) : (ah ++ ex).take ah.length = ah := by simp
theorem Trunc.app {ah ex : AH} {ds : List D} (b : belows ah.length ds = true) : Trunc ah ds (ah ++ ex) ah :=
  .inr ⟨b, by simp, fun m c hm h => .inl (by rw [List.getElem?_append_left hm] at h; exact h)⟩
theorem ref_pure {ah ex : AH} {d : D} (b : below ah.length d = true) : RefE ah (.ok d (ah ++ ex)) (.ok d ah) := ⟨rfl, Trunc.app (by simp [belows, b])⟩
theorem Sim.trunc {K : PySem.W.Frag} {mg : Str → Option Value} {T F F' H H' : Hp} {r r' : List Addr} {ah a a' : AH} {ds : List D} (S0 : Sim K mg T r F H ah) (x : Ext r r' F F' H H') (S : Sim K mg T r' F' H' a) (tr : Trunc ah ds a a') :
    ∃ r2, Ext r r2 F F' H H' ∧ Sim K mg T r2 F' H' a' ∧ ∀ vs, Reps K mg r' F' ds vs → Reps K mg r2 F' ds vs := by
  rcases tr with rfl | ⟨b, rfl, hc⟩
  · exact ⟨r', x, S, fun _ h => h⟩
  · obtain ⟨t, rfl⟩ := x.pre
    have hl := S.len
    have hl0 := S0.len
    simp only [List.length_append] at hl
    have hk : ∀ {m : Nat} {c : D}, (a.take ah.length)[m]? = some (some c) → m < ah.length ∧ a[m]? = some (some c) := fun {m c} h => by
      have h1 : m < ah.length := by
        have := (List.getElem?_eq_some_iff.mp h).1
        simp only [List.length_take] at this
        omega
      rw [List.getElem?_take_of_lt h1] at h
      exact ⟨h1, h⟩
    refine ⟨r, ⟨⟨[], by simp⟩, x.fro⟩, ⟨by simp only [List.length_take]; omega, S.sub, fun m c p h1 h2 => ?_, fun n m c c' p h1 h2 h3 h4 => ?_, S.prv, fun m c p h1 h2 => ?_, S.prf⟩, fun vs h => Reps.cut _ _ h (by rw [hl0]; exact b)⟩
    · obtain ⟨hm, e⟩ := hk h1
      obtain ⟨f, o, q1, q2⟩ := S.live m c p e (get_pre h2)
      refine ⟨f, o, q1, q2.cut ?_⟩
      rcases hc m c hm e with z | z
      · obtain ⟨_, o0, _, q0⟩ := S0.live m c p z h2
        exact q0.isBelow
      · rw [hl0]; exact z
    · exact S.inj n m c c' p (hk h1).2 (hk h2).2 (get_pre h3) (get_pre h4)
    · exact S.prl m c p (hk h1).2 (get_pre h2)

/-! ### defs -/
def PoF (K : PySem.W.Frag) (mg : Str → Option Value) (T : Hp) (r : List Addr) (F H : Hp) (m : RE) (Q : VK) (E : XK) : Prop := match m with
  | .ok d ah' => ∀ r' F' H' v, Ext r r' F F' H H' → Sim K mg T r' F' H' ah' → Rep K mg r' F' d v → Q v H'
  | .exc x ah' => ∀ r' F' H' cls dx, Ext r r' F F' H H' → Sim K mg T r' F' H' ah' → RepX K mg r' F' x cls dx → E cls dx H'
  | .bad => False
abbrev Gn := List D → AH → RE
def spD (K : PySem.W.Frag) (mg : Str → Option Value) (n : Nat) (G : Gn) : Sp := fun vs H Q E => ∃ T r F ah ds, Sim K mg T r F H ah ∧ Reps K mg r F ds vs ∧ ds.length = n ∧ PoF K mg T r F H (G ds ah) Q E
/-- the object f is a def of n parameters that does G -/
def FnIs (P : Program) (w : World) (K : PySem.W.Frag) (mg : Str → Option Value) (base : Heap) (f : Addr) (n k : Nat) (G : Gn) : Prop :=
  ∃ fd ps, Binds K fd ps [] ∧ ps.length = n ∧ FnOk P w K mg base (L2.CX P w) k f fd ps (spD K mg n G)
def HasFn (P : Program) (w : World) (K : PySem.W.Frag) (mg : Str → Option Value) (base : Heap) (x : Str) (n k : Nat) (G : Gn) : Prop :=
  ∃ f, mg x = some (.ref f) ∧ PySem.W.keepIn K (.ref f) = true ∧ FnIs P w K mg base f n k G
theorem FnIs.mono {P : Program} {w : World} {K : PySem.W.Frag} {mg : Str → Option Value} {base : Heap} {f : Addr} {n j k : Nat} {G : Gn} (h : FnIs P w K mg base f n j G) (hk : j ≤ k) : FnIs P w K mg base f n k G := by
  obtain ⟨fd, ps, b, l, F⟩ := h
  exact ⟨fd, ps, b, l, F.mono hk⟩
def runB (N : Nat) (m : MS) (ds : List D) (ah : AH) : RE := match m (ds.map some ++ List.replicate (N - ds.length) none) ah with
  | .nx _ a => .ok .non a
  | .ret d a => .ok d a
  | .exc x _ a => .exc x a
  | _ => .bad
theorem slots_start {K : PySem.W.Frag} {mg : Str → Option Value} {r : List Addr} {F : Hp} {N : List Str} : ∀ {ds : List D} {vs : List V}, Reps K mg r F ds vs → Slots K mg r F (ds.map some ++ List.replicate (N.length - ds.length) none) (L2.start N vs) := fun {ds vs} R => by
  have hl := R.length
  refine ⟨by simp [L2.start, hl], fun i d h => ?_⟩
  by_cases hi : i < ds.length
  · rw [List.getElem?_append_left (by simpa using hi), List.getElem?_map] at h
    have e : ds[i]? = some d := by
      cases q : ds[i]? with
      | none => rw [q] at h; cases h
      | some y => rw [q] at h; simp at h; rw [h]
    obtain ⟨v, h1, h2⟩ := R.get e
    refine ⟨v, ?_, h2⟩
    unfold L2.start
    rw [List.getElem?_append_left (by simp; omega), List.getElem?_map, h1] <;> rfl
  · rw [List.getElem?_append_right (by simp; omega)] at h
    rw [List.getElem?_replicate] at h
    split at h <;> cases h
theorem fn_ok {P : Program} {w : World} {K : PySem.W.Frag} {mg : Str → Option Value} {base : Heap} {x qual : Str} {params : Arguments} {body : List Stmt} {scope : Scope} {f : Addr} {fd : FuncData} {N ps : List Str} {k : Nat} {m : MS} {G : Gn}
    (Fd : FunD K x qual params body scope [] [] f fd) (Sc : FnScope N ps scope) (hb : Binds K fd ps [])
    (hbody : ∀ (cdv : Value) (A : Around) (outer : List Env) (s : Shared) (H : Hp) (E : XK), Room k (A.deeper (envOfC qual scope s.heap.objs.size f cdv)) →
      JSs (cxOf (L2.CX P w) P w K mg base N qual scope f cdv A outer s H E) (fun cls d _ H => E cls d H) m body)
    (href : ∀ ds ah, ds.length = ps.length → RefE ah (runB N.length m ds ah) (G ds ah)) : FnOk P w K mg base (L2.CX P w) (k + 1) f fd ps (spD K mg ps.length G) := by
  refine Fd.ok Sc (fun vs H Q E ⟨T, r, F, ah, ds, S, R, hn, _⟩ => by rw [← R.length]; exact hn) fun cdv A outer s H vs Q E hr ⟨T, r, F, ah, ds, S, R, hn, P⟩ => ⟨_, hbody cdv A outer s H E hr, ?_⟩
  refine ⟨T, r, F, _, ah, S, slots_start R, ?_⟩
  have h := href ds ah hn
  unfold runB at h
  cases e : m (ds.map some ++ List.replicate (N.length - ds.length) none) ah with
  | nx sd a =>
    rw [e] at h
    cases eg : G ds ah with
    | ok d' a' =>
      rw [eg] at h P
      obtain ⟨ed, tr⟩ := h
      intro r' F' H' s' x' S' L'
      obtain ⟨r2, x2, S2, R2⟩ := S.trunc x' S' tr
      exact P r2 F' H' _ x2 S2 (by rw [← ed]; unfold Rep; rfl)
    | exc _ _ => rw [eg] at h; exact h.elim
    | bad => rw [eg] at P; exact P.elim
  | ret d a =>
    rw [e] at h
    cases eg : G ds ah with
    | ok d' a' =>
      rw [eg] at h P
      obtain ⟨ed, tr⟩ := h
      intro r' F' H' v x' S' R'
      obtain ⟨r2, x2, S2, R2⟩ := S.trunc x' S' tr
      obtain ⟨v', e1, R3⟩ := reps1 (R2 [v] (.one R'))
      cases e1
      exact P r2 F' H' _ x2 S2 (by rw [← ed]; exact R3)
    | exc _ _ => rw [eg] at h; exact h.elim
    | bad => rw [eg] at P; exact P.elim
  | exc x sd a =>
    rw [e] at h
    cases eg : G ds ah with
    | ok d' a' => rw [eg] at h; exact h.elim
    | exc x' a' =>
      rw [eg] at h P
      obtain ⟨ed, tr⟩ := h
      subst ed
      intro r' F' H' s' cls dx x' S' L' R'
      obtain ⟨r2, x2, S2, R2⟩ := S.trunc x' S' tr
      refine P r2 F' H' cls dx x2 S2 ?_
      obtain ⟨C, e1, e2, e3⟩ := R'
      refine ⟨C, e1, e2, ?_⟩
      cases dx with
      | none => exact e3
      | some d =>
        obtain ⟨g0, gs, g1, g2, g3⟩ := e3
        exact ⟨g0, gs, g1, g2, R2 _ g3⟩
    | bad => rw [eg] at P; exact P.elim
  | brk _ _ =>
    rw [e] at h
    cases eg : G ds ah with
    | bad => rw [eg] at P; exact P.elim
    | _ => rw [eg] at h; exact h.elim
  | cnt _ _ =>
    rw [e] at h
    cases eg : G ds ah with
    | bad => rw [eg] at P; exact P.elim
    | _ => rw [eg] at h; exact h.elim
  | bad =>
    rw [e] at h
    cases eg : G ds ah with
    | bad => rw [eg] at P; exact P.elim
    | _ => rw [eg] at h; exact h.elim
theorem fn_is {P : Program} {w : World} {K : PySem.W.Frag} {mg : Str → Option Value} {base : Heap} {x qual : Str} {params : Arguments} {body : List Stmt} {scope : Scope} {f : Addr} {fd : FuncData} {N ps : List Str} {k : Nat} {m : MS} {G : Gn}
    (Fd : FunD K x qual params body scope [] [] f fd) (Sc : FnScope N ps scope) (hb : Binds K fd ps [])
    (hbody : ∀ (cdv : Value) (A : Around) (outer : List Env) (s : Shared) (H : Hp) (E : XK), Room k (A.deeper (envOfC qual scope s.heap.objs.size f cdv)) →
      JSs (cxOf (L2.CX P w) P w K mg base N qual scope f cdv A outer s H E) (fun cls d _ H => E cls d H) m body)
    (href : ∀ ds ah, ds.length = ps.length → RefE ah (runB N.length m ds ah) (G ds ah)) : FnIs P w K mg base f ps.length (k + 1) G := ⟨fd, ps, hb, rfl, fn_ok Fd Sc hb hbody href⟩
def mCall (n : Nat) (G : Gn) (ma : ME) : ME := fun sd ah => (ma sd ah).args fun ds a => if ds.length = n then G ds a else .bad
section
variable {X : Cx} {W : WX} {pos : Pos} {e : Expr} {es : List Expr} {ma me : ME}
theorem call_end {n : Nat} {G : Gn} {T F H : Hp} {r : List Addr} {s : L2.St} {ah : AH} {ds : List D} {vs : List V} {Q : VK} (S : Sim X.K X.mg T r F H ah) (R : Reps X.K X.mg r F ds vs) (P : PoE X.K X.mg T W r F H s (if ds.length = n then G ds ah else .bad) Q) :
    spD X.K X.mg n G vs H Q (WE W s) := by
  by_cases hn : ds.length = n
  · rw [if_pos hn] at P
    refine ⟨T, r, F, ah, ds, S, R, hn, ?_⟩
    cases e : G ds ah with
    | ok d a => rw [e] at P; exact P
    | exc x a => rw [e] at P; exact P
    | bad => rw [e] at P; exact P
  · rw [if_neg hn] at P
    exact P.elim
theorem je_call {x : Str} {p : Pos} {n k j : Nat} {G : Gn} (h : HasFn X.prog X.w X.K X.mg X.base x n k G) (hr : Room j X.A) (hk : k ≤ j) (tk : Takes X W) (ha : JA X W ma (e :: es)) (hg : Gl X x := by rfl) (hdb : (x == ("__debug__" : Str)) = false := by decide)
    (he : starEach (e :: es) X.env = (false, eval e X.env) :: starEach es X.env := by rfl) (hpl : (backTo pos (starEach es X.env)).any (·.1) = false := by rfl) : JE X W (mCall n G ma) (.Call (.Name x p) (e :: es) [] pos) := by
  obtain ⟨f, hm, hkp, fd, ps, hb, hn, F⟩ := h
  exact impE (pe_callSD F (hr.mono hk) hg hm hkp hb .nil (fun σ => passAt tk σ) ha hdb he hpl) fun s H Q ⟨T, r, F, sd, ah, S, L, P⟩ => mkA S L P fun ds ah1 r1 F1 H1 vs e1 S1 L1 R1 P1 => by
    show spD X.K X.mg n G (vs ++ []) H1 Q (WE W s)
    rw [List.append_nil]
    exact call_end S1 R1 P1
end

/-! ### what a value is, its cell opened -/
def view (ah : AH) : D → D
  | .cell n => match ah[n]? with
    | some (some c) => c
    | _ => .cell n
  | d => d
section
variable {K : PySem.W.Frag} {mg : Str → Option Value} {T F H : Hp} {r : List Addr} {ah : AH} {d : D} {v : V}
theorem view_lst {xs : List D} (S : Sim K mg T r F H ah) (R : Rep K mg r F d v) (e : view ah d = .lst xs) : ∃ a vs, v = .ref a ∧ Rd H a (.lst vs) ∧ Reps K mg r F xs vs := by
  cases d with
  | lst ys =>
    have e' : ys = xs := D.lst.inj e
    subst e'
    unfold Rep at R
    obtain ⟨a, vs, rfl, h, q⟩ := R
    exact ⟨a, vs, rfl, S.sub _ _ h, q⟩
  | cell n =>
    change (match ah[n]? with
      | some (some c) => c
      | _ => D.cell n) = _ at e
    split at e
    · rename_i c hc
      subst e
      unfold Rep at R
      obtain ⟨a, rfl, h⟩ := R
      obtain ⟨_, o, h1, vs, rfl, h3⟩ := S.live n _ a hc h
      exact ⟨a, vs, rfl, .inl h1, h3⟩
    · cases e
  | _ => cases e
theorem view_tup {xs : List D} (S : Sim K mg T r F H ah) (R : Rep K mg r F d v) (e : view ah d = .tup xs) : ∃ a vs, v = .ref a ∧ SqT K H a vs ∧ Reps K mg r F xs vs := by
  cases d with
  | tup ys =>
    have e' : ys = xs := D.tup.inj e
    subst e'
    unfold Rep at R
    obtain ⟨a, vs, rfl, h, q⟩ := R
    refine ⟨a, vs, rfl, ?_, q⟩
    rcases h with z | z
    · exact .inl (S.sub _ _ z)
    · exact z H
  | cell n =>
    change (match ah[n]? with
      | some (some c) => c
      | _ => D.cell n) = _ at e
    split at e
    · rename_i c hc
      subst e
      unfold Rep at R
      obtain ⟨a, rfl, h⟩ := R
      obtain ⟨_, o, h1, h2⟩ := S.live n _ a hc h
      exact h2.elim
    · cases e
  | _ => cases e
theorem view_str {x : Str} (S : Sim K mg T r F H ah) (R : Rep K mg r F d v) (e : view ah d = .str x) : v = .str x ∧ PySem.PyData.strOk x = true := by
  cases d with
  | str y =>
    have e' : y = x := D.str.inj e
    subst e'
    unfold Rep at R
    exact R
  | cell n =>
    change (match ah[n]? with
      | some (some c) => c
      | _ => D.cell n) = _ at e
    split at e
    · rename_i c hc
      subst e
      unfold Rep at R
      obtain ⟨a, rfl, h⟩ := R
      obtain ⟨_, o, h1, h2⟩ := S.live n _ a hc h
      exact h2.elim
    · cases e
  | _ => cases e
theorem view_dic {ks ds : List D} (S : Sim K mg T r F H ah) (R : Rep K mg r F d v) (e : view ah d = .dic ks ds) : ∃ a kvs, v = .ref a ∧ Rd H a (.dK kvs) ∧ ks.map keyOf = kvs.map (fun q => some q.1) ∧ Reps K mg r F ds (kvs.map (·.2)) := by
  cases d with
  | dic ks' ds' =>
    obtain ⟨e1, e2⟩ := D.dic.inj e
    subst e1; subst e2
    unfold Rep at R
    obtain ⟨a, kvs, rfl, h, k, q⟩ := R
    exact ⟨a, kvs, rfl, S.sub _ _ h, k, q⟩
  | cell n =>
    change (match ah[n]? with
      | some (some c) => c
      | _ => D.cell n) = _ at e
    split at e
    · rename_i c hc
      subst e
      unfold Rep at R
      obtain ⟨a, rfl, h⟩ := R
      obtain ⟨_, o, h1, kvs, rfl, h3, h4⟩ := S.live n _ a hc h
      exact ⟨a, kvs, rfl, .inl h1, h3, h4⟩
    · cases e
  | _ => cases e
theorem view_ins {c : Str} {ns : List Str} {ds : List D} (S : Sim K mg T r F H ah) (R : Rep K mg r F d v) (e : view ah d = .ins c ns ds) : ∃ a C dx gs, v = .ref a ∧ Rd H a (.ins C dx gs) ∧ mg c = some (.ref C) ∧ ns = gs.map (·.1) ∧ Reps K mg r F ds (gs.map (·.2)) := by
  cases d with
  | ins c' ns' ds' =>
    obtain ⟨e0, e1, e2⟩ := D.ins.inj e
    subst e0; subst e1; subst e2
    unfold Rep at R
    obtain ⟨a, C, dx, gs, rfl, h, m, k, q⟩ := R
    exact ⟨a, C, dx, gs, rfl, S.sub _ _ h, m, k, q⟩
  | cell n =>
    change (match ah[n]? with
      | some (some c) => c
      | _ => D.cell n) = _ at e
    split at e
    · rename_i c hc
      subst e
      unfold Rep at R
      obtain ⟨a, rfl, h⟩ := R
      obtain ⟨_, o, h1, C, dx, gs, rfl, m, h3, h4⟩ := S.live n _ a hc h
      exact ⟨a, C, dx, gs, rfl, .inl h1, m, h3, h4⟩
    · cases e
  | _ => cases e
theorem view_scr {xs : List Int} (S : Sim K mg T r F H ah) (R : Rep K mg r F d v) (e : view ah d = .scr xs) : ∃ a, v = .ref a ∧ SqL K H a (xs.map V.int) := by
  cases d with
  | scr ys =>
    have e' : ys = xs := D.scr.inj e
    subst e'
    unfold Rep at R
    obtain ⟨a, rfl, h⟩ := R
    exact ⟨a, rfl, h.elim (fun z => .inl (S.sub _ _ z)) fun z => z H⟩
  | cell n =>
    change (match ah[n]? with
      | some (some c) => c
      | _ => D.cell n) = _ at e
    split at e
    · rename_i c hc
      subst e
      unfold Rep at R
      obtain ⟨a, rfl, h⟩ := R
      obtain ⟨_, o, h1, h2⟩ := S.live n _ a hc h
      exact h2.elim
    · cases e
  | _ => cases e
theorem reps_ints : ∀ (ns : List Int), Reps K mg r F (ns.map D.int) (ns.map V.int)
  | [] => .nil
  | n :: ns => .cons (by unfold Rep; rfl) (reps_ints ns)
theorem PoV.ret {m : Option (D × AH)} {Q : VK} (P : PoV K mg T r F H m Q) {d : D} (e : m = some (d, ah)) (S : Sim K mg T r F H ah) (R : Rep K mg r F d v) : Q v H := by
  subst e
  exact P r F H v .refl S R
end
def mkO (fz : Bool) (c : D) (ah : AH) : Option (D × AH) := if fz = true then some (c, ah) else some (.cell ah.length, ah ++ [some c])
theorem new_objV {K : PySem.W.Frag} {mg : Str → Option Value} {T F H : Hp} {r : List Addr} {ah : AH} {Q : VK} {fz : Bool} {c : D} {o : HO} {p : Addr} (S : Sim K mg T r F H ah) (hp : H p = none) (ro : RepO K mg r F c o)
    (P : PoV K mg T r F H (mkO fz c ah) Q) : Q (.ref p) (upd H p o) := by
  cases fz with
  | true =>
    obtain ⟨S', x, e⟩ := S.freshF (o := o) hp
    exact P _ _ _ _ x S' (Rep.ofO (ro.mono x.pre x.fro) e)
  | false =>
    obtain ⟨S', x, e⟩ := S.freshC hp ro
    exact P _ _ _ _ x S' (by unfold Rep; exact ⟨p, rfl, e⟩)
theorem new_tupV {K : PySem.W.Frag} {mg : Str → Option Value} {T F H : Hp} {r : List Addr} {ah : AH} {Q : VK} {xs : List D} {vs : List V} {p : Addr} (S : Sim K mg T r F H ah) (hp : H p = none) (R : Reps K mg r F xs vs)
    (P : PoV K mg T r F H (some (.tup xs, ah)) Q) : Q (.ref p) (upd H p (.tup vs)) := by
  obtain ⟨S', x, e⟩ := S.freshF (o := .tup vs) hp
  exact P _ _ _ _ x S' (by unfold Rep; exact ⟨p, vs, rfl, .inl e, x.reps R⟩)
theorem RdL {K : PySem.W.Frag} {H : Hp} {a : Addr} {vs : List V} (h : Rd H a (.lst vs)) : SqL K H a vs := .inl h
end LD

set_option Elab.async false
set_option linter.all false
set_option maxRecDepth 100000
set_option maxHeartbeats 2000000
namespace LD
open PySem PySem.Spec PyProof.Rows L2
/-! ### data -/
mutual
def toPy : D → Option PyData
  | .non => some .none
  | .bl b => some (.bool b)
  | .int i => some (.int i)
  | .str x => some (.str x)
  | .lst xs => (toPys xs).map .list
  | .tup xs => (toPys xs).map .tuple
  | _ => none
def toPys : List D → Option (List PyData)
  | [] => some []
  | d :: ds => match toPy d with
    | some p => (toPys ds).map (p :: ·)
    | none => none
end
section
variable {K : PySem.W.Frag} {mg : Str → Option Value} {T F H : Hp} {r : List Addr} {ah : AH}
mutual
theorem dp_of (S : Sim K mg T r F H ah) : ∀ (d : D) (v : V) (p : PyData), Rep K mg r F d v → toPy d = some p → Dp K H v p ∧ p.canLay0 = true
  | .non, v, p, R, e => by
    unfold Rep at R; subst R
    cases e; exact ⟨.non, rfl⟩
  | .bl b, v, p, R, e => by
    unfold Rep at R; subst R
    cases e; exact ⟨.bl b, rfl⟩
  | .int i, v, p, R, e => by
    unfold Rep at R; subst R
    cases e; exact ⟨.int i, rfl⟩
  | .str x, v, p, R, e => by
    unfold Rep at R
    obtain ⟨rfl, hx⟩ := R
    cases e; exact ⟨.str x, hx⟩
  | .lst xs, v, p, R, e => by
    unfold Rep at R
    obtain ⟨a, vs, rfl, h, q⟩ := R
    unfold toPy at e
    cases ex : toPys xs with
    | none => rw [ex] at e; cases e
    | some ps =>
      rw [ex] at e; cases e
      obtain ⟨z1, z2⟩ := dps_of S xs vs ps q ex
      exact ⟨.lst (.inl (S.sub _ _ h)) z1, by simpa [PyData.canLay0] using z2⟩
  | .tup xs, v, p, R, e => by
    unfold Rep at R
    obtain ⟨a, vs, rfl, h, q⟩ := R
    unfold toPy at e
    cases ex : toPys xs with
    | none => rw [ex] at e; cases e
    | some ps =>
      rw [ex] at e; cases e
      obtain ⟨z1, z2⟩ := dps_of S xs vs ps q ex
      refine ⟨.tup ?_ z1, by simpa [PyData.canLay0] using z2⟩
      rcases h with z | z
      · exact .inl (S.sub _ _ z)
      · exact z H
  | .dic _ _, _, _, _, e => by cases e
  | .ins _ _ _, _, _, _, e => by cases e
  | .cell _, _, _, _, e => by cases e
  | .scr _, _, _, _, e => by cases e
theorem dps_of (S : Sim K mg T r F H ah) : ∀ (ds : List D) (vs : List V) (ps : List PyData), Reps K mg r F ds vs → toPys ds = some ps → DpAll K H vs ps ∧ PyData.canLayAll0 ps = true
  | [], vs, ps, R, e => by
    unfold Reps at R; subst R
    cases e; exact ⟨.nil, rfl⟩
  | d :: ds, vs, ps, R, e => by
    unfold Reps at R
    obtain ⟨v, ws, rfl, R1, R2⟩ := R
    unfold toPys at e
    cases e1 : toPy d with
    | none => rw [e1] at e; cases e
    | some p =>
      rw [e1] at e
      dsimp only at e
      cases e2 : toPys ds with
      | none => rw [e2] at e; cases e
      | some qs =>
        rw [e2] at e; cases e
        obtain ⟨z1, z2⟩ := dp_of S d v p R1 e1
        obtain ⟨z3, z4⟩ := dps_of S ds ws qs R2 e2
        exact ⟨.cons z1 z3, by simp [PyData.canLayAll0, z2, z4]⟩
end
/-- .. its cell opened -/
theorem dp_view (S : Sim K mg T r F H ah) {d : D} {v : V} {p : PyData} (R : Rep K mg r F d v) (e : toPy (view ah d) = some p) : Dp K H v p ∧ p.canLay0 = true := by
  cases d with
  | cell n =>
    cases ev : view ah (.cell n) with
    | lst xs =>
      rw [ev] at e
      obtain ⟨a, vs, rfl, h, q⟩ := view_lst S R ev
      unfold toPy at e
      cases ex : toPys xs with
      | none => rw [ex] at e; cases e
      | some ps =>
        rw [ex] at e; cases e
        obtain ⟨z1, z2⟩ := dps_of S xs vs ps q ex
        exact ⟨.lst (.inl h) z1, by simpa [PyData.canLay0] using z2⟩
    | tup xs =>
      obtain ⟨a, vs, rfl, h, q⟩ := view_tup S R ev
      rw [ev] at e
      unfold toPy at e
      cases ex : toPys xs with
      | none => rw [ex] at e; cases e
      | some ps =>
        rw [ex] at e; cases e
        obtain ⟨z1, z2⟩ := dps_of S xs vs ps q ex
        exact ⟨.tup h z1, by simpa [PyData.canLay0] using z2⟩
    | str x =>
      obtain ⟨rfl, hx⟩ := view_str S R ev
      rw [ev] at e; cases e
      exact ⟨.str x, hx⟩
    | _ =>
      first
        | (rw [ev] at e; cases e; done)
        | (exfalso
           change (match ah[n]? with
             | some (some c) => c
             | _ => D.cell n) = _ at ev
           split at ev
           · rename_i c hc
             subst ev
             unfold Rep at R
             obtain ⟨a, rfl, h⟩ := R
             obtain ⟨_, o, h1, h2⟩ := S.live n _ a hc h
             exact h2
           · cases ev)
  | _ => exact dp_of S _ _ _ R e
end
def fEq : FB := fun d1 d2 ah => match toPy (view ah d1), toPy (view ah d2) with
  | some p, some q => if p.depth ≤ 64 ∧ q.depth ≤ 64 then some (.bl (PyData.eqv p q), ah) else none
  | _, _ => none
def fNe : FB := fun d1 d2 ah => match toPy (view ah d1), toPy (view ah d2) with
  | some p, some q => if p.depth ≤ 64 ∧ q.depth ≤ 64 then some (.bl (!PyData.eqv p q), ah) else none
  | _, _ => none
section
variable {K : PySem.W.Frag} {mg : Str → Option Value}
theorem shaped_of {p : PyData} (h : p.canLay0 = true) (hd : p.depth ≤ 64) : SeqAt.shaped p = true := by
  unfold SeqAt.shaped
  simp [h, hd]
theorem d_eq : OpD K mg (rEqD K) fEq := fun T r F H ah d1 d2 v1 v2 Q S R1 R2 P => by
  unfold fEq at P
  split at P
  · rename_i p q e1 e2
    by_cases c : p.depth ≤ 64 ∧ q.depth ≤ 64
    · rw [if_pos c] at P
      obtain ⟨z1, z2⟩ := dp_view S R1 e1
      obtain ⟨z3, z4⟩ := dp_view S R2 e2
      exact ⟨p, q, z1, z3, shaped_of z2 c.1, shaped_of z4 c.2, P.ret rfl S repBl⟩
    · rw [if_neg c] at P; exact P.elim
  · exact P.elim
theorem d_ne : OpD K mg (rNeD K) fNe := fun T r F H ah d1 d2 v1 v2 Q S R1 R2 P => by
  unfold fNe at P
  split at P
  · rename_i p q e1 e2
    by_cases c : p.depth ≤ 64 ∧ q.depth ≤ 64
    · rw [if_pos c] at P
      obtain ⟨z1, z2⟩ := dp_view S R1 e1
      obtain ⟨z3, z4⟩ := dp_view S R2 e2
      exact ⟨p, q, z1, z3, shaped_of z2 c.1, shaped_of z4 c.2, P.ret rfl S repBl⟩
    · rw [if_neg c] at P; exact P.elim
  · exact P.elim
/-! ### numbers -/
theorem repI {r : List Addr} {F : Hp} {i : Int} : Rep K mg r F (.int i) (.int i) := by unfold Rep; rfl
def fI (C : Int → Int → Bool) (g : Int → Int → D) : FB := fun d1 d2 ah => match d1, d2 with
  | .int i, .int j => if C i j = true then some (g i j, ah) else none
  | _, _ => none
theorem fI_two {C : Int → Int → Bool} {g : Int → Int → D} {T F H : Hp} {r : List Addr} {ah : AH} {d1 d2 : D} {v1 v2 : V} {Q : VK} (R1 : Rep K mg r F d1 v1) (R2 : Rep K mg r F d2 v2) (P : PoV K mg T r F H (fI C g d1 d2 ah) Q) :
    ∃ i j, v1 = .int i ∧ v2 = .int j ∧ C i j = true ∧ PoV K mg T r F H (some (g i j, ah)) Q := by
  unfold fI at P
  split at P
  · rename_i i j
    unfold Rep at R1 R2
    by_cases c : C i j = true
    · rw [if_pos c] at P
      exact ⟨i, j, R1, R2, c, P⟩
    · rw [if_neg c] at P; exact P.elim
  · exact P.elim
theorem opI_of {C : Int → Int → Bool} {C' : Int → Int → Prop} {g : Int → Int → Int} (h : ∀ i j, C i j = true → C' i j) : OpD K mg (rI C' fun i j => .int (g i j)) (fI C fun i j => .int (g i j)) := fun T r F H ah d1 d2 v1 v2 Q S R1 R2 P => by
  obtain ⟨i, j, rfl, rfl, c, P⟩ := fI_two R1 R2 P
  exact ⟨i, j, rfl, rfl, h i j c, P.ret rfl S repI⟩
theorem opI0_of {g : Int → Int → Int} : OpD K mg (rI0 fun i j => .int (g i j)) (fI (fun _ _ => true) fun i j => .int (g i j)) := fun T r F H ah d1 d2 v1 v2 Q S R1 R2 P => by
  obtain ⟨i, j, rfl, rfl, _, P⟩ := fI_two R1 R2 P
  exact ⟨i, j, rfl, rfl, P.ret rfl S repI⟩
theorem opB0_of {g : Int → Int → Bool} : OpD K mg (rI0 fun i j => .bl (g i j)) (fI (fun _ _ => true) fun i j => .bl (g i j)) := fun T r F H ah d1 d2 v1 v2 Q S R1 R2 P => by
  obtain ⟨i, j, rfl, rfl, _, P⟩ := fI_two R1 R2 P
  exact ⟨i, j, rfl, rfl, P.ret rfl S repBl⟩
def fSub : FB := fI (fun _ _ => true) fun i j => .int (i - j)
def fMulI : FB := fI (fun i j => decide (i.natAbs.log2 + j.natAbs.log2 < 1000000)) fun i j => .int (i * j)
def fDiv : FB := fI (fun _ j => decide (0 < j ∧ j.natAbs.log2 < 9000)) fun i j => .int (i / j)
def fMod : FB := fI (fun _ j => decide (0 < j)) fun i j => .int (i % j)
def fPow : FB := fI (fun i j => decide (0 ≤ j ∧ j ≤ 1000000 ∧ i.natAbs < 2 ^ 64)) fun i j => .int (i ^ j.toNat)
theorem d_sub : OpD K mg (rI0 fun i j => .int (i - j)) fSub := opI0_of
theorem d_mulI : OpD K mg (rI CMulW fun i j => .int (i * j)) fMulI := opI_of fun i j h => (of_decide_eq_true h : i.natAbs.log2 + j.natAbs.log2 < 1000000)
theorem d_div : OpD K mg (rI CDivW fun i j => .int (i / j)) fDiv := opI_of fun i j h => (of_decide_eq_true h : 0 < j ∧ j.natAbs.log2 < 9000)
theorem d_mod : OpD K mg (rI (fun _ j => 0 < j) fun i j => .int (i % j)) fMod := opI_of fun i j h => of_decide_eq_true h
theorem d_pow : OpD K mg (rI CPow fun i j => .int (i ^ j.toNat)) fPow := opI_of fun i j h => (of_decide_eq_true h : 0 ≤ j ∧ j ≤ 1000000 ∧ i.natAbs < 2 ^ 64)
/-! ### order: numbers and texts -/
def fOrd (p : Int → Int → Bool) (q : List Nat → List Nat → Bool) : FB := fun d1 d2 ah => match d1, d2 with
  | .int i, .int j => some (.bl (p i j), ah)
  | .str x, .str y => some (.bl (q x.cps.toList y.cps.toList), ah)
  | _, _ => none
def rOrd (p : Int → Int → Bool) (q : List Nat → List Nat → Bool) : R2 := fun x y H Q => (∃ i j, x = .int i ∧ y = .int j ∧ Q (.bl (p i j)) H) ∨ ∃ i j, x = .str i ∧ y = .str j ∧ Q (.bl (q i.cps.toList j.cps.toList)) H
theorem d_ord {p : Int → Int → Bool} {q : List Nat → List Nat → Bool} : OpD K mg (rOrd p q) (fOrd p q) := fun T r F H ah d1 d2 v1 v2 Q S R1 R2 P => by
  unfold fOrd at P
  split at P
  · rename_i i j
    unfold Rep at R1 R2
    exact .inl ⟨i, j, R1, R2, P.ret rfl S repBl⟩
  · rename_i x y
    unfold Rep at R1 R2
    exact .inr ⟨x, y, R1.1, R2.1, P.ret rfl S repBl⟩
  · exact P.elim
abbrev pLt (i j : Int) : Bool := decide (i < j)
abbrev pLe (i j : Int) : Bool := decide (i ≤ j)
abbrev pGt (i j : Int) : Bool := decide (j < i)
abbrev pGe (i j : Int) : Bool := decide (j ≤ i)
abbrev qLt (x y : List Nat) : Bool := decide (x < y)
abbrev qLe (x y : List Nat) : Bool := !decide (y < x)
abbrev qGt (x y : List Nat) : Bool := decide (y < x)
abbrev qGe (x y : List Nat) : Bool := !decide (x < y)
def fLt : FB := fOrd pLt qLt
def fLe : FB := fOrd pLe qLe
def fGt : FB := fOrd pGt qGt
def fGe : FB := fOrd pGe qGe
end
section
variable {X : Cx} {W : WX}
theorem o_lt : OpR X (compareOp .Lt) (rOrd pLt qLt) := op_lt.or op_lt_str
theorem o_le : OpR X (compareOp .LtE) (rOrd pLe qLe) := op_le.or op_le_str
theorem o_gt : OpR X (compareOp .Gt) (rOrd pGt qGt) := op_gt.or op_gt_str
theorem o_ge : OpR X (compareOp .GtE) (rOrd pGe qGe) := op_ge.or op_ge_str
/-! ### + -/
theorem Inv.lstR {pins : List (Addr × Obj)} {σ : L2.St} {H : Hp} {s : Shared} {l : Addr} {xs : List V} (I : L2.Inv X pins σ H s) (hH : Rd H l (.lst xs)) : xs.length ≤ sizeLine ∧ ∃ (its : List Value) (n : Nat), Vals xs its ∧ xs.length = its.length ∧ s.heap.get? l = some { cls := .type "list", data := .seq its.toArray n } := by
  obtain ⟨z, its, n, r, e⟩ := hH.ok I.hok
  exact ⟨z, its, n, r, r.length, e⟩
def rCatR : R2 := fun x y H Q => ∃ l b xs zs, x = .ref l ∧ y = .ref b ∧ Rd H l (.lst xs) ∧ Rd H b (.lst zs) ∧ xs.length + zs.length ≤ sizeLine ∧ ∀ p, H p = none → Q (.ref p) (upd H p (.lst (xs ++ zs)))
theorem op_catR : OpR X (binaryOp .Add) rCatR := by
  intro pins s σ H x y v u Q I rx ry h
  obtain ⟨l, b, xs, zs, rfl, rfl, hH, hB, hz, q⟩ := h
  cases rx
  cases ry
  obtain ⟨z, its, n, r, hl, e⟩ := Inv.lstR I hH
  obtain ⟨z2, its2, n2, r2, hl2, e2⟩ := Inv.lstR I hB
  refine PySem.P.add_list e e2 ?_ (by rw [List.size_toArray, List.size_toArray]; omega)
  have ea : its.toArray ++ its2.toArray = (its ++ its2).toArray := by simp
  rw [ea]
  exact ⟨.ref _, _, I.lnew (t' := s.toks) (r.append r2) (by rw [List.length_append]; omega), rfl, q _ I.fresh⟩
def rRepR : R2 := fun x y H Q => ∃ l k xs, x = .ref l ∧ y = .int k ∧ H l = some (.lst xs) ∧ -(2 ^ 63) ≤ k ∧ k < 2 ^ 63 ∧ xs.length * k.toNat ≤ sizeLine ∧ ∀ p, H p = none → Q (.ref p) (upd H p (.lst (List.replicate k.toNat xs).flatten))
abbrev rAddA (K : PySem.W.Frag) : R2 := fun x y H Q => ((((∃ i j, x = .int i ∧ y = .int j ∧ Q (.int (i + j)) H) ∨ ∃ i j, x = .str i ∧ y = .str j ∧ i.length + j.length ≤ sizeLine ∧ Q (.str (i ++ j)) H) ∨ rCatR x y H Q) ∨ rCatA K x y H Q)
theorem o_add : OpR X (binaryOp .Add) (rAddA X.K) := ((op_add.or op_add_str).or op_catR).or op_catA
end
def fAdd (fz : Bool) : FB := fun d1 d2 ah => match d1, d2 with
  | .int i, .int j => some (.int (i + j), ah)
  | .str x, .str y => if x.length + y.length ≤ sizeLine then some (.str (x ++ y), ah) else none
  | .tup xs, .tup ys => if xs.length + ys.length ≤ sizeLine then some (.tup (xs ++ ys), ah) else none
  | a, b => match view ah a, view ah b with
    | .lst xs, .lst ys => if xs.length + ys.length ≤ sizeLine then mkO fz (.lst (xs ++ ys)) ah else none
    | _, _ => none
theorem strOk_append {x y : Str} (hx : PySem.PyData.strOk x = true) (hy : PySem.PyData.strOk y = true) : PySem.PyData.strOk (x ++ y) = true := by
  unfold PySem.PyData.strOk at *
  show (x.cps ++ y.cps).all _ = true
  simp only [Array.all_append, hx, hy, Bool.and_self]
section
variable {K : PySem.W.Frag} {mg : Str → Option Value}
theorem d_add (fz : Bool) : OpD K mg (rAddA K) (fAdd fz) := fun T r F H ah d1 d2 v1 v2 Q S R1 R2 P => by
  unfold fAdd at P
  split at P
  · rename_i i j
    unfold Rep at R1 R2
    exact .inl (.inl (.inl ⟨i, j, R1, R2, P.ret rfl S repI⟩))
  · rename_i x y
    unfold Rep at R1 R2
    obtain ⟨rfl, hx⟩ := R1
    obtain ⟨rfl, hy⟩ := R2
    by_cases c : x.length + y.length ≤ sizeLine
    · rw [if_pos c] at P
      exact .inl (.inl (.inr ⟨x, y, rfl, rfl, c, P.ret rfl S (by unfold Rep; exact ⟨rfl, strOk_append hx hy⟩)⟩))
    · rw [if_neg c] at P; exact P.elim
  · rename_i xs ys
    obtain ⟨a, vs, rfl, h1, q1⟩ := view_tup S R1 rfl
    obtain ⟨b, ws, rfl, h2, q2⟩ := view_tup S R2 rfl
    by_cases c : xs.length + ys.length ≤ sizeLine
    · rw [if_pos c] at P
      refine .inr ⟨a, b, vs, ws, rfl, rfl, h1, h2, by rw [← q1.length, ← q2.length]; exact c, fun z => ?_, fun z1 z2 => ?_, fun z1 z2 p hp => ?_⟩
      · subst z
        have e : xs = [] := by have := q1.length; simpa using this
        subst e
        exact P.ret rfl S R2
      · subst z2
        have e : ys = [] := by have := q2.length; simpa using this
        subst e
        rw [List.append_nil] at P
        exact P.ret rfl S R1
      · exact new_tupV S hp (q1.append q2) P
    · rw [if_neg c] at P; exact P.elim
  · split at P
    · rename_i xs ys e1 e2
      obtain ⟨a, vs, rfl, h1, q1⟩ := view_lst S R1 e1
      obtain ⟨b, ws, rfl, h2, q2⟩ := view_lst S R2 e2
      by_cases c : xs.length + ys.length ≤ sizeLine
      · rw [if_pos c] at P
        exact .inl (.inr ⟨a, b, vs, ws, rfl, rfl, h1, h2, by rw [← q1.length, ← q2.length]; exact c, fun p hp => new_objV (c := .lst (xs ++ ys)) S hp ⟨_, rfl, q1.append q2⟩ P⟩)
      · rw [if_neg c] at P; exact P.elim
    · exact P.elim
/-! ### is None -/
def isNon : D → Bool
  | .non => true
  | _ => false
def fIsN : FB := fun d1 d2 ah => match d2 with
  | .non => some (.bl (isNon d1), ah)
  | _ => none
def fNotN : FB := fun d1 d2 ah => match d2 with
  | .non => some (.bl (!isNon d1), ah)
  | _ => none
theorem rep_non {r : List Addr} {F : Hp} {d : D} {v : V} (R : Rep K mg r F d v) : decide (v = V.non) = isNon d := by
  cases d <;> unfold Rep at R <;> first
    | (subst R; rfl)
    | (obtain ⟨rfl, _⟩ := R; rfl)
    | (obtain ⟨_, rfl, _⟩ := R; rfl)
    | (obtain ⟨_, _, rfl, _⟩ := R; rfl)
    | (obtain ⟨_, _, _, _, rfl, _⟩ := R; rfl)
theorem d_isN : OpD K mg (fun x y H Q => y = .non ∧ Q (.bl (decide (x = .non))) H) fIsN := fun T r F H ah d1 d2 v1 v2 Q S R1 R2 P => by
  unfold fIsN at P
  split at P
  · unfold Rep at R2
    refine ⟨R2, ?_⟩
    rw [rep_non R1]
    exact P.ret rfl S repBl
  · exact P.elim
theorem d_notN : OpD K mg (fun x y H Q => y = .non ∧ Q (.bl (!decide (x = .non))) H) fNotN := fun T r F H ah d1 d2 v1 v2 Q S R1 R2 P => by
  unfold fNotN at P
  split at P
  · unfold Rep at R2
    refine ⟨R2, ?_⟩
    rw [rep_non R1]
    exact P.ret rfl S repBl
  · exact P.elim
/-! ### in -/
def inOut (neg b : Bool) : Bool := if neg then !b else b
def isFlat : D → Bool
  | .non => true
  | .bl _ => true
  | .int _ => true
  | .str _ => true
  | _ => false
def eqF : D → D → Bool
  | .non, .non => true
  | .bl a, .bl b => a == b
  | .bl a, .int b => (if a then 1 else 0) == b
  | .int a, .bl b => a == (if b then 1 else 0)
  | .int a, .int b => a == b
  | .str a, .str b => a == b
  | _, _ => false
def fIn (neg : Bool) : FB := fun d1 d2 ah => match view ah d2 with
  | .lst ds => (match toPy (view ah d1), toPys ds with
    | some p, some ps => if p.depth ≤ 64 ∧ (PyData.list ps).depth ≤ 64 then some (.bl (inOut neg (ps.any fun z => PyData.eqv z p)), ah) else none
    | _, _ => none)
  | .tup ds => if isFlat d1 = true ∧ ds.all isFlat = true then some (.bl (inOut neg (ds.any fun z => eqF z d1)), ah) else none
  | .str y => (match d1 with
    | .str x => some (.bl (inOut neg (match x.cps.toList with
      | [c] => decide (c ∈ y.cps.toList)
      | _ => !(Builtin.Str.occurrences y x 0 y.length 1).isEmpty)), ah)
    | _ => none)
  | _ => none
abbrev rInS (neg : Bool) : R2 := fun x y H Q => ∃ i j, x = .str i ∧ y = .str j ∧ Q (.bl (inOut neg (!(Builtin.Str.occurrences j i 0 j.length 1).isEmpty))) H
abbrev rInC (neg : Bool) : R2 := fun x y H Q => ∃ (c : Nat) (z : Str), x = .str ⟨#[c]⟩ ∧ y = .str z ∧ Q (.bl (inOut neg (decide (c ∈ z.cps.toList)))) H
abbrev rInL (K : PySem.W.Frag) (neg : Bool) : R2 := fun x y H Q => ∃ d ds, Dp K H x d ∧ Dp K H y (.list ds) ∧ SeqAt.shaped d = true ∧ SeqAt.shaped (.list ds) = true ∧ Q (.bl (inOut neg (ds.any fun z => PyData.eqv z d))) H
abbrev rInAll (K : PySem.W.Frag) (neg : Bool) : R2 := fun x y H Q => ((rInL K neg x y H Q ∨ rIn K neg x y H Q) ∨ rInC neg x y H Q) ∨ rInS neg x y H Q
theorem flat_rep {r : List Addr} {F : Hp} : ∀ {d : D} {v : V}, Rep K mg r F d v → isFlat d = true → flatV v = true
  | .non, _, R, _ => by unfold Rep at R; subst R; rfl
  | .bl _, _, R, _ => by unfold Rep at R; subst R; rfl
  | .int _, _, R, _ => by unfold Rep at R; subst R; rfl
  | .str _, _, R, _ => by unfold Rep at R; obtain ⟨rfl, _⟩ := R; rfl
theorem flats_rep {r : List Addr} {F : Hp} : ∀ {ds : List D} {vs : List V}, Reps K mg r F ds vs → ds.all isFlat = true → vs.all flatV = true
  | [], _, R, _ => by unfold Reps at R; subst R; rfl
  | d :: ds, _, R, h => by
    unfold Reps at R
    obtain ⟨v, ws, rfl, R1, R2⟩ := R
    have h' : isFlat d = true ∧ ds.all isFlat = true := by simpa using h
    simp [flat_rep R1 h'.1, flats_rep R2 h'.2]
theorem eqF_rep {r : List Addr} {F : Hp} {d e : D} {v u : V} (R : Rep K mg r F d v) (R' : Rep K mg r F e u) (h : isFlat d = true) (h' : isFlat e = true) : eqV v u = eqF d e := by
  cases d <;> first
    | (cases h; done)
    | (cases e <;> first
        | (cases h'; done)
        | (unfold Rep at R R'
           first
            | (subst R; subst R'; rfl)
            | (obtain ⟨rfl, _⟩ := R; subst R'; rfl)
            | (subst R; obtain ⟨rfl, _⟩ := R'; rfl)
            | (obtain ⟨rfl, _⟩ := R; obtain ⟨rfl, _⟩ := R'; rfl)))
theorem anyF_rep {r : List Addr} {F : Hp} {e : D} {u : V} (R' : Rep K mg r F e u) (h' : isFlat e = true) : ∀ {ds : List D} {vs : List V}, Reps K mg r F ds vs → ds.all isFlat = true → inV u vs = ds.any fun z => eqF z e
  | [], _, R, _ => by unfold Reps at R; subst R; rfl
  | d :: ds, _, R, h => by
    unfold Reps at R
    obtain ⟨v, ws, rfl, R1, R2⟩ := R
    have hh : isFlat d = true ∧ ds.all isFlat = true := by simpa using h
    have ih := anyF_rep R' h' R2 hh.2
    unfold inV at ih ⊢
    simp only [List.any_cons, eqF_rep R1 R' hh.1 h', ih]
theorem d_in (neg : Bool) : OpD K mg (rInAll K neg) (fIn neg) := fun T r F H ah d1 d2 v1 v2 Q S R1 R2 P => by
  unfold fIn at P
  split at P
  · rename_i ds e2
    split at P
    · rename_i p ps e1 es
      by_cases c : p.depth ≤ 64 ∧ (PyData.list ps).depth ≤ 64
      · rw [if_pos c] at P
        obtain ⟨z1, z2⟩ := dp_view S R1 e1
        have e3 : toPy (view ah d2) = some (.list ps) := by rw [e2]; unfold toPy; rw [es]; rfl
        obtain ⟨z3, z4⟩ := dp_view S R2 e3
        exact .inl (.inl (.inl ⟨p, ps, z1, z3, shaped_of z2 c.1, shaped_of z4 c.2, P.ret rfl S repBl⟩))
      · rw [if_neg c] at P; exact P.elim
    · exact P.elim
  · rename_i ds e2
    obtain ⟨a, vs, rfl, h, q⟩ := view_tup S R2 e2
    by_cases c : isFlat d1 = true ∧ ds.all isFlat = true
    · rw [if_pos c] at P
      refine .inl (.inl (.inr ⟨a, vs, rfl, .inr h, flat_rep R1 c.1, flats_rep q c.2, ?_⟩))
      have e := anyF_rep R1 c.1 q c.2
      rw [e]
      exact P.ret rfl S repBl
    · rw [if_neg c] at P; exact P.elim
  · rename_i y e2
    obtain ⟨rfl, hy⟩ := view_str S R2 e2
    split at P
    · rename_i x
      unfold Rep at R1
      obtain ⟨rfl, hx⟩ := R1
      by_cases hc : ∃ c, x.cps.toList = [c]
      · obtain ⟨c, hc⟩ := hc
        have ex : x = ⟨#[c]⟩ := by
          obtain ⟨a⟩ := x
          obtain ⟨l⟩ := a
          have : l = [c] := hc
          subst this; rfl
        rw [hc] at P
        exact .inl (.inr ⟨c, y, by rw [ex], rfl, P.ret rfl S repBl⟩)
      · have e : (match x.cps.toList with
          | [c] => decide (c ∈ y.cps.toList)
          | _ => !(Builtin.Str.occurrences y x 0 y.length 1).isEmpty) = !(Builtin.Str.occurrences y x 0 y.length 1).isEmpty := by
          split
          · rename_i c h; exact absurd ⟨c, h⟩ hc
          · rfl
        rw [e] at P
        exact .inr ⟨x, y, rfl, rfl, P.ret rfl S repBl⟩
    · exact P.elim
  · exact P.elim
end
section
variable {X : Cx}
theorem o_in (hu : X.A.units + 65 < cLine) : OpR X (compareOp .In) (rInAll X.K false) := (((op_inD hu).or op_in_seq).or op_in_sign).or op_in_str
theorem o_notIn (hu : X.A.units + 65 < cLine) : OpR X (compareOp .NotIn) (rInAll X.K true) := (((op_notInD hu).or op_notIn_seq).or op_notIn_sign).or op_notIn_str
end
end LD

set_option Elab.async false
set_option linter.all false
set_option maxRecDepth 100000
set_option maxHeartbeats 2000000
namespace LD
open PySem PySem.Spec PyProof.Rows L2
section
variable {X : Cx} {W : WX} {pos : Pos} {a b c : Expr} {ma mb mc : ME} {rr rr' : R2} {f f' : FB}
/-! ### a op b op' c -/
theorem chain_in {T F H : Hp} {r : List Addr} {s : L2.St} {sd : SD} {ah : AH} {Q : VK} (hf : OpD X.K X.mg rr f) (hf' : OpD X.K X.mg rr' f') (S : Sim X.K X.mg T r F H ah) (L : Slots X.K X.mg r F sd s) (P : PoE X.K X.mg T W r F H s (mChain f f' ma mb mc sd ah) Q) :
    tChain rr rr' (wpE X.K X.mg W ma) (wpE X.K X.mg W mb) (wpE X.K X.mg W mc) s H Q := by
  unfold mChain at P
  refine mkE S L P fun d1 ah1 r1 F1 H1 x e1 S1 L1 R1 P1 => mkE S1 L1 P1 fun d2 ah2 r2 F2 H2 y e2 S2 L2' R2 P2 => ?_
  refine hf _ _ _ _ _ _ _ _ _ _ S2 (e2.rep R1) R2 ?_
  cases ef : f d1 d2 ah2 with
  | none => rw [ef] at P2; exact P2.elim
  | some q =>
    obtain ⟨d, a3⟩ := q
    rw [ef] at P2
    unfold lift RE.test at P2
    cases d with
    | bl k =>
      cases k with
      | true =>
        dsimp only at P2
        intro r3 F3 H3 v e3 S3 R3
        unfold Rep at R3
        refine ⟨true, R3, ?_⟩
        rw [if_pos rfl]
        exact mkE S3 (e3.slots L2') (PoE.ext e3 P2) fun d3 ah4 r4 F4 H4 z e4 S4 L4 R4 P4 => hf' _ _ _ _ _ _ _ _ _ _ S4 ((e3.trans e4).rep R2) R4 P4.of_lift
      | false =>
        dsimp only at P2
        intro r3 F3 H3 v e3 S3 R3
        unfold Rep at R3
        refine ⟨false, R3, ?_⟩
        rw [if_neg Bool.false_ne_true]
        exact P2 r3 F3 H3 _ e3 S3 repBl
    | _ => exact P2.elim
theorem je_chain {op op' : CmpOp} (ho : OpR X (compareOp op) rr) (hf : OpD X.K X.mg rr f) (ho' : OpR X (compareOp op') rr') (hf' : OpD X.K X.mg rr' f') (ha : JE X W ma a) (hb : JE X W mb b) (hc : JE X W mc c)
    (hm : lastMarks [op, op'] [b, c] = false := by with_unfolding_all rfl) : JE X W (mChain f f' ma mb mc) (.Compare a [op, op'] [b, c] pos) :=
  impE (pe_chain ho ho' ha hb hc hm) fun s H Q ⟨T, r, F, sd, ah, S, L, P⟩ => chain_in hf hf' S L P
theorem jt_chain {op op' : CmpOp} (ho : OpR X (compareOp op) rr) (hf : OpD X.K X.mg rr f) (ho' : OpR X (compareOp op') rr') (hf' : OpD X.K X.mg rr' f') (ha : JE X W ma a) (hb : JE X W mb b) (hc : JE X W mc c)
    (hm : lastMarks [op, op'] [b, c] = false := by with_unfolding_all rfl) : JT X W (mChain f f' ma mb mc) (.Compare a [op, op'] [b, c] pos) :=
  impT (pt_chain ho ho' ha hb hc hm) fun s H Q ⟨T, r, F, sd, ah, S, L, P⟩ => chain_in hf hf' S L P.bl
/-! ### builtins by their values -/
abbrev FL := List D → AH → Option (D × AH)
def mBi (f : FL) (ma : ME) : ME := fun sd ah => (ma sd ah).args fun ds a => lift (f ds a)
variable {rl : List V → Hp → VK → Prop} {fl : FL} {e : Expr} {es : List Expr} {x : Str} {p : Pos}
theorem je_bi {id : String} (hc : CallR X (.builtin id) rl) (hf : CallD X.K X.mg rl fl) (hm : X.mg x = none) (hv : bootBuiltins x = some (.builtin id)) (ha : JA X W ma (e :: es)) (hg : Gl X x := by rfl) (hn : x ≠ "__name__" := by decide) (hdb : (x == ("__debug__" : Str)) = false := by decide)
    (he : starEach (e :: es) X.env = (false, eval e X.env) :: starEach es X.env := by rfl) (hpl : (backTo pos (starEach es X.env)).any (·.1) = false := by rfl) : JE X W (mBi fl ma) (.Call (.Name x p) (e :: es) [] pos) :=
  impE (pe_callB hc hg hm hv ha hn hdb he hpl) fun s H Q ⟨T, r, F, sd, ah, S, L, P⟩ => mkA S L P fun ds ah1 r1 F1 H1 vs e1 S1 L1 R1 P1 => hf _ _ _ _ _ _ _ _ S1 R1 P1.of_lift
theorem je_ty {id : String} (hc : CallR X (.type id) rl) (hf : CallD X.K X.mg rl fl) (hm : X.mg x = none) (hv : bootBuiltins x = some (.type id)) (ha : JA X W ma (e :: es)) (hg : Gl X x := by rfl) (hn : x ≠ "__name__" := by decide) (hdb : (x == ("__debug__" : Str)) = false := by decide)
    (he : starEach (e :: es) X.env = (false, eval e X.env) :: starEach es X.env := by rfl) (hpl : (backTo pos (starEach es X.env)).any (·.1) = false := by rfl) : JE X W (mBi fl ma) (.Call (.Name x p) (e :: es) [] pos) :=
  impE (pe_callTy hc hg hm hv ha hn hdb he hpl) fun s H Q ⟨T, r, F, sd, ah, S, L, P⟩ => mkA S L P fun ds ah1 r1 F1 H1 vs e1 S1 L1 R1 P1 => hf _ _ _ _ _ _ _ _ S1 R1 P1.of_lift
end
section
variable {K : PySem.W.Frag} {mg : Str → Option Value}
def fLen : FL := fun ds ah => match ds with
  | [d] => (match view ah d with
    | .str x => if x.length ≤ sizeLine then some (.int x.length, ah) else none
    | .lst xs => some (.int xs.length, ah)
    | .tup xs => some (.int xs.length, ah)
    | .dic ks _ => some (.int ks.length, ah)
    | .scr ns => some (.int ns.length, ah)
    | _ => none)
  | _ => none
abbrev rLenA (K : PySem.W.Frag) : List V → Hp → VK → Prop := fun xs H Q => (∃ x n, xs = [x] ∧ LenV K x H n ∧ Q (.int n) H) ∨ ∃ d kvs, xs = [.ref d] ∧ Rd H d (.dK kvs) ∧ Q (.int kvs.length) H
theorem call_lenR {X : Cx} : CallR X (.builtin "len") (fun xs H Q => ∃ d kvs, xs = [.ref d] ∧ Rd H d (.dK kvs) ∧ Q (.int kvs.length) H) := by
  intro pins s σ H xs us Q I r h
  obtain ⟨d, kvs, rfl, hd, q⟩ := h
  obtain ⟨u, rfl, ru⟩ := vals1 r
  cases ru
  exact d_len I hd fun t s' I' => ⟨.int kvs.length, H, I', ⟨_, rfl⟩, q⟩
theorem c_len {X : Cx} : CallR X (.builtin "len") (rLenA X.K) := call_len.or call_lenR
theorem d_len' : CallD K mg (rLenA K) fLen := fun T r F H ah ds vs Q S R P => by
  unfold fLen at P
  split at P
  · rename_i d
    obtain ⟨v, rfl, R1⟩ := reps1 R
    split at P
    · rename_i x e
      obtain ⟨rfl, _⟩ := view_str S R1 e
      by_cases c : x.length ≤ sizeLine
      · rw [if_pos c] at P
        exact .inl ⟨_, x.length, rfl, ⟨c, rfl⟩, P.ret rfl S repI⟩
      · rw [if_neg c] at P; exact P.elim
    · rename_i xs e
      obtain ⟨a, ws, rfl, h, q⟩ := view_lst S R1 e
      exact .inl ⟨_, ws.length, rfl, .inl ⟨ws, .inl h, rfl⟩, P.ret rfl S (by rw [q.length]; exact repI)⟩
    · rename_i xs e
      obtain ⟨a, ws, rfl, h, q⟩ := view_tup S R1 e
      exact .inl ⟨_, ws.length, rfl, .inr ⟨ws, h, rfl⟩, P.ret rfl S (by rw [q.length]; exact repI)⟩
    · rename_i ks es e
      obtain ⟨a, kvs, rfl, h, k, q⟩ := view_dic S R1 e
      have hl : ks.length = kvs.length := by simpa using congrArg List.length k
      exact .inr ⟨a, kvs, rfl, h, P.ret rfl S (by rw [hl]; exact repI)⟩
    · rename_i ns e
      obtain ⟨a, rfl, h⟩ := view_scr S R1 e
      exact .inl ⟨_, (ns.map V.int).length, rfl, .inl ⟨_, h, rfl⟩, P.ret rfl S (by rw [List.length_map]; exact repI)⟩
    · exact P.elim
  · exact P.elim
def fMax2 : FL := fun ds ah => match ds with
  | [.int i, .int j] => some (.int (if j > i then j else i), ah)
  | _ => none
def fMin2 : FL := fun ds ah => match ds with
  | [.int i, .int j] => some (.int (if j < i then j else i), ah)
  | _ => none
theorem d_max2 : CallD K mg (fun xs H Q => ∃ i j, xs = [.int i, .int j] ∧ Q (.int (if j > i then j else i)) H) fMax2 := fun T r F H ah ds vs Q S R P => by
  unfold fMax2 at P
  split at P
  · rename_i i j
    obtain ⟨v, u, rfl, R1, R2⟩ := reps2 R
    unfold Rep at R1 R2
    subst R1; subst R2
    exact ⟨i, j, rfl, P.ret rfl S repI⟩
  · exact P.elim
theorem d_min2 : CallD K mg (fun xs H Q => ∃ i j, xs = [.int i, .int j] ∧ Q (.int (if j < i then j else i)) H) fMin2 := fun T r F H ah ds vs Q S R P => by
  unfold fMin2 at P
  split at P
  · rename_i i j
    obtain ⟨v, u, rfl, R1, R2⟩ := reps2 R
    unfold Rep at R1 R2
    subst R1; subst R2
    exact ⟨i, j, rfl, P.ret rfl S repI⟩
  · exact P.elim
/-- int(..) of a number, a truth, a text of digits -/
def fInt : FL := fun ds ah => match ds with
  | [.int i] => some (.int i, ah)
  | [.bl k] => some (.int (if k then 1 else 0), ah)
  | [.str x] => (match PySem.intText? x with
    | some n => if x.length ≤ 640 then some (.int n, ah) else none
    | none => none)
  | _ => none
abbrev rIntA : List V → Hp → VK → Prop := fun xs H Q => ((∃ i, xs = [.int i] ∧ Q (.int i) H) ∨ ∃ k, xs = [.bl k] ∧ Q (.int (if k then 1 else 0)) H) ∨ ∃ a n, xs = [.str a] ∧ PySem.intText? a = some n ∧ a.length ≤ 640 ∧ Q (.int n) H
theorem c_int {X : Cx} : CallR X (.type "int") rIntA := call_int1.or call_int_str
theorem d_int : CallD K mg rIntA fInt := fun T r F H ah ds vs Q S R P => by
  unfold fInt at P
  split at P
  · obtain ⟨v, rfl, R1⟩ := reps1 R
    unfold Rep at R1; subst R1
    exact .inl (.inl ⟨_, rfl, P.ret rfl S repI⟩)
  · obtain ⟨v, rfl, R1⟩ := reps1 R
    unfold Rep at R1; subst R1
    exact .inl (.inr ⟨_, rfl, P.ret rfl S repI⟩)
  · rename_i x
    obtain ⟨v, rfl, R1⟩ := reps1 R
    unfold Rep at R1
    obtain ⟨rfl, _⟩ := R1
    split at P
    · rename_i n en
      by_cases c : x.length ≤ 640
      · rw [if_pos c] at P
        exact .inr ⟨x, n, rfl, en, c, P.ret rfl S repI⟩
      · rw [if_neg c] at P; exact P.elim
    · exact P.elim
  · exact P.elim
/-- str(..) of a number, a text -/
def fStr : FL := fun ds ah => match ds with
  | [.int i] => if i.natAbs.log2 < 1920 ∧ PySem.PyData.strOk (toString i : Str) = true then some (.str (toString i), ah) else none
  | [.str x] => some (.str x, ah)
  | _ => none
abbrev rStrA : List V → Hp → VK → Prop := fun xs H Q => (∃ i, xs = [.int i] ∧ i.natAbs.log2 < 1920 ∧ Q (.str (toString i)) H) ∨ ∃ a, xs = [.str a] ∧ Q (.str a) H
theorem c_str {X : Cx} : CallR X (.type "str") rStrA := call_str_int.or SkE.call_str_str
theorem d_str : CallD K mg rStrA fStr := fun T r F H ah ds vs Q S R P => by
  unfold fStr at P
  split at P
  · rename_i i
    obtain ⟨v, rfl, R1⟩ := reps1 R
    unfold Rep at R1; subst R1
    by_cases c : i.natAbs.log2 < 1920 ∧ PySem.PyData.strOk (toString i : Str) = true
    · rw [if_pos c] at P
      exact .inl ⟨i, rfl, c.1, P.ret rfl S (by unfold Rep; exact ⟨rfl, c.2⟩)⟩
    · rw [if_neg c] at P; exact P.elim
  · rename_i x
    obtain ⟨v, rfl, R1⟩ := reps1 R
    have R1' := R1
    unfold Rep at R1
    obtain ⟨rfl, _⟩ := R1
    exact .inr ⟨x, rfl, P.ret rfl S R1'⟩
  · exact P.elim
/-! ### isinstance against built-in types -/
def tyN : D → Option String
  | .non => some "NoneType"
  | .bl _ => some "bool"
  | .int _ => some "int"
  | .str _ => some "str"
  | .lst _ => some "list"
  | .tup _ => some "tuple"
  | .dic _ _ => some "dict"
  | _ => none
def subTy (a b : String) : Bool := a == b || (a == "bool" && b == "int")
def tyK : List String := ["NoneType", "bool", "int", "str", "list", "tuple", "dict"]
def tyC : List String := ["bool", "int", "str", "list", "tuple", "dict"]
theorem kit_tab : ∀ a ∈ tyK, ∀ b ∈ tyC, kitB a b = some (subTy a b) := by decide +kernel
theorem ty_of {T F H : Hp} {r : List Addr} {ah : AH} {d : D} {v : V} {n : String} (S : Sim K mg T r F H ah) (R : Rep K mg r F d v) (e : tyN (view ah d) = some n) : TyX K H v (.type n) ∧ n ∈ tyK := by
  have lst : ∀ {xs}, view ah d = .lst xs → TyX K H v (.type n) ∧ n ∈ tyK := fun {xs} ev => by
    obtain ⟨a, ws, rfl, h, q⟩ := view_lst S R ev
    rw [ev] at e; cases e
    refine ⟨?_, by decide⟩
    rcases h with h | ⟨o, h⟩
    · exact .base (.lst h)
    · exact .base (.frz h)
  have tup : ∀ {xs}, view ah d = .tup xs → TyX K H v (.type n) ∧ n ∈ tyK := fun {xs} ev => by
    obtain ⟨a, ws, rfl, h, q⟩ := view_tup S R ev
    rw [ev] at e; cases e
    refine ⟨?_, by decide⟩
    rcases h with (h | ⟨o, h⟩) | ⟨o, its, k, h1, h2, _⟩
    · exact .base (.tup h)
    · exact .fTuple h
    · exact .kTuple h1 h2
  have dic : ∀ {ks es}, view ah d = .dic ks es → TyX K H v (.type n) ∧ n ∈ tyK := fun {ks es} ev => by
    obtain ⟨a, ws, rfl, h, _, q⟩ := view_dic S R ev
    rw [ev] at e; cases e
    refine ⟨?_, by decide⟩
    rcases h with h | ⟨o, h⟩
    · exact .base (.dK h)
    · exact .fDict h
  have str : ∀ {x}, view ah d = .str x → TyX K H v (.type n) ∧ n ∈ tyK := fun {x} ev => by
    obtain ⟨rfl, _⟩ := view_str S R ev
    rw [ev] at e; cases e
    exact ⟨.base (.str x), by decide⟩
  cases ev : view ah d with
  | lst xs => exact lst ev
  | tup xs => exact tup ev
  | dic ks es => exact dic ev
  | str x => exact str ev
  | ins _ _ _ => rw [ev] at e; cases e
  | cell _ => rw [ev] at e; cases e
  | scr _ => rw [ev] at e; cases e
  | _ =>
    cases d with
    | cell m =>
      exfalso
      change (match ah[m]? with
        | some (some c) => c
        | _ => D.cell m) = _ at ev
      split at ev
      · rename_i c hc
        subst ev
        unfold Rep at R
        obtain ⟨a, rfl, h⟩ := R
        obtain ⟨_, o, h1, h2⟩ := S.live m _ a hc h
        exact h2
      · cases ev
    | _ =>
      first
        | (cases ev; done)
        | (cases ev
           unfold Rep at R
           subst R
           cases e
           first
            | exact ⟨.base .non, by decide⟩
            | exact ⟨.base (.bl _), by decide⟩
            | exact ⟨.base (.int _), by decide⟩)
def fIs (cs : List String) (d : D) (ah : AH) : Option (D × AH) := match tyN (view ah d) with
  | some n => some (.bl (cs.any fun c => subTy n c), ah)
  | none => none
end
section
variable {X : Cx} {W : WX} {pos : Pos} {a : Expr} {ma : ME}
def mIs (cs : List String) (ma : ME) : ME := fun sd ah => (ma sd ah).bind fun d a1 => lift (fIs cs d a1)
theorem pe_tyN {c : Str} {n : String} {p : Pos} (hg : Gl X c) (hm : X.mg c = none) (hv : bootBuiltins c = some (.type n)) (hn : c ≠ "__name__" := by decide) (hd : (c == ("__debug__" : Str)) = false := by decide) : PE X (.Name c p) (tC (.ty n)) := pe_bltn hg hm hv rfl hn hd
theorem je_is1 {c : Str} {n : String} {p p2 : Pos} (hI : X.mg "isinstance" = none) (hm : X.mg c = none) (hv : bootBuiltins c = some (.type n)) (hc : n ∈ tyC := by decide) (ha : JE X W ma a) (hg : Gl X "isinstance" := by rfl) (hg2 : Gl X c := by rfl) (hn : c ≠ "__name__" := by decide) (hd : (c == ("__debug__" : Str)) = false := by decide)
    (hs : starEach (a :: [.Name c p2]) X.env = (false, eval a X.env) :: starEach [.Name c p2] X.env := by rfl) (hs2 : starEach (.Name c p2 :: []) X.env = (false, eval (.Name c p2) X.env) :: starEach [] X.env := by rfl) (hpl : (backTo pos (starEach [.Name c p2] X.env)).any (·.1) = false := by rfl) :
    JE X W (mIs [n] ma) (.Call (.Name "isinstance" p) [a, .Name c p2] [] pos) := by
  have h2 : PE X (.Name c p2) (tC (.ty n)) := pe_tyN hg2 hm hv hn hd
  exact impE (pe_callB call_isi hg hI boot_isinstance (pa_cons ha (pa_cons h2 pa_nil hs2) hs) (by decide) (by decide) hs hpl) fun s H Q ⟨T, r, F, sd, ah, S, L, P⟩ => by
    refine mkE S L P fun d1 ah1 r1 F1 H1 x e1 S1 L1 R1 P1 => ?_
    have P2 := P1.of_lift
    unfold fIs at P2
    split at P2
    · rename_i t et
      obtain ⟨ty, ht⟩ := ty_of S1 R1 et
      refine ⟨x, .ty n, .type t, .type n, subTy t n, rfl, .ty n, ty, kit_ty (kit_tab t ht n hc), ?_⟩
      have e : ([n].any fun c => subTy t c) = subTy t n := by simp
      rw [e] at P2
      exact P2.ret rfl S1 repBl
    · exact P2.elim
theorem je_is2 {c1 c2 : Str} {n1 n2 : String} {p p1 p2 p3 : Pos} {k : Nat} (hI : X.mg "isinstance" = none) (hm1 : X.mg c1 = none) (hv1 : bootBuiltins c1 = some (.type n1)) (hm2 : X.mg c2 = none) (hv2 : bootBuiltins c2 = some (.type n2)) (hc1 : n1 ∈ tyC := by decide) (hc2 : n2 ∈ tyC := by decide) (ha : JE X W ma a)
    (hg : Gl X "isinstance" := by rfl) (hg1 : Gl X c1 := by rfl) (hg2 : Gl X c2 := by rfl) (hn1 : c1 ≠ "__name__" := by decide) (hd1 : (c1 == ("__debug__" : Str)) = false := by decide) (hn2 : c2 ≠ "__name__" := by decide) (hd2 : (c2 == ("__debug__" : Str)) = false := by decide)
    (hs : starEach (a :: [.Tuple [.Name c1 p1, .Name c2 p2] k p3]) X.env = (false, eval a X.env) :: starEach [.Tuple [.Name c1 p1, .Name c2 p2] k p3] X.env := by rfl)
    (hs2 : starEach (.Tuple [.Name c1 p1, .Name c2 p2] k p3 :: []) X.env = (false, eval (.Tuple [.Name c1 p1, .Name c2 p2] k p3) X.env) :: starEach [] X.env := by rfl)
    (hs3 : starEach [.Name c1 p1, .Name c2 p2] X.env = (false, eval (.Name c1 p1) X.env) :: starEach [.Name c2 p2] X.env := by rfl) (hs4 : starEach [.Name c2 p2] X.env = (false, eval (.Name c2 p2) X.env) :: starEach [] X.env := by rfl)
    (hpl : (backTo pos (starEach [.Tuple [.Name c1 p1, .Name c2 p2] k p3] X.env)).any (·.1) = false := by rfl) :
    JE X W (mIs [n1, n2] ma) (.Call (.Name "isinstance" p) [a, .Tuple [.Name c1 p1, .Name c2 p2] k p3] [] pos) := by
  have h1 : PE X (.Name c1 p1) (tC (.ty n1)) := pe_tyN hg1 hm1 hv1 hn1 hd1
  have h2 : PE X (.Name c2 p2) (tC (.ty n2)) := pe_tyN hg2 hm2 hv2 hn2 hd2
  exact impE (pe_callB call_isiT hg hI boot_isinstance (pa_cons ha (pa_cons (pe_tup (pa_cons h1 (pa_cons h2 pa_nil hs4) hs3)) pa_nil hs2) hs) (by decide) (by decide) hs hpl) fun s H Q ⟨T, r, F, sd, ah, S, L, P⟩ => by
    refine mkE S L P fun d1 ah1 r1 F1 H1 x e1 S1 L1 R1 P1 => ?_
    refine ⟨by show 2 ≤ sizeLine; decide, fun tp htp => ?_⟩
    have P2 := P1.of_lift
    unfold fIs at P2
    split at P2
    · rename_i t et
      obtain ⟨S2, x2, e2⟩ := S1.freshF (o := .tup [.ty n1, .ty n2]) htp
      obtain ⟨ty, ht⟩ := ty_of S2 (x2.rep R1) et
      have e : ([n1, n2].any fun c => subTy t c) = (subTy t n1 || subTy t n2) := by simp
      rw [e] at P2
      refine ⟨x, tp, [.ty n1, .ty n2], .type t, [.type n1, .type n2], (subTy t n1 || subTy t n2), rfl, upd_same, .cons (.ty n1) (.cons (.ty n2) .nil), ty, ?_, P2 _ _ _ _ x2 S2 repBl⟩
      refine kitAny_cons (kit_ty (kit_tab t ht n1 hc1)) (fun z => ?_) (fun z => by rw [z]; rfl)
      rw [z, Bool.false_or]
      refine kitAny_cons (kit_ty (kit_tab t ht n2 hc2)) (fun z2 => ?_) (fun z2 => z2)
      rw [z2]; exact kitAny_nil
    · exact P2.elim
/-! ### a[i] -/
def fIx : FB := fun d1 d2 ah => match d2 with
  | .int i => (match view ah d1 with
    | .lst xs => (atI xs i).map fun d => (d, ah)
    | .tup xs => (atI xs i).map fun d => (d, ah)
    | .scr ns => (atI (ns.map D.int) i).map fun d => (d, ah)
    | .str z => if z.length ≤ sizeLine then (atI z.cps.toList i).map fun c => (.str ⟨#[c]⟩, ah) else none
    | _ => none)
  | _ => none
theorem at_reps {K : PySem.W.Frag} {mg : Str → Option Value} {r : List Addr} {F : Hp} {ds : List D} {vs : List V} {i : Int} {d : D} (R : Reps K mg r F ds vs) (h : atI ds i = some d) : ∃ v, atI vs i = some v ∧ Rep K mg r F d v := by
  unfold atI at h ⊢
  rw [← R.length]
  cases e : ixN ds.length i with
  | none => rw [e] at h; cases h
  | some j =>
    rw [e] at h
    exact R.get h
theorem at_sign {z : Str} {i : Int} {c : Nat} (hz : PySem.PyData.strOk z = true) (h : atI z.cps.toList i = some c) : PySem.PyData.strOk ⟨#[c]⟩ = true := by
  unfold atI at h
  cases e : ixN z.cps.toList.length i with
  | none => rw [e] at h; cases h
  | some j =>
    rw [e] at h
    have h' : z.cps.toList[j]? = some c := h
    rw [Array.getElem?_toList] at h'
    exact sign_ok hz h'
theorem d_ix {K : PySem.W.Frag} {mg : Str → Option Value} : OpD K mg (rIx K) fIx := fun T r F H ah d1 d2 v1 v2 Q S R1 R2 P => by
  unfold fIx at P
  split at P
  · rename_i i
    unfold Rep at R2
    subst R2
    split at P
    · rename_i xs e
      obtain ⟨a, vs, rfl, h, q⟩ := view_lst S R1 e
      cases ea : atI xs i with
      | none => rw [ea] at P; exact P.elim
      | some d =>
        rw [ea] at P
        obtain ⟨v, h1, h2⟩ := at_reps q ea
        exact .inl ⟨a, vs, i, v, rfl, rfl, .inl h, h1, P.ret rfl S h2⟩
    · rename_i xs e
      obtain ⟨a, vs, rfl, h, q⟩ := view_tup S R1 e
      cases ea : atI xs i with
      | none => rw [ea] at P; exact P.elim
      | some d =>
        rw [ea] at P
        obtain ⟨v, h1, h2⟩ := at_reps q ea
        exact .inr (.inl ⟨a, vs, i, v, rfl, rfl, h, h1, P.ret rfl S h2⟩)
    · rename_i ns e
      obtain ⟨a, rfl, h⟩ := view_scr S R1 e
      cases ea : atI (ns.map D.int) i with
      | none => rw [ea] at P; exact P.elim
      | some d =>
        rw [ea] at P
        obtain ⟨v, h1, h2⟩ := at_reps (reps_ints ns) ea
        exact .inl ⟨a, _, i, v, rfl, rfl, h, h1, P.ret rfl S h2⟩
    · rename_i z e
      obtain ⟨rfl, hz⟩ := view_str S R1 e
      by_cases c : z.length ≤ sizeLine
      · rw [if_pos c] at P
        cases ea : atI z.cps.toList i with
        | none => rw [ea] at P; exact P.elim
        | some k =>
          rw [ea] at P
          exact .inr (.inr ⟨z, i, k, rfl, rfl, c, ea, P.ret rfl S (by unfold Rep; exact ⟨rfl, at_sign hz ea⟩)⟩)
      · rw [if_neg c] at P; exact P.elim
    · exact P.elim
  · exact P.elim
theorem je_ix {b : Expr} {mb : ME} (ha : JE X W ma a) (hb : JE X W mb b) (hs : PlainIx b := by exact fun _ _ => rfl) : JE X W (mOp fIx ma mb) (.Subscript a b pos) :=
  impE (pe_ix ix_seq ha hb hs) fun s H Q ⟨T, r, F, sd, ah, S, L, P⟩ => mkE S L P fun d1 ah1 r1 F1 H1 x e1 S1 L1 R1 P1 => mkE S1 L1 P1 fun d2 ah2 r2 F2 H2 y e2 S2 L2 R2 P2 => d_ix _ _ _ _ _ _ _ _ _ _ S2 (e2.rep R1) R2 P2.of_lift
/-! ### a[i:j] -/
def cutD {α : Type} (xs : List α) (lo hi : Option Int) : List α := (xs.drop (HT.sIx xs.length 0 lo)).take (HT.sIx xs.length xs.length hi - HT.sIx xs.length 0 lo)
def fSl (fz : Bool) (d : D) (lo hi : Option Int) (ah : AH) : Option (D × AH) := match view ah d with
  | .lst xs => mkO fz (.lst (cutD xs lo hi)) ah
  | .tup xs => some (.tup (cutD xs lo hi), ah)
  | .scr ns => mkO fz (.lst (cutD (ns.map D.int) lo hi)) ah
  | .str z => if z.length ≤ sizeLine then some (.str ⟨(cutD z.cps.toList lo hi).toArray⟩, ah) else none
  | _ => none
abbrev rSlAll (K : PySem.W.Frag) : V → Option Int → Option Int → Hp → VK → Prop := fun x lo hi H Q => (rSlL K x lo hi H Q ∨ rSlA K x lo hi H Q) ∨ rSlS x lo hi H Q
theorem sl_all : SlR X (rSlAll X.K) := (sl_list.or sl_tupA).or sl_str
theorem cut_reps {K : PySem.W.Frag} {mg : Str → Option Value} {r : List Addr} {F : Hp} {ds : List D} {vs : List V} (R : Reps K mg r F ds vs) (lo hi : Option Int) : Reps K mg r F (cutD ds lo hi) (cutV vs lo hi) := by
  unfold cutD cutV
  rw [R.length]
  exact (R.drop _).take _
theorem strOk_sub {z : Str} (hz : PySem.PyData.strOk z = true) {l : List Nat} (h : ∀ c ∈ l, c ∈ z.cps.toList) : PySem.PyData.strOk ⟨l.toArray⟩ = true := by
  unfold PySem.PyData.strOk at hz ⊢
  rw [Array.all_eq_true'] at hz ⊢
  intro c hc
  exact hz c (by simpa using h c (by simpa using hc))
theorem cut_sub {α : Type} {xs : List α} {lo hi : Option Int} {c : α} (h : c ∈ cutD xs lo hi) : c ∈ xs := List.mem_of_mem_drop (List.mem_of_mem_take h)
theorem cutS_D (z : Str) (lo hi : Option Int) : cutS z lo hi = ⟨(cutD z.cps.toList lo hi).toArray⟩ := by
  unfold cutS cutD
  have e : z.cps.toList.length = z.length := by simp [Str.length]
  rw [e]
theorem d_sl {K : PySem.W.Frag} {mg : Str → Option Value} (fz : Bool) {T F H : Hp} {r : List Addr} {ah : AH} {d : D} {v : V} {lo hi : Option Int} {Q : VK} (S : Sim K mg T r F H ah) (R : Rep K mg r F d v) (P : PoV K mg T r F H (fSl fz d lo hi ah) Q) : rSlAll K v lo hi H Q := by
  unfold fSl at P
  split at P
  · rename_i xs e
    obtain ⟨a, vs, rfl, h, q⟩ := view_lst S R e
    exact .inl (.inl ⟨a, vs, rfl, .inl h, fun p hp => new_objV (c := .lst (cutD xs lo hi)) S hp ⟨_, rfl, cut_reps q lo hi⟩ P⟩)
  · rename_i xs e
    obtain ⟨a, vs, rfl, h, q⟩ := view_tup S R e
    have qc := cut_reps q lo hi
    refine .inl (.inr ⟨a, vs, rfl, h, fun hw => ?_, fun _ p hp => new_tupV S hp qc P⟩)
    have e1 : cutD xs lo hi = xs := by
      unfold cutD
      rw [q.length, hw.1, hw.2]
      simp
      rw [← q.length]; simp
    rw [e1] at P
    cases d with
    | tup ys => cases e; exact P.ret rfl S R
    | cell n =>
      exfalso
      change (match ah[n]? with
        | some (some c) => c
        | _ => D.cell n) = _ at e
      split at e
      · rename_i c hc
        subst e
        unfold Rep at R
        obtain ⟨a, _, h⟩ := R
        obtain ⟨_, o, h1, h2⟩ := S.live n _ a hc h
        exact h2
      · cases e
    | _ => cases e
  · rename_i ns e
    obtain ⟨a, rfl, h⟩ := view_scr S R e
    exact .inl (.inl ⟨a, _, rfl, h, fun p hp => new_objV (c := .lst (cutD (ns.map D.int) lo hi)) S hp ⟨_, rfl, cut_reps (reps_ints ns) lo hi⟩ P⟩)
  · rename_i z e
    obtain ⟨rfl, hz⟩ := view_str S R e
    by_cases c : z.length ≤ sizeLine
    · rw [if_pos c] at P
      refine .inr ⟨z, rfl, c, ?_⟩
      rw [cutS_D]
      exact P.ret rfl S (by unfold Rep; exact ⟨rfl, strOk_sub hz fun _ h => cut_sub h⟩)
    · rw [if_neg c] at P; exact P.elim
  · exact P.elim
/-- a part of a slice -/
def mPart (o : Option ME) (sd : SD) (ah : AH) (k : Option Int → AH → RE) : RE := match o with
  | none => k none ah
  | some m => (m sd ah).bind fun d a => match d with
    | .int i => k (some i) a
    | _ => .bad
def wpO (K : PySem.W.Frag) (mg : Str → Option Value) (W : WX) (o : Option ME) : TO := fun s H Q => match o with
  | none => Q none H
  | some m => wpE K mg W m s H fun x H1 => ∃ i, x = .int i ∧ Q (some i) H1
def JO (X : Cx) (W : WX) (o : Option ME) (e : Option Expr) : Prop := PO X e (wpO X.K X.mg W o)
theorem jo_none : JO X W none none := po_none
theorem jo_some {m : ME} {e : Expr} (h : JE X W m e) : JO X W (some m) (some e) := po_some h
theorem mkO' {K : PySem.W.Frag} {mg : Str → Option Value} {T F H : Hp} {r : List Addr} {s : L2.St} {sd : SD} {ah : AH} {Q : VK} {Q' : Option Int → Hp → Prop} {o : Option ME} {k : Option Int → AH → RE} (S : Sim K mg T r F H ah) (L : Slots K mg r F sd s) (P : PoE K mg T W r F H s (mPart o sd ah k) Q)
    (h : ∀ i ah1 r1 F1 H1, Ext r r1 F F1 H H1 → Sim K mg T r1 F1 H1 ah1 → Slots K mg r1 F1 sd s → PoE K mg T W r1 F1 H1 s (k i ah1) Q → Q' i H1) : wpO K mg W o s H Q' := by
  cases o with
  | none => exact h none ah r F H .refl S L P
  | some m =>
    refine mkE S L P fun d ah1 r1 F1 H1 x e1 S1 L1 R1 P1 => ?_
    cases d with
    | int i =>
      unfold Rep at R1
      exact ⟨i, R1, h (some i) ah1 r1 F1 H1 e1 S1 L1 P1⟩
    | _ => exact P1.elim
def mSl (fz : Bool) (ma : ME) (lo hi : Option ME) : ME := fun sd ah => (ma sd ah).bind fun d a1 => mPart lo sd a1 fun i a2 => mPart hi sd a2 fun j a3 => lift (fSl fz d i j a3)
theorem je_sl (fz : Bool) {lo hi : Option Expr} {ml mh : Option ME} {p2 : Pos} (ha : JE X W ma a) (hl : JO X W ml lo) (hh : JO X W mh hi) : JE X W (mSl fz ma ml mh) (.Subscript a (.Slice lo hi none p2) pos) :=
  impE (pe_slice sl_all ha hl hh) fun s H Q ⟨T, r, F, sd, ah, S, L, P⟩ => mkE S L P fun d1 ah1 r1 F1 H1 x e1 S1 L1 R1 P1 => mkO' S1 L1 P1 fun i ah2 r2 F2 H2 e2 S2 L2 P2 => mkO' S2 L2 P2 fun j ah3 r3 F3 H3 e3 S3 L3 P3 => d_sl fz S3 ((e2.trans e3).rep R1) P3.of_lift
/-! ### xs[i] = e, a live list -/
def mSetL (me mo mi : ME) : MS := fun sd ah => (me sd ah).toS sd fun d a1 => (mo sd a1).toS sd fun o a2 => (mi sd a2).toS sd fun i a3 => match o, i with
  | .cell n, .int k => (match a3[n]? with
    | some (some (.lst xs)) => (match ixN xs.length k with
      | some j => .nx sd (a3.set n (some (.lst (xs.set j d))))
      | none => .bad)
    | _ => .bad)
  | _, _ => .bad
theorem js_setL {o i e : Expr} {me mo mi : ME} {p : Pos} (he : JE X W me e) (ho : JE X W mo o) (hi : JE X W mi i) (ha : ∀ v, assign (.Subscript o i p) X.env v = (do
      let ov ← holding [v] (eval o X.env)
      let iv ← holding [v, ov] (eval i X.env)
      standAt p
      holding [v, ov, iv] (setItem ov iv v)
      release [v, ov, iv] []) := by intro _; rfl)
    (hs : swapsWithSole [.Subscript o i p] e pos.line X.env = pure false := by rfl) (hw : swappedStores [.Subscript o i p] e X.env = pure none := by rfl)
    (h1 : (assignEach [.Subscript o i p] X.env).map (·.2) = [assign (.Subscript o i p) X.env] := by rfl) : JS X W (mSetL me mo mi) (.Assign [.Subscript o i p] e pos) :=
  impS (ps_asg he (pg_sub ho hi set_list ha) hs hw h1) fun D s H ⟨T, r, F, sd, ah, S, L, P⟩ => mkES S L P fun d ah1 r1 F1 H1 v e1 S1 L1 R1 P1 => mkES S1 L1 P1 fun o ah2 r2 F2 H2 ov e2 S2 L2 R2 P2 => mkES S2 L2 P2 fun i ah3 r3 F3 H3 iv e3 S3 L3 R3 P3 => by
    split at P3
    · rename_i n k
      split at P3
      · rename_i xs hc
        split at P3
        · rename_i j hj
          have R2' := e3.rep R2
          unfold Rep at R2' R3
          obtain ⟨a, rfl, ha⟩ := R2'
          subst R3
          obtain ⟨_, ob, hH, vs, rfl, q⟩ := S3.live n _ a hc ha
          have ro : RepO X.K X.mg r3 F3 (.lst (xs.set j d)) (.lst (vs.set j v)) := ⟨_, rfl, q.set j ((e2.trans e3).rep R1)⟩
          obtain ⟨S4, x4⟩ := S3.write hc ha ro
          exact ⟨a, vs, k, j, rfl, rfl, hH, by rw [← q.length]; exact hj, P3 r3 F3 _ s x4 S4 (x4.slots L3)⟩
        · exact P3.elim
      · exact P3.elim
    · exact P3.elim
/-! ### methods of built-in types -/
def tyV2 (K : PySem.W.Frag) (Ty : String) (x : V) (H : Hp) : Prop := match x with
  | .str _ => Ty = "str"
  | .ref p => (Ty = "list" ∧ ∃ xs, Rd H p (.lst xs)) ∨ (Ty = "dict" ∧ ∃ kvs, Rd H p (.dK kvs))
  | _ => False
theorem tyV2_is {pins : List (Addr × Obj)} {σ : L2.St} {H : Hp} {s : Shared} {Ty : String} {x : V} {v : Value} (I : L2.Inv X pins σ H s) (r : RelV x v) (ty : tyV2 X.K Ty x H) :
    s.TypeIs v Ty ∧ ∀ a, v = .ref a → ∃ ob, s.heap.get? a = some ob ∧ ob.dict = none := by
  cases x with
  | str z =>
    obtain ⟨t, rfl⟩ := r
    cases (show Ty = "str" from ty)
    exact ⟨typeIs_str s z t, fun _ e => nomatch e⟩
  | ref p =>
    cases r
    rcases ty with ⟨rfl, xs, hq⟩ | ⟨rfl, kvs, hk⟩
    · obtain ⟨its, _, pl, _⟩ := I.list (.inl hq)
      refine ⟨pl.isList.typeIs, fun a e => ?_⟩
      cases e
      obtain ⟨o, n, e, c, hd, _⟩ := pl
      exact ⟨o, e, hd⟩
    · obtain ⟨_, _, _, _, o, _, _, e, ex, _⟩ := hk.ok I.hok
      refine ⟨⟨o, e, ex.1⟩, fun a e2 => ?_⟩
      cases e2
      exact ⟨o, e, ex.2.1⟩
  | _ => exact False.elim ty
def tBMx (K : PySem.W.Frag) (Ty : String) (r : V → List V → Hp → VK → Prop) (to : TE) (t : TA) : TE := fun σ H Q => to σ H fun x H1 => tyV2 K Ty x H1 ∧ t σ H1 fun xs H2 => r x xs H2 Q
variable {o e : Expr} {es : List Expr} {name : Str} {apos cpos : Pos} {Ty id : String} {rm : V → List V → Hp → VK → Prop} {mo : ME}
theorem pe_bmx {to : TE} {t : TA} (pa : PlainAttrs Ty) (slot : Slot Ty name id) (hty : typeOf (.builtin id) = pure (.type "method_descriptor")) (hm : MtR X id rm) (ho : PE X o to) (ha : PA X (e :: es) t)
    (hbase : attributeBase o name X.env (eval o X.env) = eval o X.env)
    (hfew : ((backTo cpos (starEach (e :: es) X.env)).all (fun x => !x.1) && (backToKw cpos (keywordEach [] X.env)).all (fun x => x.1.isSome)
      && decide ((e :: es).length + ([] : List Keyword).length + (if ([] : List Keyword).isEmpty then 0 else 1) < 30)) = true)
    (hline : (apos.endLine == cpos.line) = true) (hs : starEach (e :: es) X.env = (false, eval e X.env) :: starEach es X.env) (hplain : (backTo cpos (starEach es X.env)).any (·.1) = false) :
    PE X (.Call (.Attribute o name apos) (e :: es) [] cpos) (tBMx X.K Ty rm to t) := by
  refine ⟨fun pins s σ H Q I h => ?_⟩
  refine wpAny_Call_method_late hbase hfew hline rfl (thn (ho.run pins s σ H _ I h) fun v s1 ⟨x, H1, I1, r1, ty, q1⟩ => ?_)
  obtain ⟨h1, h2⟩ := tyV2_is I1 r1 ty
  refine ⟨Ty, id, pa, slot, hty, h1, h2, ?_⟩
  have hA := ha.run cpos pins s1 σ H1 _ I1 q1
  rw [hs] at hA ⊢
  refine Calls.callWith_builtin (by show (false || (backTo cpos (starEach es X.env)).any (·.1)) = false; rw [hplain] <;> rfl) (Calls.evalArgs_plain ?_)
  exact thn hA fun us s2 ⟨vs, H2, I2, r2, q2⟩ => hm pins s2 σ H2 x vs v us Q I2 r1 r2 q2
def tBMx0 (K : PySem.W.Frag) (Ty : String) (r : V → List V → Hp → VK → Prop) (to : TE) : TE := fun σ H Q => to σ H fun x H1 => tyV2 K Ty x H1 ∧ r x [] H1 Q
theorem pe_bmx0 {to : TE} (pa : PlainAttrs Ty) (slot : Slot Ty name id) (hty : typeOf (.builtin id) = pure (.type "method_descriptor")) (hm : MtR X id rm) (ho : PE X o to)
    (hbase : attributeBase o name X.env (eval o X.env) = eval o X.env) (hline : (apos.endLine == cpos.line) = true) : PE X (.Call (.Attribute o name apos) [] [] cpos) (tBMx0 X.K Ty rm to) := by
  refine ⟨fun pins s σ H Q I h => ?_⟩
  refine wpAny_Call_method0_late hbase hline (thn (ho.run pins s σ H _ I h) fun v s1 ⟨x, H1, I1, r1, ty, q1⟩ => ?_)
  obtain ⟨h1, h2⟩ := tyV2_is I1 r1 ty
  exact ⟨Ty, id, pa, slot, hty, h1, h2, Calls.callWith_builtin rfl (PySem.evalArgs_none (hm pins s1 σ H1 x [] v [] Q I1 r1 .nil q1))⟩
abbrev FM := D → List D → AH → Option (D × AH)
def MtD (K : PySem.W.Frag) (mg : Str → Option Value) (rm : V → List V → Hp → VK → Prop) (f : FM) : Prop := ∀ T r F H ah d ds v vs Q, Sim K mg T r F H ah → Rep K mg r F d v → Reps K mg r F ds vs → PoV K mg T r F H (f d ds ah) Q → rm v vs H Q
def isTy (Ty : String) (d : D) : Bool := match d with
  | .str _ => Ty == "str"
  | .lst _ => Ty == "list"
  | .dic _ _ => Ty == "dict"
  | _ => false
theorem isTy_is {K : PySem.W.Frag} {mg : Str → Option Value} {T F H : Hp} {r : List Addr} {ah : AH} {d : D} {v : V} {Ty : String} (S : Sim K mg T r F H ah) (R : Rep K mg r F d v) (h : isTy Ty (view ah d) = true) : tyV2 K Ty v H := by
  cases ev : view ah d with
  | str x =>
    rw [ev] at h
    obtain ⟨rfl, _⟩ := view_str S R ev
    show Ty = "str"
    simpa [isTy] using h
  | lst xs =>
    rw [ev] at h
    obtain ⟨a, vs, rfl, q, _⟩ := view_lst S R ev
    exact .inl ⟨by simpa [isTy] using h, vs, q⟩
  | dic ks ds =>
    rw [ev] at h
    obtain ⟨a, vs, rfl, q, _⟩ := view_dic S R ev
    exact .inr ⟨by simpa [isTy] using h, vs, q⟩
  | _ => rw [ev] at h; cases h
def mBm (Ty : String) (f : FM) (mo ma : ME) : ME := fun sd ah => (mo sd ah).bind fun d a1 => if isTy Ty (view a1 d) = true then (ma sd a1).args fun ds a2 => lift (f d ds a2) else .bad
def mBm0 (Ty : String) (f : FM) (mo : ME) : ME := fun sd ah => (mo sd ah).bind fun d a1 => if isTy Ty (view a1 d) = true then lift (f d [] a1) else .bad
theorem je_bm {f : FM} (pa : PlainAttrs Ty) (slot : Slot Ty name id) (hty : typeOf (.builtin id) = pure (.type "method_descriptor")) (hm : MtR X id rm) (hf : MtD X.K X.mg rm f) (ho : JE X W mo o) (ha : JA X W ma (e :: es))
    (hbase : attributeBase o name X.env (eval o X.env) = eval o X.env := by rfl)
    (hfew : ((backTo cpos (starEach (e :: es) X.env)).all (fun x => !x.1) && (backToKw cpos (keywordEach [] X.env)).all (fun x => x.1.isSome)
      && decide ((e :: es).length + ([] : List Keyword).length + (if ([] : List Keyword).isEmpty then 0 else 1) < 30)) = true := by rfl)
    (hline : (apos.endLine == cpos.line) = true := by rfl) (hs : starEach (e :: es) X.env = (false, eval e X.env) :: starEach es X.env := by rfl) (hplain : (backTo cpos (starEach es X.env)).any (·.1) = false := by rfl) :
    JE X W (mBm Ty f mo ma) (.Call (.Attribute o name apos) (e :: es) [] cpos) :=
  impE (pe_bmx pa slot hty hm ho ha hbase hfew hline hs hplain) fun s H Q ⟨T, r, F, sd, ah, S, L, P⟩ => mkE S L P fun d ah1 r1 F1 H1 x e1 S1 L1 R1 P1 => by
    by_cases c : isTy Ty (view ah1 d) = true
    · rw [if_pos c] at P1
      exact ⟨isTy_is S1 R1 c, mkA S1 L1 P1 fun ds ah2 r2 F2 H2 vs e2 S2 L2 R2 P2 => hf _ _ _ _ _ _ _ _ _ _ S2 (e2.rep R1) R2 P2.of_lift⟩
    · rw [if_neg c] at P1; exact P1.elim
theorem je_bm0 {f : FM} (pa : PlainAttrs Ty) (slot : Slot Ty name id) (hty : typeOf (.builtin id) = pure (.type "method_descriptor")) (hm : MtR X id rm) (hf : MtD X.K X.mg rm f) (ho : JE X W mo o)
    (hbase : attributeBase o name X.env (eval o X.env) = eval o X.env := by rfl) (hline : (apos.endLine == cpos.line) = true := by rfl) : JE X W (mBm0 Ty f mo) (.Call (.Attribute o name apos) [] [] cpos) :=
  impE (pe_bmx0 pa slot hty hm ho hbase hline) fun s H Q ⟨T, r, F, sd, ah, S, L, P⟩ => mkE S L P fun d ah1 r1 F1 H1 x e1 S1 L1 R1 P1 => by
    by_cases c : isTy Ty (view ah1 d) = true
    · rw [if_pos c] at P1
      exact ⟨isTy_is S1 R1 c, hf _ _ _ _ _ _ _ _ _ _ S1 R1 .nil P1.of_lift⟩
    · rw [if_neg c] at P1; exact P1.elim
end
section
variable {K : PySem.W.Frag} {mg : Str → Option Value}
def strsOf : List D → Option (List Str)
  | [] => some []
  | .str x :: ds => (strsOf ds).map (x :: ·)
  | _ :: _ => none
theorem strs_reps {r : List Addr} {F : Hp} : ∀ {ds : List D} {vs : List V} {ys : List Str}, Reps K mg r F ds vs → strsOf ds = some ys → vs = ys.map V.str ∧ ∀ y ∈ ys, PySem.PyData.strOk y = true
  | [], _, _, R, e => by unfold Reps at R; subst R; cases e; exact ⟨rfl, by simp⟩
  | .str x :: ds, _, _, R, e => by
    unfold Reps at R
    obtain ⟨v, ws, rfl, R1, R2⟩ := R
    unfold Rep at R1
    obtain ⟨rfl, hx⟩ := R1
    unfold strsOf at e
    cases e1 : strsOf ds with
    | none => rw [e1] at e; cases e
    | some ys =>
      rw [e1] at e; cases e
      obtain ⟨rfl, h⟩ := strs_reps R2 e1
      exact ⟨rfl, by simpa using ⟨hx, h⟩⟩
/-- sep.join(xs) -/
def fJoin : FM := fun d ds ah => match d, ds with
  | .str a, [l] => (match view ah l with
    | .lst xs => (match strsOf xs with
      | some ys => if (ys.map (·.length)).sum + ys.length * a.length ≤ 16777216 ∧ PySem.PyData.strOk (Txt.join a ys) = true then some (.str (Txt.join a ys), ah) else none
      | none => none)
    | .tup xs => (match strsOf xs with
      | some ys => if (ys.map (·.length)).sum + ys.length * a.length ≤ 16777216 ∧ PySem.PyData.strOk (Txt.join a ys) = true then some (.str (Txt.join a ys), ah) else none
      | none => none)
    | _ => none)
  | _, _ => none
theorem m_join : MtD K mg (fun x xs H Q => ∃ a p, ∃ ys : List Str, x = .str a ∧ xs = [.ref p] ∧ (SqL K H p (ys.map V.str) ∨ SqT K H p (ys.map V.str)) ∧
    (ys.map (·.length)).sum + ys.length * a.length ≤ 16777216 ∧ Q (.str (Txt.join a ys)) H) fJoin := fun T r F H ah d ds v vs Q S R1 R2 P => by
  unfold fJoin at P
  split at P
  · rename_i a l
    unfold Rep at R1
    obtain ⟨rfl, _⟩ := R1
    obtain ⟨u, rfl, R3⟩ := reps1 R2
    split at P
    · rename_i xs e
      obtain ⟨p, ws, rfl, h, q⟩ := view_lst S R3 e
      split at P
      · rename_i ys es
        obtain ⟨rfl, _⟩ := strs_reps q es
        by_cases c : (ys.map (·.length)).sum + ys.length * a.length ≤ 16777216 ∧ PySem.PyData.strOk (Txt.join a ys) = true
        · rw [if_pos c] at P
          exact ⟨a, p, ys, rfl, rfl, .inl (.inl h), c.1, P.ret rfl S (by unfold Rep; exact ⟨rfl, c.2⟩)⟩
        · rw [if_neg c] at P; exact P.elim
      · exact P.elim
    · rename_i xs e
      obtain ⟨p, ws, rfl, h, q⟩ := view_tup S R3 e
      split at P
      · rename_i ys es
        obtain ⟨rfl, _⟩ := strs_reps q es
        by_cases c : (ys.map (·.length)).sum + ys.length * a.length ≤ 16777216 ∧ PySem.PyData.strOk (Txt.join a ys) = true
        · rw [if_pos c] at P
          exact ⟨a, p, ys, rfl, rfl, .inr h, c.1, P.ret rfl S (by unfold Rep; exact ⟨rfl, c.2⟩)⟩
        · rw [if_neg c] at P; exact P.elim
      · exact P.elim
    · exact P.elim
  · exact P.elim
def fFind : FM := fun d ds ah => match d, ds with
  | .str a, [.str b] => some (.int (Txt.find a b), ah)
  | _, _ => none
theorem m_find : MtD K mg (fun x xs H Q => ∃ a b, x = .str a ∧ xs = [.str b] ∧ Q (.int (Txt.find a b)) H) fFind := fun T r F H ah d ds v vs Q S R1 R2 P => by
  unfold fFind at P
  split at P
  · rename_i a b
    unfold Rep at R1
    obtain ⟨rfl, _⟩ := R1
    obtain ⟨u, rfl, R3⟩ := reps1 R2
    unfold Rep at R3
    obtain ⟨rfl, _⟩ := R3
    exact ⟨a, b, rfl, rfl, P.ret rfl S repI⟩
  · exact P.elim
/-- xs.append(e), a live list -/
def fAppend : FM := fun d ds ah => match d, ds with
  | .cell n, [y] => (match ah[n]? with
    | some (some (.lst xs)) => if xs.length < sizeLine then some (.non, ah.set n (some (.lst (xs ++ [y])))) else none
    | _ => none)
  | _, _ => none
theorem repN {r : List Addr} {F : Hp} : Rep K mg r F .non .non := by unfold Rep; rfl
theorem m_append : MtD K mg rAppend fAppend := fun T r F H ah d ds v vs Q S R1 R2 P => by
  unfold fAppend at P
  split at P
  · rename_i n y
    unfold Rep at R1
    obtain ⟨a, rfl, ha⟩ := R1
    obtain ⟨u, rfl, R3⟩ := reps1 R2
    split at P
    · rename_i xs hc
      obtain ⟨_, ob, hH, ws, rfl, q⟩ := S.live n _ a hc ha
      by_cases c : xs.length < sizeLine
      · rw [if_pos c] at P
        obtain ⟨S4, x4⟩ := S.write (c' := .lst (xs ++ [y])) (o' := .lst (ws ++ [u])) hc ha ⟨_, rfl, q.append (.one R3)⟩
        exact ⟨a, ws, u, rfl, rfl, hH, by rw [← q.length]; exact c, P _ _ _ _ x4 S4 repN⟩
      · rw [if_neg c] at P; exact P.elim
    · exact P.elim
  · exact P.elim
end
end LD

set_option Elab.async false
set_option linter.all false
set_option maxRecDepth 100000
set_option maxHeartbeats 2000000
namespace LD
open PySem PySem.Spec PyProof.Rows L2
/-! ### dicts by their keys -/
def dFind : List D → List D → Key → Option D
  | k :: ks, d :: ds, q => if keyOf k = some q then some d else dFind ks ds q
  | _, _, _ => none
def dRepl : List D → List D → Key → D → List D
  | k :: ks, d :: ds, q, v => (if keyOf k = some q then v else d) :: dRepl ks ds q v
  | _, _, _, _ => []
def dPut (ks ds : List D) (kd : D) (q : Key) (v : D) : D := match dFind ks ds q with
  | some _ => .dic ks (dRepl ks ds q v)
  | none => .dic (ks ++ [kd]) (ds ++ [v])
def dDropK : List D → List D → Key → List D
  | k :: ks, _ :: ds, q => if keyOf k = some q then dDropK ks ds q else k :: dDropK ks ds q
  | _, _, _ => []
def dDropV : List D → List D → Key → List D
  | k :: ks, d :: ds, q => if keyOf k = some q then dDropV ks ds q else d :: dDropV ks ds q
  | _, _, _ => []
section
variable {K : PySem.W.Frag} {mg : Str → Option Value} {r : List Addr} {F : Hp}
theorem find_some : ∀ {ks ds : List D} {kvs : List (Key × V)} {q : Key} {d : D}, ks.map keyOf = kvs.map (fun q => some q.1) → Reps K mg r F ds (kvs.map (·.2)) → dFind ks ds q = some d → ∃ v, valV kvs q = some v ∧ Rep K mg r F d v
  | [], _, _, _, _, _, _, e => by cases e
  | k :: ks, [], _, _, _, _, _, e => by cases e
  | k :: ks, d :: ds, [], _, _, hk, _, _ => by simp at hk
  | k :: ks, d :: ds, p :: kvs, q, x, hk, R, e => by
    simp only [List.map_cons, List.cons.injEq] at hk
    rw [List.map_cons] at R
    unfold Reps at R
    obtain ⟨v, ws, e1, R1, R2⟩ := R
    obtain ⟨e2, e3⟩ := List.cons.inj e1
    subst e2; subst e3
    unfold dFind at e
    by_cases c : keyOf k = some q
    · rw [if_pos c] at e; cases e
      rw [hk.1] at c
      exact ⟨p.2, valV_pos (Option.some.inj c), R1⟩
    · rw [if_neg c] at e
      obtain ⟨v, h1, h2⟩ := find_some hk.2 R2 e
      rw [hk.1] at c
      exact ⟨v, by rw [valV_neg fun z => c (by rw [z])]; exact h1, h2⟩
theorem find_none : ∀ {ks ds : List D} {kvs : List (Key × V)} {q : Key}, ks.map keyOf = kvs.map (fun q => some q.1) → Reps K mg r F ds (kvs.map (·.2)) → dFind ks ds q = none → valV kvs q = none
  | [], ds, [], _, _, _, _ => rfl
  | [], ds, _ :: _, _, hk, _, _ => by simp at hk
  | k :: ks, ds, [], _, hk, _, _ => by simp at hk
  | k :: ks, [], p :: kvs, _, _, R, _ => by simp [Reps] at R
  | k :: ks, d :: ds, p :: kvs, q, hk, R, e => by
    simp only [List.map_cons, List.cons.injEq] at hk
    rw [List.map_cons] at R
    unfold Reps at R
    obtain ⟨v, ws, e1, R1, R2⟩ := R
    obtain ⟨e2, e3⟩ := List.cons.inj e1
    subst e2; subst e3
    unfold dFind at e
    by_cases c : keyOf k = some q
    · rw [if_pos c] at e; cases e
    · rw [if_neg c] at e
      have h1 := find_none hk.2 R2 e
      rw [hk.1] at c
      rw [valV_neg fun z => c (by rw [z])]; exact h1
theorem repl_reps : ∀ {ks ds : List D} {kvs : List (Key × V)} {q : Key} {x : D} {u : V}, ks.map keyOf = kvs.map (fun q => some q.1) → Reps K mg r F ds (kvs.map (·.2)) → Rep K mg r F x u →
    ks.map keyOf = (kvs.map fun kv => if kv.1 = q then (kv.1, u) else kv).map (fun q => some q.1) ∧ Reps K mg r F (dRepl ks ds q x) ((kvs.map fun kv => if kv.1 = q then (kv.1, u) else kv).map (·.2))
  | [], ds, [], _, _, _, _, R, _ => ⟨rfl, by unfold dRepl; exact .nil⟩
  | [], ds, _ :: _, _, _, _, hk, _, _ => by simp at hk
  | k :: ks, ds, [], _, _, _, hk, _, _ => by simp at hk
  | k :: ks, [], p :: kvs, _, _, _, _, R, _ => by simp [Reps] at R
  | k :: ks, d :: ds, p :: kvs, q, x, u, hk, R, Rx => by
    simp only [List.map_cons, List.cons.injEq] at hk
    rw [List.map_cons] at R
    unfold Reps at R
    obtain ⟨v, ws, e1, R1, R2⟩ := R
    obtain ⟨e2, e3⟩ := List.cons.inj e1
    subst e2; subst e3
    obtain ⟨h1, h2⟩ := repl_reps (q := q) hk.2 R2 Rx
    unfold dRepl
    by_cases c : p.1 = q
    · have c' : keyOf k = some q := by rw [hk.1, c]
      simp only [List.map_cons, if_pos c, if_pos c']
      exact ⟨by rw [← h1, hk.1], .cons Rx h2⟩
    · have c' : ¬ keyOf k = some q := by rw [hk.1]; exact fun z => c (Option.some.inj z)
      simp only [List.map_cons, if_neg c, if_neg c']
      exact ⟨by rw [← h1, hk.1], .cons R1 h2⟩
theorem put_rep {ks ds : List D} {kvs : List (Key × V)} {q : Key} {kd x : D} {u : V} (hk : ks.map keyOf = kvs.map (fun q => some q.1)) (R : Reps K mg r F ds (kvs.map (·.2))) (hq : keyOf kd = some q) (Rx : Rep K mg r F x u) : RepO K mg r F (dPut ks ds kd q x) (.dK (putK kvs q u)) := by
  unfold dPut
  split
  · rename_i d e
    obtain ⟨v, h1, _⟩ := find_some hk R e
    have ha : (kvs.any fun kv => decide (kv.1 = q)) = true := by rw [valV_any, h1]; rfl
    unfold putK
    rw [if_pos ha]
    obtain ⟨z1, z2⟩ := repl_reps (q := q) hk R Rx
    exact ⟨_, rfl, z1, z2⟩
  · rename_i e
    rw [putK_new u (find_none hk R e)]
    refine ⟨_, rfl, by simp [hk, hq], ?_⟩
    rw [List.map_append]
    exact R.append (.one Rx)
theorem drop_rep : ∀ {ks ds : List D} {kvs : List (Key × V)} {q : Key}, ks.map keyOf = kvs.map (fun q => some q.1) → Reps K mg r F ds (kvs.map (·.2)) → RepO K mg r F (.dic (dDropK ks ds q) (dDropV ks ds q)) (.dK (dropK kvs q))
  | [], ds, [], _, _, R => by unfold dDropK dDropV; exact ⟨[], rfl, rfl, .nil⟩
  | [], ds, _ :: _, _, hk, _ => by simp at hk
  | k :: ks, ds, [], _, hk, _ => by simp at hk
  | k :: ks, [], p :: kvs, _, _, R => by simp [Reps] at R
  | k :: ks, d :: ds, p :: kvs, q, hk, R => by
    simp only [List.map_cons, List.cons.injEq] at hk
    rw [List.map_cons] at R
    unfold Reps at R
    obtain ⟨v, ws, e1, R1, R2⟩ := R
    obtain ⟨e2, e3⟩ := List.cons.inj e1
    subst e2; subst e3
    obtain ⟨kvs', e4, h1, h2⟩ := drop_rep (q := q) hk.2 R2
    cases e4
    unfold dDropK dDropV
    by_cases c : p.1 = q
    · have c' : keyOf k = some q := by rw [hk.1, c]
      rw [if_pos c', if_pos c']
      refine ⟨_, rfl, ?_, ?_⟩ <;> (unfold dropK; rw [List.filter_cons_of_neg (by simpa using c)])
      · exact h1
      · exact h2
    · have c' : ¬ keyOf k = some q := by rw [hk.1]; exact fun z => c (Option.some.inj z)
      rw [if_neg c', if_neg c']
      refine ⟨_, rfl, ?_, ?_⟩ <;> (unfold dropK; rw [List.filter_cons_of_pos (by simpa using c)])
      · simp only [List.map_cons, hk.1]
        exact congrArg _ h1
      · exact .cons R1 h2
theorem key_rep {d : D} {v : V} {q : Key} (R : Rep K mg r F d v) (h : keyOf d = some q) : v = kV q := by
  cases d <;> first
    | (cases h; done)
    | (unfold Rep at R; cases h
       first
        | (subst R; rfl)
        | (obtain ⟨rfl, _⟩ := R; rfl))
end
section
variable {X : Cx} {W : WX} {pos : Pos} {a b e : Expr} {ma mb : ME}
/-! ### d[k], k in d -/
def fDGet : FB := fun d1 d2 ah => match view ah d1, keyOf d2 with
  | .dic ks ds, some q => (dFind ks ds q).map fun d => (d, ah)
  | _, _ => none
def fDIn (neg : Bool) : FB := fun d1 d2 ah => match view ah d2, keyOf d1 with
  | .dic ks ds, some q => some (.bl (inOut neg (dFind ks ds q).isSome), ah)
  | _, _ => none
theorem dget_of {K : PySem.W.Frag} {mg : Str → Option Value} {T F H : Hp} {r : List Addr} {ah : AH} {d1 d2 : D} {v1 v2 : V} {ks ds : List D} {q : Key} (S : Sim K mg T r F H ah) (R1 : Rep K mg r F d1 v1) (R2 : Rep K mg r F d2 v2) (e : view ah d1 = .dic ks ds) (eq : keyOf d2 = some q) :
    ∃ a kvs, v1 = .ref a ∧ Rd H a (.dK kvs) ∧ DGet H a v2 (valV kvs q) ∧ ks.map keyOf = kvs.map (fun q => some q.1) ∧ Reps K mg r F ds (kvs.map (·.2)) := by
  obtain ⟨a, kvs, rfl, h, k, R⟩ := view_dic S R1 e
  exact ⟨a, kvs, rfl, h, .inl ⟨kvs, q, h, key_rep R2 eq, rfl⟩, k, R⟩
theorem je_dget (hu : X.A.units + 1 < cLine) (ha : JE X W ma a) (hb : JE X W mb b) (hs : NoSl b := by exact fun _ _ => rfl) : JE X W (mOp fDGet ma mb) (.Subscript a b pos) :=
  impE (pe_dget hu ha hb hs) fun s H Q ⟨T, r, F, sd, ah, S, L, P⟩ => mkE S L P fun d1 ah1 r1 F1 H1 x e1 S1 L1 R1 P1 => mkE S1 L1 P1 fun d2 ah2 r2 F2 H2 y e2 S2 L2 R2 P2 => by
    have P3 := P2.of_lift
    unfold fDGet at P3
    split at P3
    · rename_i ks ds q ev eq
      obtain ⟨a, kvs, rfl, h, g, k, R⟩ := dget_of S2 (e2.rep R1) R2 ev eq
      cases ef : dFind ks ds q with
      | none => rw [ef] at P3; exact P3.elim
      | some d =>
        rw [ef] at P3
        obtain ⟨v, h1, h2⟩ := find_some k R ef
        rw [h1] at g
        exact ⟨a, v, rfl, g, P3.ret rfl S2 h2⟩
    · exact P3.elim
/-- a[i] where a may be a list, a tuple, a text, or a dict -/
def fIxD : FB := fun d1 d2 ah => match view ah d1 with
  | .dic _ _ => fDGet d1 d2 ah
  | _ => fIx d1 d2 ah
theorem din_sim {neg : Bool} {T F H : Hp} {r : List Addr} {s : L2.St} {sd : SD} {ah : AH} {Q : VK} (S : Sim X.K X.mg T r F H ah) (L : Slots X.K X.mg r F sd s) (P : PoE X.K X.mg T W r F H s (mOp (fDIn neg) ma mb sd ah) Q) :
    wpE X.K X.mg W ma s H fun y H1 => wpE X.K X.mg W mb s H1 fun x H2 => ∃ a o, x = .ref a ∧ DGet H2 a y o ∧ Q (.bl (inOut neg o.isSome)) H2 :=
  mkE S L P fun d1 ah1 r1 F1 H1 x e1 S1 L1 R1 P1 => mkE S1 L1 P1 fun d2 ah2 r2 F2 H2 y e2 S2 L2 R2 P2 => by
    have P3 := P2.of_lift
    unfold fDIn at P3
    split at P3
    · rename_i ks ds q ev eq
      obtain ⟨a, kvs, rfl, h, g, k, R⟩ := dget_of S2 R2 (e2.rep R1) ev eq
      refine ⟨a, _, rfl, g, ?_⟩
      have e3 : (valV kvs q).isSome = (dFind ks ds q).isSome := by
        cases ef : dFind ks ds q with
        | none => rw [find_none k R ef]; rfl
        | some d => obtain ⟨v, h1, _⟩ := find_some k R ef; rw [h1]; rfl
      rw [e3]
      exact P3.ret rfl S2 repBl
    · exact P3.elim
theorem je_din (hu : X.A.units + 1 < cLine) (ha : JE X W ma a) (hb : JE X W mb b) (h1 : behindInMarks .In b = false := by rfl) : JE X W (mOp (fDIn false) ma mb) (.Compare a [.In] [b] pos) :=
  impE (pe_cmp (pc_din hu ha hb) h1) fun s H Q ⟨T, r, F, sd, ah, S, L, P⟩ => din_sim S L P
theorem je_dnotin (hu : X.A.units + 1 < cLine) (ha : JE X W ma a) (hb : JE X W mb b) (h1 : behindInMarks .NotIn b = false := by rfl) : JE X W (mOp (fDIn true) ma mb) (.Compare a [.NotIn] [b] pos) :=
  impE (pe_cmp (pc_dnotin hu ha hb) h1) fun s H Q ⟨T, r, F, sd, ah, S, L, P⟩ => din_sim S L P
theorem jt_din (hu : X.A.units + 1 < cLine) (ha : JE X W ma a) (hb : JE X W mb b) (h1 : behindInMarks .In b = false := by rfl) : JT X W (mOp (fDIn false) ma mb) (.Compare a [.In] [b] pos) :=
  impT (pt_cmp (pc_din hu ha hb) h1) fun s H Q ⟨T, r, F, sd, ah, S, L, P⟩ => din_sim S L P.bl
theorem jt_dnotin (hu : X.A.units + 1 < cLine) (ha : JE X W ma a) (hb : JE X W mb b) (h1 : behindInMarks .NotIn b = false := by rfl) : JT X W (mOp (fDIn true) ma mb) (.Compare a [.NotIn] [b] pos) :=
  impT (pt_cmp (pc_dnotin hu ha hb) h1) fun s H Q ⟨T, r, F, sd, ah, S, L, P⟩ => din_sim S L P.bl
/-! ### d[k] = v, a live dict -/
def mSetD (me mo mi : ME) : MS := fun sd ah => (me sd ah).toS sd fun d a1 => (mo sd a1).toS sd fun o a2 => (mi sd a2).toS sd fun i a3 => match o, keyOf i with
  | .cell n, some q => (match a3[n]? with
    | some (some (.dic ks ds)) => if ks.length < sizeLine then .nx sd (a3.set n (some (dPut ks ds i q d))) else .bad
    | _ => .bad)
  | _, _ => .bad
theorem js_setD {o i : Expr} {me mo mi : ME} {p : Pos} (hu : X.A.units + 1 < cLine) (he : JE X W me e) (ho : JE X W mo o) (hi : JE X W mi i) (hs : swapsWith e (some (.Subscript o i p)) pos.line X.env = pure false := by rfl) : JS X W (mSetD me mo mi) (.Assign [.Subscript o i p] e pos) :=
  impS (ps_dput hu ho hi he hs) fun D s H ⟨T, r, F, sd, ah, S, L, P⟩ => mkES S L P fun d ah1 r1 F1 H1 v e1 S1 L1 R1 P1 => mkES S1 L1 P1 fun o ah2 r2 F2 H2 ov e2 S2 L2 R2 P2 => mkES S2 L2 P2 fun i ah3 r3 F3 H3 iv e3 S3 L3 R3 P3 => by
    split at P3
    · rename_i n q eq
      split at P3
      · rename_i ks ds hc
        have R2' := e3.rep R2
        unfold Rep at R2'
        obtain ⟨a, rfl, ha⟩ := R2'
        obtain ⟨_, ob, hH, kvs, rfl, k, R⟩ := S3.live n _ a hc ha
        have hl : ks.length = kvs.length := by simpa using congrArg List.length k
        by_cases c : ks.length < sizeLine
        · rw [if_pos c] at P3
          obtain ⟨S4, x4⟩ := S3.write hc ha (put_rep k R eq ((e2.trans e3).rep R1))
          exact ⟨a, _, rfl, .inl ⟨kvs, q, hH, key_rep R3 eq, by rw [← hl]; exact c, rfl⟩, P3 r3 F3 _ s x4 S4 (x4.slots L3)⟩
        · rw [if_neg c] at P3; exact P3.elim
      · exact P3.elim
    · exact P3.elim
/-! ### {k: v, ..} -/
def mPairs : List (ME × ME) → SD → AH → (List (D × D) → AH → RE) → RE
  | [], _, ah, k => k [] ah
  | (mk, mv) :: ms, sd, ah, k => (mk sd ah).bind fun x a1 => (mv sd a1).bind fun y a2 => mPairs ms sd a2 fun ps a3 => k ((x, y) :: ps) a3
def trsOf (K : PySem.W.Frag) (mg : Str → Option Value) (W : WX) (ms : List (ME × ME)) : List (TE × TE) := ms.map fun p => (wpE K mg W p.1, wpE K mg W p.2)
def RepP (K : PySem.W.Frag) (mg : Str → Option Value) (r : List Addr) (F : Hp) (ps : List (D × D)) (qs : List (V × V)) : Prop := Reps K mg r F (ps.map (·.1)) (qs.map (·.1)) ∧ Reps K mg r F (ps.map (·.2)) (qs.map (·.2))
theorem mkE2 {K : PySem.W.Frag} {mg : Str → Option Value} {T T0 F H : Hp} {r : List Addr} {s : L2.St} {sd : SD} {ah : AH} {Q Q' : VK} {m : ME} {k : D → AH → RE} (hT : ∀ a u, T0 a = some u → T a = some u) (S : Sim K mg T r F H ah) (L : Slots K mg r F sd s) (P : PoE K mg T0 W r F H s ((m sd ah).bind k) Q)
    (h : ∀ d ah1 r1 F1 H1 v, Ext r r1 F F1 H H1 → Sim K mg T r1 F1 H1 ah1 → Slots K mg r1 F1 sd s → Rep K mg r1 F1 d v → PoE K mg T0 W r1 F1 H1 s (k d ah1) Q → Q' v H1) : wpE K mg W m s H Q' := by
  refine ⟨T, r, F, sd, ah, S, L, ?_⟩
  cases e : m sd ah with
  | ok d a =>
    rw [e] at P
    exact fun r1 F1 H1 v x S1 R1 => h d a r1 F1 H1 v x S1 (x.slots L) R1 (PoE.ext x P)
  | exc x a => rw [e] at P; exact fun r' F' H' cls dx e S R => P r' F' H' cls dx e (S.sub_priv hT) R
  | bad => rw [e] at P; exact P
/-- an end over a smaller private part -/
theorem PoE.more {K : PySem.W.Frag} {mg : Str → Option Value} {T T0 F H : Hp} {r : List Addr} {s : L2.St} {m : RE} {Q : VK} (hT : ∀ a u, T0 a = some u → T a = some u) (P : PoE K mg T0 W r F H s m Q) : PoE K mg T W r F H s m Q := by
  cases m with
  | ok d a => exact fun r' F' H' v e S R => P r' F' H' v e (S.sub_priv hT) R
  | exc x a => exact fun r' F' H' cls dx e S R => P r' F' H' cls dx e (S.sub_priv hT) R
  | bad => exact P
theorem pairs_simT {K : PySem.W.Frag} {mg : Str → Option Value} {s : L2.St} {sd : SD} {Q : VK} {T T0 : Hp} (hT : ∀ a u, T0 a = some u → T a = some u) : ∀ {ms : List (ME × ME)} {F H : Hp} {r : List Addr} {ah : AH} {k : List (D × D) → AH → RE} {Q' : List (V × V) → Hp → Prop}, Sim K mg T r F H ah → Slots K mg r F sd s → PoE K mg T0 W r F H s (mPairs ms sd ah k) Q →
    (∀ ps ah1 r1 F1 H1 qs, Ext r r1 F F1 H H1 → Sim K mg T r1 F1 H1 ah1 → RepP K mg r1 F1 ps qs → PoE K mg T0 W r1 F1 H1 s (k ps ah1) Q → Q' qs H1) → tPairs (trsOf K mg W ms) s H Q'
  | [], F, H, r, ah, k, Q', S, L, P, h => h [] ah r F H [] .refl S ⟨.nil, .nil⟩ P
  | (mk, mv) :: ms, F, H, r, ah, k, Q', S, L, P, h =>
    mkE2 hT S L P fun d1 ah1 r1 F1 H1 x e1 S1 L1 R1 P1 => mkE2 hT S1 L1 P1 fun d2 ah2 r2 F2 H2 y e2 S2 L2 R2 P2 => pairs_simT hT S2 L2 P2 fun ps ah3 r3 F3 H3 qs e3 S3 R3 P3 =>
      h ((d1, d2) :: ps) ah3 r3 F3 H3 ((x, y) :: qs) ((e1.trans e2).trans e3) S3 ⟨.cons ((e2.trans e3).rep R1) R3.1, .cons (e3.rep R2) R3.2⟩ P3
def keysOk : List (D × D) → Bool
  | [] => true
  | p :: ps => (keyOf p.1).isSome && keysOk ps
def dPutD (d kd v : D) : D := match d, keyOf kd with
  | .dic ks ds, some q => dPut ks ds kd q v
  | d, _ => d
def dMerge (d : D) (ps : List (D × D)) : D := ps.foldl (fun d p => dPutD d p.1 p.2) d
theorem putD_rep {K : PySem.W.Frag} {mg : Str → Option Value} {r : List Addr} {F : Hp} {d kd x : D} {kvs : List (Key × V)} {q : Key} {u : V} (h : RepO K mg r F d (.dK kvs)) (hq : keyOf kd = some q) (Rx : Rep K mg r F x u) : RepO K mg r F (dPutD d kd x) (.dK (putK kvs q u)) := by
  cases d with
  | dic ks ds =>
    obtain ⟨kvs', e, hk, R⟩ := h
    cases e
    unfold dPutD
    rw [hq]
    exact put_rep hk R hq Rx
  | lst _ => obtain ⟨_, e, _⟩ := h; cases e
  | ins _ _ _ => obtain ⟨_, _, _, e, _⟩ := h; cases e
  | _ => exact h.elim
theorem kvs_of {K : PySem.W.Frag} {mg : Str → Option Value} {r : List Addr} {F : Hp} : ∀ {ps : List (D × D)} {qs : List (V × V)}, RepP K mg r F ps qs → keysOk ps = true → ∃ kvs : List (Key × V), qs = kvs.map (fun kv => (kV kv.1, kv.2)) ∧ (ps.map (·.1)).map keyOf = kvs.map (fun q => some q.1) ∧ Reps K mg r F (ps.map (·.2)) (kvs.map (·.2))
  | [], qs, R, _ => by
    have e : qs = [] := by have := R.1.length; simpa using this.symm
    subst e
    exact ⟨[], rfl, rfl, .nil⟩
  | p :: ps, [], R, _ => by have := R.1.length; simp at this
  | p :: ps, q :: qs, R, h => by
    obtain ⟨R1, R2⟩ := R
    simp only [List.map_cons] at R1 R2
    unfold Reps at R1 R2
    obtain ⟨v, ws, e1, a1, a2⟩ := R1
    obtain ⟨v', ws', e2, b1, b2⟩ := R2
    obtain ⟨rfl, rfl⟩ := List.cons.inj e1
    obtain ⟨rfl, rfl⟩ := List.cons.inj e2
    have h' : (keyOf p.1).isSome = true ∧ keysOk ps = true := by simpa [keysOk] using h
    obtain ⟨kvs, e3, k1, k2⟩ := kvs_of ⟨a2, b2⟩ h'.2
    obtain ⟨k, hk⟩ := Option.isSome_iff_exists.mp h'.1
    refine ⟨(k, q.2) :: kvs, ?_, by simp [hk, k1], .cons b1 k2⟩
    rw [List.map_cons, e3, ← key_rep a1 hk]
theorem merge_rep {K : PySem.W.Frag} {mg : Str → Option Value} {r : List Addr} {F : Hp} : ∀ {ps : List (D × D)} {more : List (Key × V)} {d : D} {kvs : List (Key × V)}, RepO K mg r F d (.dK kvs) →
    (ps.map (·.1)).map keyOf = more.map (fun q => some q.1) → Reps K mg r F (ps.map (·.2)) (more.map (·.2)) → RepO K mg r F (dMerge d ps) (.dK (mergeK kvs more))
  | [], [], d, kvs, R, _, _ => R
  | [], _ :: _, _, _, _, h, _ => by simp at h
  | _ :: _, [], _, _, _, h, _ => by simp at h
  | p :: ps, m :: more, d, kvs, R, h, R' => by
    simp only [List.map_cons, List.cons.injEq] at h
    simp only [List.map_cons] at R'
    unfold Reps at R'
    obtain ⟨v, ws, e1, b1, b2⟩ := R'
    obtain ⟨e2, e3⟩ := List.cons.inj e1
    subst e2; subst e3
    exact merge_rep (d := dPutD d p.1 p.2) (kvs := putK kvs m.1 m.2) (putD_rep R h.1 b1) h.2 b2
def mDict (fz : Bool) (ms : List (ME × ME)) : ME := fun sd ah => mPairs ms sd ah fun ps a => if keysOk ps = true ∧ ps.length ≤ 15 then mkA' fz (dMerge (.dic [] []) ps) a else .bad
def JPs (X : Cx) (W : WX) (pos : Pos) (ms : List (ME × ME)) (keys : List (Option Expr)) (values : List Expr) : Prop := PPs X pos keys values (trsOf X.K X.mg W ms)
theorem jps_nil : JPs X W pos [] [] [] := pps_nil
theorem jps_cons {k v : Expr} {mk mv : ME} {ks : List (Option Expr)} {vs : List Expr} {ms : List (ME × ME)} (hk : JE X W mk k) (hv : JE X W mv v) (hr : JPs X W pos ms ks vs) : JPs X W pos ((mk, mv) :: ms) (some k :: ks) (v :: vs) := pps_cons hk hv hr
theorem je_disp (fz : Bool) {keys : List (Option Expr)} {values : List Expr} {ms : List (ME × ME)} (h : JPs X W pos ms keys values) (hall : keys.all (·.isSome) = true := by rfl) (hl : keys.length = values.length := by rfl) (h0 : keys ≠ [] := by exact fun z => by cases z) (h15 : keys.length ≤ 15 := by decide) :
    JE X W (mDict fz ms) (.Dict keys values pos) :=
  impE (pe_disp h hall hl h0 h15) fun s H Q ⟨T, r, F, sd, ah, S, L, P⟩ => fun p hp => by
    have T0 : T p = none := by
      cases q : T p with
      | none => rfl
      | some u => have := S.prv p u q; rw [hp] at this; cases this
    have hT : ∀ a u, T a = some u → upd T p (.dK []) a = some u := fun a u e => by rw [upd_ne (ne_of_none e T0)]; exact e
    have hT2 : ∀ (o : HO) a u, T a = some u → upd T p o a = some u := fun o a u e => by rw [upd_ne (ne_of_none e T0)]; exact e
    refine pairs_simT (T := upd T p (.dK [])) (T0 := T) hT (S.privNew hp) L (PoE.ext (⟨⟨[], by simp⟩, fun _ _ h => h⟩ : Ext r r F F H (upd H p (.dK []))) P) fun ps ah1 r1 F1 H1 qs x1 S1 R1 P1 => ?_
    refine ⟨S1.prv _ _ upd_same, ?_⟩
    by_cases c : keysOk ps = true ∧ ps.length ≤ 15
    · rw [if_pos c] at P1
      obtain ⟨kvs, e1, k1, k2⟩ := kvs_of R1 c.1
      refine ⟨kvs, e1, by have := R1.1.length; rw [e1] at this; simp at this; omega, ?_⟩
      have S2 := S1.privSet (p := p) (o' := .dK (mergeK [] kvs)) upd_same (fun _ _ z => nomatch z)
      rw [upd_upd] at S2
      have ro : RepO X.K X.mg r1 F1 (dMerge (.dic [] []) ps) (.dK (mergeK [] kvs)) := merge_rep (d := .dic [] []) (kvs := []) ⟨[], rfl, rfl, .nil⟩ k1 k2
      cases fz with
      | true =>
        obtain ⟨F', S', x', R'⟩ := S2.privFrz upd_same (fun _ _ z => nomatch z) (hT2 _) T0 ro
        exact P1 _ _ _ _ ⟨x'.pre, x'.fro⟩ S' R'
      | false =>
        obtain ⟨S', x', e'⟩ := S2.privCell upd_same (fun _ _ z => nomatch z) (hT2 _) T0 ro
        exact P1 _ _ _ _ ⟨x'.pre, x'.fro⟩ S' (by unfold Rep; exact ⟨p, rfl, e'⟩)
    · rw [if_neg c] at P1; exact P1.elim
end
end LD

set_option Elab.async false
set_option linter.all false
set_option maxRecDepth 100000
set_option maxHeartbeats 2000000
namespace LD
open PySem PySem.Spec PyProof.Rows L2
/-! ### enumerate(text) -/
def ItEs (x : Str) : It := ⟨fun i _ => i < x.cps.size, fun i H v H' => ∃ T c, v = .ref T ∧ H T = none ∧ x.cps[i]? = some c ∧ H' = upd H T (.tup [.int (i : Nat), .str ⟨#[c]⟩]), fun i _ => x.cps.size ≤ i⟩
theorem turn_enumS {P : Program} {w : World} {K : PySem.W.Frag} {elts : List Expr} {kk : Nat} {tpos : Pos} (x : Str) (t : Tok) (e it : Addr) :
    Turn P w K (.Tuple elts kk tpos) (ItEs x) [e, it] e (fun i h => (∃ old, IsEnum h e it ((i : Nat) : Int) old) ∧ (h.IsStrIter it (strIterType x) x t i ∧ i ≤ x.cps.size) ∧ e ≠ it) where
  mem := by simp
  obj := fun i h st b hb => by
    obtain ⟨⟨old, he⟩, ⟨⟨o, ho, hc, hd⟩, _⟩, _⟩ := st
    have e' : b = e ∨ b = it := by simpa using hb
    rcases e' with z | z
    · rw [z]; exact ⟨_, he, fun v q => nomatch q⟩
    · rw [z]; exact ⟨o, ho, fun v q => by rw [hd] at q; cases q⟩
  keep := fun i h h' st k => by
    obtain ⟨⟨old, he⟩, ⟨⟨o, ho, r⟩, hl⟩, hne⟩ := st
    exact ⟨⟨old, k e (by simp) _ he⟩, ⟨⟨o, k it (by simp) o ho, r⟩, hl⟩, hne⟩
  item := by
    intro X hP hw hK hc i pins s σ H E I hf st hg
    subst hP hw hK
    obtain ⟨⟨old, he⟩, ⟨hit, _⟩, hne⟩ := st
    have hel : e < s.heap.objs.size := Heap.lt_size he
    have hil : it < s.heap.objs.size := by obtain ⟨_, q, _⟩ := hit; exact Heap.lt_size q
    have D := Draws.text (prog := X.prog) (w := X.w) (A := X.A.in1) (I.ok.hd hc) it x t
    refine wpAny_pyNext_enum_itemC D he hit hg hne (by simpa using hne) fun y h' tk hy ho hit' hT hsz hk => ?_
    obtain ⟨c, u, hcx, rfl⟩ := hy
    refine ⟨_, rfl, wpAny_letOwnedTupleGo_enum (s := { s with heap := h', toks := tk + 1 }) ho fun h'' he' sb => ?_⟩
    have hT2 : h''.get? s.heap.objs.size = some { cls := .type "tuple", data := .seq #[.int i tk, .str ⟨#[c]⟩ u] } := (sb.2 _ (Nat.ne_of_gt hel)).trans hT
    have new : ObjOk X.prog X.w (upd H s.heap.objs.size (.tup [.int (i : Nat), .str ⟨#[c]⟩])) h'' s.heap.objs.size (.tup [.int (i : Nat), .str ⟨#[c]⟩]) :=
      ⟨by show 2 ≤ sizeLine; decide, [.int i tk, .str ⟨#[c]⟩ u], .cons ⟨_, rfl⟩ (.cons ⟨_, rfl⟩ .nil), ⟨_, hT2, rfl, _, rfl⟩⟩
    have I1 : Inv X pins σ (upd H s.heap.objs.size (.tup [.int (i : Nat), .str ⟨#[c]⟩])) { s with heap := h'', toks := tk + 1 } :=
      I.turnedNew (ch := [e, it]) (fun b ob hb q => (sb.2 b (fun z => hb (by simp [z]))).trans (hk b ob (fun z => hb (by simp [z])) (fun z => hb (by simp [z])) q)) hf (Nat.le_refl _) new
    refine ⟨.ref s.heap.objs.size, _, I1, rfl, ⟨_, c, rfl, I.hok.fresh (Nat.le_refl _), hcx, rfl⟩, ⟨⟨.str ⟨#[c]⟩ u, ?_⟩, ⟨?_, hg⟩, hne⟩, fun b hb => ?_⟩
    · have e1 : ((i + 1 : Nat) : Int) = (i : Int) + 1 := by omega
      rw [e1]; exact he'
    · obtain ⟨o, q, r⟩ := hit'
      exact ⟨o, (sb.2 it (Ne.symm hne)).trans q, r⟩
    · have hb' : b < s.heap.objs.size := by
        have e' : b = e ∨ b = it := by simpa using hb
        rcases e' with z | z
        · rw [z]; exact hel
        · rw [z]; exact hil
      rw [upd_ne (Nat.ne_of_lt hb')]
      exact (hf b hb).1
  done := by
    intro X hP hw hK hc i pins s σ H E I hf st hg
    subst hP hw hK
    obtain ⟨⟨old, he⟩, ⟨hit, hle⟩, hne⟩ := st
    have D := Draws.text (prog := X.prog) (w := X.w) (A := X.A.in1) (I.ok.hd hc) it x t
    obtain ⟨f0, f1, f2, f3, f4, f5⟩ := hf it (by simp)
    have ei : i = x.cps.size := Nat.le_antisymm hle hg
    subst ei
    exact wpAny_pyNext_enum_endD D he hit fun h' eb => ⟨rfl, I.turned (t' := s.toks) (fun b o hb q => eb b o hb q) f0 f1 f3 f4 f5⟩
  self := fun A i s Q E st h => let ⟨⟨_, he⟩, _⟩ := st; wpAny_pyIter_enum he h
def iEnumS (ta : TA) : TI := fun σ H R => ta σ H fun vs H1 => ∃ x, vs = [.str x] ∧ R (ItEs x) H1
theorem pi_enumS {X : Cx} {e : Expr} {ta : TA} {p pos tpos : Pos} {elts : List Expr} {kk : Nat} (hg : Gl X "enumerate") (hm : X.mg "enumerate" = none) (ha : PA X [e] ta) (hs : starEach [e] X.env = [(false, eval e X.env)] := by rfl) :
    PI X (.Tuple elts kk tpos) (.Call (.Name "enumerate" p) [e] [] pos) (iEnumS ta) := by
  refine ⟨fun pins s σ H R I h => ?_⟩
  refine Call_ (ld_blt I hg hm boot_enumerate (PyProof.Rows.callWith_type1 (thn (ha.run pos pins s σ H _ I h) fun us s1 ⟨vs, H1, I1, r1, q1⟩ => ?_) hs rfl))
  obtain ⟨x, ex, q⟩ := q1
  subst ex
  cases r1 with
  | cons r rr =>
    cases rr
    obtain ⟨t, rfl⟩ := r
    refine call_enumerate_str fun h' he hit hsz hk => wpAny_pyIter_enum he ?_
    have I2 : Inv X pins σ H1 { s1 with heap := h' } := I1.kept (t' := s1.toks) hk
    refine ⟨s1.heap.objs.size + 1, [s1.heap.objs.size + 1, s1.heap.objs.size], _, _, H1, rfl, I2, turn_enumS x t (s1.heap.objs.size + 1) s1.heap.objs.size, ⟨⟨.none, he⟩, ⟨hit, Nat.zero_le _⟩, Nat.succ_ne_self _⟩, fun b hb => ?_, q⟩
    have e' : b = s1.heap.objs.size + 1 ∨ b = s1.heap.objs.size := by simpa using hb
    have hle : s1.heap.objs.size ≤ b := by
      rcases e' with z | z
      · rw [z]; exact Nat.le_add_right _ _
      · rw [z]; exact Nat.le_refl _
    exact I1.fpOk hle (I1.hok.fresh hle)
theorem itd_enumS {K : PySem.W.Frag} {mg : Str → Option Value} {r : List Addr} {F : Hp} (x : Str) (hx : PySem.PyData.strOk x = true) : ItD K mg r F (ItEs x) (enumOf (signsOf x)) := by
  intro i T2 r2 F2 H2 ah2 hr hf S2
  refine ⟨fun hi => by show x.cps.size ≤ i; simpa [enumOf, signsOf] using hi, fun d hd => ?_⟩
  have hlt : i < x.cps.size := by
    have := (List.getElem?_eq_some_iff.mp hd).1
    simpa [enumOf, signsOf] using this
  refine ⟨hlt, fun v H' ⟨T, c, ev, hT, hc, eH⟩ => ?_⟩
  subst ev; subst eH
  have ed : d = .tup [.int (i : Nat), .str ⟨#[c]⟩] := by
    simp [enumOf, signsOf, hlt] at hd
    rw [← hd]
    have : x.cps[i] = c := by rw [Array.getElem?_eq_getElem hlt] at hc; exact Option.some.inj hc
    rw [this]
  subst ed
  obtain ⟨S', x', e'⟩ := S2.freshF (o := .tup [.int (i : Nat), .str ⟨#[c]⟩]) hT
  refine ⟨_, x', S', ?_⟩
  unfold Rep
  exact ⟨T, _, rfl, .inl e', .cons (by unfold Rep; rfl) (.one (by unfold Rep; exact ⟨rfl, sign_ok hx hc⟩))⟩
def iEnumSD (ma : ME) : ME := fun sd ah => (ma sd ah).args fun ds a => match ds with
  | [.str x] => .ok (.lst (enumOf (signsOf x))) a
  | _ => .bad
section
variable {X : Cx} {W : WX} {pos : Pos} {tg e : Expr} {me : ME}
theorem ji_enumS {ma : ME} {p tpos : Pos} {elts : List Expr} {kk : Nat} (hg : Gl X "enumerate") (hm : X.mg "enumerate" = none) (ha : JA X W ma [e]) (hs : starEach [e] X.env = [(false, eval e X.env)] := by rfl) :
    JI X W (iEnumSD ma) (.Tuple elts kk tpos) (.Call (.Name "enumerate" p) [e] [] pos) :=
  impI (pi_enumS hg hm ha hs) fun s H Q ⟨T, r, F, sd, ah, S, L, P⟩ => mkAI S L P fun ds ah1 r1 F1 H1 vs x S1 L1 R1 P1 => by
    match ds, R1, P1 with
    | [.str y], R1, P1 =>
      obtain ⟨v, rfl, R⟩ := reps1 R1
      unfold Rep at R
      obtain ⟨rfl, hy⟩ := R
      exact ⟨y, rfl, P1 r1 F1 H1 _ .refl S1 (itd_enumS y hy)⟩
/-! ### -a -/
def fNeg : FU := fun d ah => match d with
  | .int i => some (.int (-i), ah)
  | _ => none
theorem d_neg {K : PySem.W.Frag} {mg : Str → Option Value} : UnD K mg (rU fun i => .int (-i)) fNeg := fun T r F H ah d v Q S R P => by
  unfold fNeg at P
  split at P
  · unfold Rep at R; subst R
    exact ⟨_, rfl, P.ret rfl S repI⟩
  · exact P.elim
theorem je_neg {a : Expr} {ma : ME} (ha : JE X W ma a) : JE X W (mUn fNeg ma) (.UnaryOp .USub a pos) := je_un un_neg d_neg ha
end
end LD

set_option Elab.async false
set_option linter.all false
set_option maxRecDepth 100000
set_option maxHeartbeats 2000000
namespace LD
open PySem PySem.Spec PyProof.Rows L2
theorem _root_.L2.Room.unitsA {k : Nat} {A : Around} (r : Room k A) : A.units + 64 < cLine := by have := r.un; omega
theorem _root_.L2.Room.unitsB {k : Nat} {A : Around} (r : Room k A) : A.units + 65 < cLine := by have := r.un; omega
theorem _root_.L2.Room.unitsC {k : Nat} {A : Around} (r : Room k A) : A.units + 1 < cLine := by have := r.un; omega
theorem takes_blk {X : Cx} : Takes X W0 := fun u s' ⟨_, _, _, _, _, _, _, _, _, _, _, _, _, _, _, _, w⟩ => w.elim
section
variable {X : Cx} {W : WX} {e : Expr} {st : Stmt} {sts : List Stmt} {m m1 m2 : ME} {n n1 n2 : MS}

theorem je_alt (h1 : JE X W m1 e) (h2 : JE X W m2 e) (h : ∀ sd ah, m sd ah = m1 sd ah ∨ m sd ah = m2 sd ah) : JE X W m e :=
  ⟨fun p s σ H Q I ⟨T, r, F, sd, ah, S, L, P⟩ => by
    rcases h sd ah with z | z
    · exact h1.run p s σ H Q I ⟨T, r, F, sd, ah, S, L, z ▸ P⟩
    · exact h2.run p s σ H Q I ⟨T, r, F, sd, ah, S, L, z ▸ P⟩⟩
theorem jt_alt (h1 : JT X W m1 e) (h2 : JT X W m2 e) (h : ∀ sd ah, m sd ah = m1 sd ah ∨ m sd ah = m2 sd ah) : JT X W m e :=
  ⟨fun p s σ H Q I ⟨T, r, F, sd, ah, S, L, P⟩ => by
    rcases h sd ah with z | z
    · exact h1.run p s σ H Q I ⟨T, r, F, sd, ah, S, L, z ▸ P⟩
    · exact h2.run p s σ H Q I ⟨T, r, F, sd, ah, S, L, z ▸ P⟩⟩
theorem js_alt (h1 : JS X W n1 st) (h2 : JS X W n2 st) (h : ∀ sd ah, n sd ah = n1 sd ah ∨ n sd ah = n2 sd ah) : JS X W n st :=
  ⟨fun p s σ H D I ⟨T, r, F, sd, ah, S, L, P⟩ => by
    rcases h sd ah with z | z
    · exact h1.run p s σ H D I ⟨T, r, F, sd, ah, S, L, z ▸ P⟩
    · exact h2.run p s σ H D I ⟨T, r, F, sd, ah, S, L, z ▸ P⟩⟩
end
section
variable {X : Cx} {W : WX} {pos : Pos} {tg e : Expr} {m m1 m2 m3 me ma : ME}
theorem ji_alt (h1 : JI X W m1 tg e) (h2 : JI X W m2 tg e) (h : ∀ sd ah, m sd ah = m1 sd ah ∨ m sd ah = m2 sd ah) : JI X W m tg e :=
  ⟨fun p s σ H R I ⟨T, r, F, sd, ah, S, L, P⟩ => by
    rcases h sd ah with z | z
    · exact h1.run p s σ H R I ⟨T, r, F, sd, ah, S, L, z ▸ P⟩
    · exact h2.run p s σ H R I ⟨T, r, F, sd, ah, S, L, z ▸ P⟩⟩
/-- the items of a list, a tuple, a text that stand still -/
def itemsOf : D → Option (List D)
  | .lst xs => some xs
  | .scr ns => some (ns.map D.int)
  | .tup xs => some xs
  | .str x => some (signsOf x)
  | _ => none
def iAny (me : ME) : ME := fun sd ah => (me sd ah).bind fun d a => match itemsOf d with
  | some xs => .ok (.lst xs) a
  | none => .bad
theorem ji_any (h : JE X W me e) : JI X W (iAny me) tg e := by
  have h12 : JI X W (fun sd ah => (me sd ah).bind fun d a => match d with
    | .tup xs => .ok (.lst xs) a
    | .str x => .ok (.lst (signsOf x)) a
    | _ => .bad) tg e := ji_alt (ji_tup h) (ji_str h) fun sd ah => by
      unfold iTupD iStrD
      cases me sd ah with
      | ok d a => cases d <;> first | exact .inl rfl | exact .inr rfl
      | exc _ _ => exact .inl rfl
      | bad => exact .inl rfl
  refine ji_alt (ji_list h) h12 fun sd ah => ?_
  unfold iAny iSeq
  cases me sd ah with
  | ok d a => cases d <;> first | exact .inl rfl | exact .inr rfl
  | exc _ _ => exact .inl rfl
  | bad => exact .inl rfl
def iEnumA (ma : ME) : ME := fun sd ah => (ma sd ah).args fun ds a => match ds with
  | [.lst xs] => .ok (.lst (enumOf xs)) a
  | [.str x] => .ok (.lst (enumOf (signsOf x))) a
  | _ => .bad
theorem ji_enumA {p tpos : Pos} {elts : List Expr} {kk : Nat} (hg : Gl X "enumerate") (hm : X.mg "enumerate" = none) (ha : JA X W ma [e]) (hs : starEach [e] X.env = [(false, eval e X.env)] := by rfl) :
    JI X W (iEnumA ma) (.Tuple elts kk tpos) (.Call (.Name "enumerate" p) [e] [] pos) :=
  ji_alt (ji_enum hg hm ha hs) (ji_enumS hg hm ha hs) fun sd ah => by
    unfold iEnumA iEnumD iEnumSD
    cases ma sd ah with
    | ok d a =>
      cases d <;> first
        | exact .inl rfl
        | skip
      rename_i xs
      cases xs with
      | nil => exact .inl rfl
      | cons y ys =>
        cases ys with
        | nil => cases y <;> first | exact .inl rfl | exact .inr rfl
        | cons z zs => exact .inl (by cases y <;> rfl)
    | exc _ _ => exact .inl rfl
    | bad => exact .inl rfl
/-- a[i]: a list, a tuple, a text; or a dict's entry -/
theorem je_ixA {a b : Expr} {ma mb : ME} (hu : X.A.units + 1 < cLine) (ha : JE X W ma a) (hb : JE X W mb b) (hs : PlainIx b := by exact fun _ _ => rfl) (hs2 : NoSl b := by exact fun _ _ => rfl) : JE X W (mOp fIxD ma mb) (.Subscript a b pos) :=
  je_alt (je_dget hu ha hb hs2) (je_ix ha hb hs) fun sd ah => by
    unfold mOp
    cases ma sd ah with
    | ok d1 a1 =>
      simp only [RE.bind]
      cases mb sd a1 with
      | ok d2 a2 =>
        simp only [RE.bind]
        unfold fIxD
        split
        · exact .inl rfl
        · exact .inr rfl
      | exc _ _ => exact .inl rfl
      | bad => exact .inl rfl
    | exc _ _ => exact .inl rfl
    | bad => exact .inl rfl
/-- in: a dict; a list, a tuple, a text -/
def fInA (neg : Bool) : FB := fun d1 d2 ah => match view ah d2 with
  | .dic _ _ => fDIn neg d1 d2 ah
  | _ => fIn neg d1 d2 ah
theorem in_alt (neg : Bool) (ma mb : ME) (sd : SD) (ah : AH) : mOp (fInA neg) ma mb sd ah = mOp (fDIn neg) ma mb sd ah ∨ mOp (fInA neg) ma mb sd ah = mOp (fIn neg) ma mb sd ah := by
  unfold mOp
  cases ma sd ah with
  | ok d1 a1 =>
    simp only [RE.bind]
    cases mb sd a1 with
    | ok d2 a2 =>
      simp only [RE.bind]
      unfold fInA
      split
      · exact .inl rfl
      · exact .inr rfl
    | exc _ _ => exact .inl rfl
    | bad => exact .inl rfl
  | exc _ _ => exact .inl rfl
  | bad => exact .inl rfl
section
variable {a b : Expr} {mb : ME}
theorem je_inA (hu : X.A.units + 65 < cLine) (ha : JE X W ma a) (hb : JE X W mb b) (h1 : behindInMarks .In b = false := by first | exact nomark _ | rfl) : JE X W (mOp (fInA false) ma mb) (.Compare a [.In] [b] pos) :=
  je_alt (je_din (by omega) ha hb h1) (je_cmp (o_in hu) (d_in false) ha hb h1) (in_alt _ _ _)
theorem je_notinA (hu : X.A.units + 65 < cLine) (ha : JE X W ma a) (hb : JE X W mb b) (h1 : behindInMarks .NotIn b = false := by first | exact nomark _ | rfl) : JE X W (mOp (fInA true) ma mb) (.Compare a [.NotIn] [b] pos) :=
  je_alt (je_dnotin (by omega) ha hb h1) (je_cmp (o_notIn hu) (d_in true) ha hb h1) (in_alt _ _ _)
theorem jt_inA (hu : X.A.units + 65 < cLine) (ha : JE X W ma a) (hb : JE X W mb b) (h1 : behindInMarks .In b = false := by first | exact nomark _ | rfl) : JT X W (mOp (fInA false) ma mb) (.Compare a [.In] [b] pos) :=
  jt_alt (jt_din (by omega) ha hb h1) (jt_cmp (o_in hu) (d_in false) ha hb h1) (in_alt _ _ _)
theorem jt_notinA (hu : X.A.units + 65 < cLine) (ha : JE X W ma a) (hb : JE X W mb b) (h1 : behindInMarks .NotIn b = false := by first | exact nomark _ | rfl) : JT X W (mOp (fInA true) ma mb) (.Compare a [.NotIn] [b] pos) :=
  jt_alt (jt_dnotin (by omega) ha hb h1) (jt_cmp (o_notIn hu) (d_in true) ha hb h1) (in_alt _ _ _)
end
/-- a[i] = e: a live list, a live dict -/
def mSetA (me mo mi : ME) : MS := fun sd ah => (me sd ah).toS sd fun d a1 => (mo sd a1).toS sd fun o a2 => (mi sd a2).toS sd fun i a3 => match o with
  | .cell n => (match a3[n]? with
    | some (some (.lst xs)) => (match i with
      | .int k => (match ixN xs.length k with
        | some j => .nx sd (a3.set n (some (.lst (xs.set j d))))
        | none => .bad)
      | _ => .bad)
    | some (some (.dic ks ds)) => (match keyOf i with
      | some q => if ks.length < sizeLine then .nx sd (a3.set n (some (dPut ks ds i q d))) else .bad
      | none => .bad)
    | _ => .bad)
  | _ => .bad
end
section
variable {X : Cx} {W : WX} {pos : Pos}
theorem js_setA {o i e : Expr} {me mo mi : ME} {p : Pos} (hu : X.A.units + 1 < cLine) (he : JE X W me e) (ho : JE X W mo o) (hi : JE X W mi i) (ha : ∀ v, assign (.Subscript o i p) X.env v = (do
      let ov ← holding [v] (eval o X.env)
      let iv ← holding [v, ov] (eval i X.env)
      standAt p
      holding [v, ov, iv] (setItem ov iv v)
      release [v, ov, iv] []) := by intro _; rfl)
    (hs : swapsWithSole [.Subscript o i p] e pos.line X.env = pure false := by rfl) (hw : swappedStores [.Subscript o i p] e X.env = pure none := by rfl)
    (h1 : (assignEach [.Subscript o i p] X.env).map (·.2) = [assign (.Subscript o i p) X.env] := by rfl) (hs2 : swapsWith e (some (.Subscript o i p)) pos.line X.env = pure false := by rfl) : JS X W (mSetA me mo mi) (.Assign [.Subscript o i p] e pos) :=
  js_alt (js_setL he ho hi ha hs hw h1) (js_setD hu he ho hi hs2) fun sd ah => by
    unfold mSetA mSetL mSetD
    cases me sd ah with
    | ok d a1 =>
      simp only [RE.toS]
      cases mo sd a1 with
      | ok o a2 =>
        simp only [RE.toS]
        cases mi sd a2 with
        | ok i a3 =>
          simp only [RE.toS]
          cases o with
          | cell n =>
            cases e : a3[n]? with
            | none => exact .inr (by cases keyOf i <;> simp [e])
            | some c =>
              cases c with
              | none => exact .inr (by cases keyOf i <;> simp [e])
              | some c =>
                cases c with
                | lst xs => exact .inl (by cases i <;> simp [e] <;> cases ixN xs.length _ <;> rfl)
                | dic ks ds => exact .inr (by cases keyOf i <;> simp [e])
                | _ => exact .inr (by cases keyOf i <;> simp [e])
          | _ => exact .inr rfl
        | exc _ _ => exact .inl rfl
        | bad => exact .inl rfl
      | exc _ _ => exact .inl rfl
      | bad => exact .inl rfl
    | exc _ _ => exact .inl rfl
    | bad => exact .inl rfl
end
/-! ### a law's start -/
theorem sim0 {K : PySem.W.Frag} {mg : Str → Option Value} {F H : Hp} (h : ∀ a u, F a = some u → Rd H a u) : Sim K mg (fun _ => none) [] F H [] :=
  ⟨rfl, h, fun n c a e _ => by simp at e, fun n m c c' a e _ _ _ => by simp at e, fun a o e => (nomatch e), fun n c a e _ => by simp at e, fun a o e => (nomatch e)⟩
theorem spd_law {K : PySem.W.Frag} {mg : Str → Option Value} {H : Hp} {a : Addr} {ns : List Int} {G : Gn} (h : ∃ ah, G [.scr ns] [] = .ok (.bl true) ah) (hS : SqL K H a (ns.map V.int)) :
    spD K mg 1 G [.ref a] H (fun v _ => v = .bl true) fun _ _ _ => False := by
  obtain ⟨ah, e⟩ := h
  have fin : ∀ r F, PoF K mg (fun _ => none) r F H (G [.scr ns] []) (fun v _ => v = .bl true) (fun _ _ _ => False) := fun r F => by
    rw [e]
    intro r' F' H' v _ _ R
    unfold Rep at R
    exact R
  rcases hS with z | z
  · refine ⟨_, [], fun b => if b = a then some (.lst (ns.map V.int)) else none, [], [.scr ns], sim0 fun b u q => ?_, .one ?_, rfl, fin _ _⟩
    · by_cases hb : b = a
      · subst hb
        simp at q
        rw [← q]; exact z
      · simp [hb] at q
    · unfold Rep
      exact ⟨a, rfl, .inl (by simp)⟩
  · refine ⟨_, [], fun b => none, [], [.scr ns], sim0 fun b u q => (nomatch q), .one ?_, rfl, fin _ _⟩
    unfold Rep
    exact ⟨a, rfl, .inr fun H' => .inr z⟩
theorem walk_end {l : PySem.W.OpenLaw} {n k : Nat} {q : Program} {loose : List Str} {XP : (Str → Option Value) → Heap → Prop} {YP : World → Heap → Prop} {d : DefRec} {x : Str}
    (hn : l.most = some n) (hn2 : n ≤ sizeLine) (hdf : d.params.defaults = []) (hr : Room k callerA)
    (F : ∀ (w : World) (mg : Str → Option Value) (fa : Addr) (h : Heap), YP w h → h.Ns mainGlobals mg → mg d.name = some (.ref fa) →
      ∃ (K : PySem.W.Frag) (fd : FuncData) (sp : Sp), K.In h ∧ (∀ (s : Shared) (u : Value), BindsTo s fd ⟨[u], []⟩ [(x, u)]) ∧
        (∀ (H : Hp) (a : Addr) (ns : List Int), ns.length ≤ n → (∀ z ∈ ns, Builtin.Int.intBits z ≤ 1048576) → SqL K H a (ns.map V.int) → sp [.ref a] H (fun v _ => v = .bl true) fun _ _ _ => False) ∧
        ∀ base : Heap, K.In base → base.Ns mainGlobals mg → FnOk l.prog w K mg base (L2.CX l.prog w) k fa fd [x] sp) :
    PySem.W.WalkO q loose XP YP l.row.toRowW d [] (fun f vs => PySem.call f vs) := by
  refine Att.attach_callB hn hdf fun w s₀ s₁ mg mb fa o pm cd doc a vs ns G Y ho hd hcd hmg hobj hints hlen hbits hg => ?_
  obtain ⟨K, fd, sp, KX, hb, hsp, hF⟩ := F w mg fa _ Y G.T.g hmg
  exact law_call KX G.T.g G.T.b G.T.builtins G.T.nolimit hg hobj hints (Nat.le_trans hlen hn2) hr hF hb (fun H hO hS => hsp H a ns hlen hbits hS) fun H e s' c => by
    obtain ⟨_, _, _, _, _, _, _, _, _, _, _, _, h⟩ := c
    exact h
end LD

set_option Elab.async false
set_option linter.all false
set_option maxRecDepth 100000
set_option maxHeartbeats 2000000
namespace LD
open PySem PySem.Spec PyProof.Rows L2
/-! ### running the readings -/
def endB (r : RS) : RE := match r with
  | .nx _ a => .ok .non a
  | .ret d a => .ok d a
  | .exc x _ a => .exc x a
  | _ => .bad
def getV (o : Option (Option D)) (ah : AH) : RE := match o with
  | some (some d) => .ok d ah
  | _ => .bad
section
variable {k : D → AH → RE} {kS : D → AH → RS} {kL : List D → AH → RE} {kM : SD → AH → RS} {d d1 d2 : D} {ds : List D} {a ah h : AH} {sd s : SD} {x : Exc} {A B : AH → RE} {AS BS : AH → RS} {b : Bool} {m m1 m2 m3 mc : ME} {n n1 n2 : MS} {f f' : FB} {i : Nat}
theorem x_bok : RE.bind (.ok d a) k = k d a := rfl
theorem x_bex : RE.bind (.exc x a) k = .exc x a := rfl
theorem x_tok : RE.toS (.ok d a) sd kS = kS d a := rfl
theorem x_tex : RE.toS (.exc x a) sd kS = .exc x sd a := rfl
theorem x_tt : RE.test (.ok (.bl b) h) A B = if b = true then A h else B h := by cases b <;> rfl
theorem x_tst : RE.testS (.ok (.bl b) h) sd AS BS = if b = true then AS h else BS h := by cases b <;> rfl
theorem x_tex2 : RE.test (.exc x h) A B = .exc x h := rfl
theorem x_tex3 : RE.testS (.exc x h) sd AS BS = .exc x sd h := rfl
theorem x_args : RE.args (.ok (.lst ds) h) kL = kL ds h := rfl
theorem x_argx : RE.args (.exc x h) kL = .exc x h := rfl
theorem x_nx : RS.bind (.nx s a) kM = kM s a := rfl
theorem x_ret : RS.bind (.ret d a) kM = .ret d a := rfl
theorem x_brk : RS.bind (.brk s a) kM = .brk s a := rfl
theorem x_cnt : RS.bind (.cnt s a) kM = .cnt s a := rfl
theorem x_exc : RS.bind (.exc x s a) kM = .exc x s a := rfl
theorem x_lift : lift (some (d, a)) = .ok d a := rfl
theorem x_optS : optS (some s) a = .nx s a := rfl
theorem x_getV : getV (some (some d)) a = .ok d a := rfl
theorem r_run {N : Nat} : runB N n ds ah = endB (n (ds.map some ++ List.replicate (N - ds.length) none) ah) := rfl
theorem x_eret : endB (.ret d a) = .ok d a := rfl
theorem x_enx : endB (.nx s a) = .ok .non a := rfl
theorem x_eexc : endB (.exc x s a) = .exc x a := rfl
theorem r_seq : mSeq n1 n2 sd ah = (n1 sd ah).bind n2 := rfl
def kAsg (g : MG) (sd : SD) (d : D) (a : AH) : RS := optS (g d sd) a
theorem r_asg {g : MG} : mAsg m g sd ah = (m sd ah).toS sd (kAsg g sd) := rfl
theorem k_asg {g : MG} : kAsg g sd d a = optS (g d sd) a := rfl
def kRet (d : D) (a : AH) : RS := .ret d a
theorem r_ret : mRet m sd ah = (m sd ah).toS sd kRet := rfl
theorem k_ret : kRet d a = .ret d a := rfl
def kDrop (sd : SD) (_ : D) (a : AH) : RS := .nx sd a
theorem r_drop : mDrop m sd ah = (m sd ah).toS sd (kDrop sd) := rfl
theorem k_drop : kDrop sd d a = .nx sd a := rfl
theorem r_if : mIfS mc n1 n2 sd ah = (mc sd ah).testS sd (n1 sd) (n2 sd) := rfl
theorem r_var : mVar i sd ah = getV sd[i]? ah := rfl
theorem r_c : mC d sd ah = .ok d ah := rfl
def kOp2 (f : FB) (d1 d2 : D) (a : AH) : RE := lift (f d1 d2 a)
def kOp (f : FB) (m2 : ME) (sd : SD) (d1 : D) (a : AH) : RE := (m2 sd a).bind (kOp2 f d1)
theorem r_op : mOp f m1 m2 sd ah = (m1 sd ah).bind (kOp f m2 sd) := rfl
theorem k_op : kOp f m2 sd d1 a = (m2 sd a).bind (kOp2 f d1) := rfl
theorem k_op2 : kOp2 f d1 d2 a = lift (f d1 d2 a) := rfl
def kUn (f : FU) (d : D) (a : AH) : RE := lift (f d a)
theorem r_un {f : FU} : mUn f m sd ah = (m sd ah).bind (kUn f) := rfl
theorem k_un {f : FU} : kUn f d a = lift (f d a) := rfl
def kFalse (a : AH) : RE := .ok (.bl false) a
def kTrue (a : AH) : RE := .ok (.bl true) a
theorem k_false : kFalse a = .ok (.bl false) a := rfl
theorem k_true : kTrue a = .ok (.bl true) a := rfl
def kCh3 (f' : FB) (m3 : ME) (sd : SD) (d2 : D) (a : AH) : RE := (m3 sd a).bind (kOp2 f' d2)
def kCh2 (f f' : FB) (m3 : ME) (sd : SD) (d1 d2 : D) (a : AH) : RE := (lift (f d1 d2 a)).test (kCh3 f' m3 sd d2) kFalse
def kCh (f f' : FB) (m2 m3 : ME) (sd : SD) (d1 : D) (a : AH) : RE := (m2 sd a).bind (kCh2 f f' m3 sd d1)
theorem r_chain : mChain f f' m1 m2 m3 sd ah = (m1 sd ah).bind (kCh f f' m2 m3 sd) := rfl
theorem k_ch : kCh f f' m2 m3 sd d1 a = (m2 sd a).bind (kCh2 f f' m3 sd d1) := rfl
theorem k_ch2 : kCh2 f f' m3 sd d1 d2 a = (lift (f d1 d2 a)).test (kCh3 f' m3 sd d2) kFalse := rfl
theorem k_ch3 : kCh3 f' m3 sd d2 a = (m3 sd a).bind (kOp2 f' d2) := rfl
theorem r_and : mAnd m1 m2 sd ah = (m1 sd ah).test (m2 sd) kFalse := rfl
theorem r_or : mOr m1 m2 sd ah = (m1 sd ah).test kTrue (m2 sd) := rfl
theorem r_not : mNot m sd ah = (m sd ah).test kFalse kTrue := rfl
theorem r_ife : mIf mc m1 m2 sd ah = (mc sd ah).test (m1 sd) (m2 sd) := rfl
theorem r_nil : aNil sd ah = .ok (.lst []) ah := rfl
def kCons2 (d : D) (ds : List D) (a : AH) : RE := .ok (.lst (d :: ds)) a
def kCons (m2 : ME) (sd : SD) (d : D) (a : AH) : RE := (m2 sd a).args (kCons2 d)
theorem r_cons : aCons m1 m2 sd ah = (m1 sd ah).bind (kCons m2 sd) := rfl
theorem k_cons : kCons m2 sd d a = (m2 sd a).args (kCons2 d) := rfl
theorem k_cons2 : kCons2 d ds a = .ok (.lst (d :: ds)) a := rfl
def kLst (fz : Bool) (ds : List D) (a : AH) : RE := if ds.length ≤ sizeLine then mkA' fz (.lst ds) a else .bad
theorem r_lst {fz : Bool} : mLst fz m sd ah = (m sd ah).args (kLst fz) := rfl
theorem k_lst {fz : Bool} (h : ds.length ≤ sizeLine) : kLst fz ds a = mkA' fz (.lst ds) a := by unfold kLst; rw [if_pos h]
def kTup (ds : List D) (a : AH) : RE := if ds.length ≤ sizeLine then .ok (.tup ds) a else .bad
theorem r_tup : mTup m sd ah = (m sd ah).args kTup := rfl
theorem k_tup (h : ds.length ≤ sizeLine) : kTup ds a = .ok (.tup ds) a := by unfold kTup; rw [if_pos h]
theorem x_mkT : mkA' true d a = .ok d a := rfl
theorem x_mkF : mkA' false d a = .ok (.cell a.length) (a ++ [some d]) := rfl
def kCall (n : Nat) (G : Gn) (ds : List D) (a : AH) : RE := if ds.length = n then G ds a else .bad
theorem r_call {n : Nat} {G : Gn} : mCall n G m sd ah = (m sd ah).args (kCall n G) := rfl
theorem k_call {n : Nat} {G : Gn} (h : ds.length = n) : kCall n G ds a = G ds a := by unfold kCall; rw [if_pos h]
theorem k_call1 {G : Gn} {y0 : D} : kCall 1 G [y0] a = G [y0] a := rfl
theorem k_call2 {G : Gn} {y0 y1 : D} : kCall 2 G [y0, y1] a = G [y0, y1] a := rfl
theorem k_call3 {G : Gn} {y0 y1 y2 : D} : kCall 3 G [y0, y1, y2] a = G [y0, y1, y2] a := rfl
theorem k_call4 {G : Gn} {y0 y1 y2 y3 : D} : kCall 4 G [y0, y1, y2, y3] a = G [y0, y1, y2, y3] a := rfl
theorem k_call5 {G : Gn} {y0 y1 y2 y3 y4 : D} : kCall 5 G [y0, y1, y2, y3, y4] a = G [y0, y1, y2, y3, y4] a := rfl
theorem k_call6 {G : Gn} {y0 y1 y2 y3 y4 y5 : D} : kCall 6 G [y0, y1, y2, y3, y4, y5] a = G [y0, y1, y2, y3, y4, y5] a := rfl
theorem k_call7 {G : Gn} {y0 y1 y2 y3 y4 y5 y6 : D} : kCall 7 G [y0, y1, y2, y3, y4, y5, y6] a = G [y0, y1, y2, y3, y4, y5, y6] a := rfl
theorem k_call8 {G : Gn} {y0 y1 y2 y3 y4 y5 y6 y7 : D} : kCall 8 G [y0, y1, y2, y3, y4, y5, y6, y7] a = G [y0, y1, y2, y3, y4, y5, y6, y7] a := rfl
def kBi (fl : FL) (ds : List D) (a : AH) : RE := lift (fl ds a)
theorem r_bi {fl : FL} : mBi fl m sd ah = (m sd ah).args (kBi fl) := rfl
theorem k_bi {fl : FL} : kBi fl ds a = lift (fl ds a) := rfl
def kIs (cs : List String) (d : D) (a : AH) : RE := lift (fIs cs d a)
theorem r_is {cs : List String} : mIs cs m sd ah = (m sd ah).bind (kIs cs) := rfl
theorem k_is {cs : List String} : kIs cs d a = lift (fIs cs d a) := rfl
def kBm2 (f : FM) (d : D) (ds : List D) (a : AH) : RE := lift (f d ds a)
def kBm (Ty : String) (f : FM) (m2 : ME) (sd : SD) (d : D) (a : AH) : RE := if isTy Ty (view a d) = true then (m2 sd a).args (kBm2 f d) else .bad
theorem r_bm {Ty : String} {f : FM} : mBm Ty f m1 m2 sd ah = (m1 sd ah).bind (kBm Ty f m2 sd) := rfl
theorem k_bm {Ty : String} {f : FM} (h : isTy Ty (view a d) = true) : kBm Ty f m2 sd d a = (m2 sd a).args (kBm2 f d) := by unfold kBm; rw [if_pos h]
theorem k_bmS {f : FM} {x : Str} : kBm "str" f m2 sd (.str x) a = (m2 sd a).args (kBm2 f (.str x)) := k_bm (by simp [isTy, view])
theorem k_bmL {f : FM} {n : Nat} {xs : List D} (h : a[n]? = some (some (.lst xs))) : kBm "list" f m2 sd (.cell n) a = (m2 sd a).args (kBm2 f (.cell n)) := k_bm (by simp [isTy, view, h])
theorem k_bm2 {f : FM} : kBm2 f d ds a = lift (f d ds a) := rfl
def kBm0 (Ty : String) (f : FM) (d : D) (a : AH) : RE := if isTy Ty (view a d) = true then lift (f d [] a) else .bad
theorem r_bm0 {Ty : String} {f : FM} : mBm0 Ty f m1 sd ah = (m1 sd ah).bind (kBm0 Ty f) := rfl
theorem k_bm0' {Ty : String} {f : FM} (h : isTy Ty (view a d) = true) : kBm0 Ty f d a = lift (f d [] a) := by unfold kBm0; rw [if_pos h]
theorem k_bm0S {f : FM} {x : Str} : kBm0 "str" f (.str x) a = lift (f (.str x) [] a) := by unfold kBm0; rw [if_pos (by simp [isTy, view])]
theorem k_bm0L {f : FM} {n : Nat} {xs : List D} (h : a[n]? = some (some (.lst xs))) : kBm0 "list" f (.cell n) a = lift (f (.cell n) [] a) := by unfold kBm0; rw [if_pos (by simp [isTy, view, h])]
def kSl3 (fz : Bool) (d : D) (i j : Option Int) (a : AH) : RE := lift (fSl fz d i j a)
def kSl2 (fz : Bool) (hi : Option ME) (sd : SD) (d : D) (i : Option Int) (a : AH) : RE := mPart hi sd a (kSl3 fz d i)
def kSl (fz : Bool) (lo hi : Option ME) (sd : SD) (d : D) (a : AH) : RE := mPart lo sd a (kSl2 fz hi sd d)
theorem r_sl {fz : Bool} {lo hi : Option ME} : mSl fz m lo hi sd ah = (m sd ah).bind (kSl fz lo hi sd) := rfl
theorem k_sl {fz : Bool} {lo hi : Option ME} : kSl fz lo hi sd d a = mPart lo sd a (kSl2 fz hi sd d) := rfl
theorem k_sl2 {fz : Bool} {hi : Option ME} {o : Option Int} : kSl2 fz hi sd d o a = mPart hi sd a (kSl3 fz d o) := rfl
theorem k_sl3 {fz : Bool} {o o2 : Option Int} : kSl3 fz d o o2 a = lift (fSl fz d o o2 a) := rfl
def kPart (kO : Option Int → AH → RE) (d : D) (a : AH) : RE := match d with
  | .int i => kO (some i) a
  | _ => .bad
theorem r_part0 {kO : Option Int → AH → RE} : mPart none sd ah kO = kO none ah := rfl
theorem r_part {kO : Option Int → AH → RE} : mPart (some m) sd ah kO = (m sd ah).bind (kPart kO) := by
  show (m sd ah).bind (fun d a => match d with
    | .int i => kO (some i) a
    | _ => .bad) = _
  cases m sd ah with
  | ok d a => cases d <;> rfl
  | exc _ _ => rfl
  | bad => rfl
theorem k_part {kO : Option Int → AH → RE} {j : Int} : kPart kO (.int j) a = kO (some j) a := rfl
def kAny (d : D) (a : AH) : RE := match itemsOf d with
  | some xs => .ok (.lst xs) a
  | none => .bad
theorem r_any : iAny m sd ah = (m sd ah).bind kAny := rfl
theorem k_anyL : kAny (.lst ds) a = .ok (.lst ds) a := rfl
theorem k_anyT : kAny (.tup ds) a = .ok (.lst ds) a := rfl
theorem k_anyC {ns : List Int} : kAny (.scr ns) a = .ok (.lst (ns.map D.int)) a := rfl
theorem k_anyS {x : Str} : kAny (.str x) a = .ok (.lst (signsOf x)) a := rfl
def kEnum (ds : List D) (a : AH) : RE := match ds with
  | [.lst xs] => .ok (.lst (enumOf xs)) a
  | [.str x] => .ok (.lst (enumOf (signsOf x))) a
  | _ => .bad
theorem r_enumA : iEnumA m sd ah = (m sd ah).args kEnum := by
  unfold iEnumA
  cases m sd ah with
  | ok d a => cases d <;> rfl
  | exc _ _ => rfl
  | bad => rfl
theorem k_enumL : kEnum [.lst ds] a = .ok (.lst (enumOf ds)) a := rfl
theorem k_enumS {x : Str} : kEnum [.str x] a = .ok (.lst (enumOf (signsOf x))) a := rfl
def kRange1 (ds : List D) (a : AH) : RE := match ds with
  | [.int j] => if -(2 ^ 62) ≤ j ∧ j < 2 ^ 62 then .ok (.lst (intsFrom 0 j.toNat)) a else .bad
  | _ => .bad
theorem r_range1 : iRange1 m sd ah = (m sd ah).args kRange1 := by
  unfold iRange1
  cases m sd ah with
  | ok d a => cases d <;> rfl
  | exc _ _ => rfl
  | bad => rfl
theorem k_range1 {j : Int} (h0 : -(2 ^ 62) ≤ j) (h1 : j < 2 ^ 62) : kRange1 [.int j] a = .ok (.lst (intsFrom 0 j.toNat)) a := by
  show (if -(2 ^ 62) ≤ j ∧ j < 2 ^ 62 then RE.ok (.lst (intsFrom 0 j.toNat)) a else RE.bad) = _
  rw [if_pos ⟨h0, h1⟩]
def kRange2 (ds : List D) (a : AH) : RE := match ds with
  | [.int i, .int j] => if -(2 ^ 62) ≤ i ∧ i < 2 ^ 62 ∧ -(2 ^ 62) ≤ j ∧ j < 2 ^ 62 then .ok (.lst (intsFrom i (j - i).toNat)) a else .bad
  | _ => .bad
theorem r_range2 : iRange2 m sd ah = (m sd ah).args kRange2 := by
  unfold iRange2
  cases m sd ah with
  | ok d a => cases d <;> rfl
  | exc _ _ => rfl
  | bad => rfl
theorem k_range2 {i j : Int} (h0 : -(2 ^ 62) ≤ i) (h1 : i < 2 ^ 62) (h2 : -(2 ^ 62) ≤ j) (h3 : j < 2 ^ 62) : kRange2 [.int i, .int j] a = .ok (.lst (intsFrom i (j - i).toNat)) a := by
  show (if -(2 ^ 62) ≤ i ∧ i < 2 ^ 62 ∧ -(2 ^ 62) ≤ j ∧ j < 2 ^ 62 then RE.ok (.lst (intsFrom i (j - i).toNat)) a else RE.bad) = _
  rw [if_pos ⟨h0, h1, h2, h3⟩]
def kSet3 (sd : SD) (d o i : D) (a3 : AH) : RS := match o with
    | .cell n => (match a3[n]? with
      | some (some (.lst xs)) => (match i with
        | .int k => (match ixN xs.length k with
          | some j => .nx sd (a3.set n (some (.lst (xs.set j d))))
          | none => .bad)
        | _ => .bad)
      | some (some (.dic ks ds)) => (match keyOf i with
        | some q => if ks.length < sizeLine then .nx sd (a3.set n (some (dPut ks ds i q d))) else .bad
        | none => .bad)
      | _ => .bad)
    | _ => .bad
def kSet2 (mi : ME) (sd : SD) (d o : D) (a : AH) : RS := (mi sd a).toS sd (kSet3 sd d o)
def kSet (mo mi : ME) (sd : SD) (d : D) (a : AH) : RS := (mo sd a).toS sd (kSet2 mi sd d)
theorem r_setA {mo mi : ME} : mSetA m mo mi sd ah = (m sd ah).toS sd (kSet mo mi sd) := rfl
theorem k_set {mo mi : ME} : kSet mo mi sd d a = (mo sd a).toS sd (kSet2 mi sd d) := rfl
theorem k_set2 {mi : ME} {o : D} : kSet2 mi sd d o a = (mi sd a).toS sd (kSet3 sd d o) := rfl
theorem k_set3L {n : Nat} {xs : List D} {k : Int} {j : Nat} (h : a[n]? = some (some (.lst xs))) (hj : ixN xs.length k = some j) : kSet3 sd d (.cell n) (.int k) a = .nx sd (a.set n (some (.lst (xs.set j d)))) := by
  unfold kSet3; simp only [h, hj]
theorem r_name : tgName i d sd = some (sd.set i (some d)) := rfl
theorem r_tnil : tgNil [] sd = some sd := rfl
theorem r_tcons {g : MG} {gs : MGs} : tgCons g gs (d :: ds) sd = (g d sd).bind fun sd1 => gs ds sd1 := rfl
theorem r_ttup {g : MGs} {n : Nat} : tgTup n g (.tup ds) sd = if ds.length = n then g ds sd else none := rfl
def forE (g : MG) (mb : MS) (sd : SD) : RE → RS
  | .ok (.lst items) a => forD g mb items sd a
  | .ok _ _ => .bad
  | .exc x a => .exc x sd a
  | .bad => .bad
theorem r_for {g : MG} : mFor m g n sd ah = forE g n sd (m sd ah) := by
  unfold mFor forE
  cases m sd ah with
  | ok d a => cases d <;> rfl
  | exc _ _ => rfl
  | bad => rfl
theorem x_for {g : MG} : forE g n sd (.ok (.lst ds) a) = forD g n ds sd a := rfl
end
/-! ### values -/
section
variable {i j : Int} {ah : AH} {x y : Str} {d : D} {xs : List D}
theorem v_int : view ah (.int i) = .int i := rfl
theorem v_str : view ah (.str x) = .str x := rfl
theorem v_cell {n : Nat} {c : D} (h : ah[n]? = some (some c)) : view ah (.cell n) = c := by simp [view, h]
theorem f_gt : fGt (.int i) (.int j) ah = some (.bl (decide (j < i)), ah) := rfl
theorem f_ge : fGe (.int i) (.int j) ah = some (.bl (decide (j ≤ i)), ah) := rfl
theorem f_lt : fLt (.int i) (.int j) ah = some (.bl (decide (i < j)), ah) := rfl
theorem f_le : fLe (.int i) (.int j) ah = some (.bl (decide (i ≤ j)), ah) := rfl
theorem f_sub : fSub (.int i) (.int j) ah = some (.int (i - j), ah) := rfl
theorem f_add {fz : Bool} : fAdd fz (.int i) (.int j) ah = some (.int (i + j), ah) := rfl
theorem f_mul (h1 : -(2 ^ 400) < i) (h2 : i < 2 ^ 400) (h3 : -(2 ^ 400) < j) (h4 : j < 2 ^ 400) : fMulI (.int i) (.int j) ah = some (.int (i * j), ah) := by
  have lg : ∀ k : Int, -(2 ^ 400) < k → k < 2 ^ 400 → k.natAbs.log2 < 400 := fun k a b => by
    by_cases z : k.natAbs = 0
    · rw [z]; decide
    · rw [Nat.log2_lt z]; omega
  have := lg i h1 h2
  have := lg j h3 h4
  have c : i.natAbs.log2 + j.natAbs.log2 < 1000000 := by omega
  simp only [fMulI, fI, c, decide_true, if_true]
theorem f_div (h1 : 0 < j) (h2 : j < 2 ^ 400) : fDiv (.int i) (.int j) ah = some (.int (i / j), ah) := by
  have c : j.natAbs.log2 < 9000 := by
    by_cases z : j.natAbs = 0
    · rw [z]; decide
    · have : j.natAbs.log2 < 400 := by rw [Nat.log2_lt z]; omega
      omega
  simp only [fDiv, fI, h1, c, and_self, decide_true, if_true]
theorem f_mod (h1 : 0 < j) : fMod (.int i) (.int j) ah = some (.int (i % j), ah) := by
  simp only [fMod, fI, h1, decide_true, if_true]
theorem f_pow (h : 0 ≤ j ∧ j ≤ 1000000 ∧ i.natAbs < 2 ^ 64) : fPow (.int i) (.int j) ah = some (.int (i ^ j.toNat), ah) := by
  simp only [fPow, fI, h, and_self, decide_true, if_true]
theorem f_eqI : fEq (.int i) (.int j) ah = some (.bl (decide (i = j)), ah) := by
  have e : PyData.eqv (.int i) (.int j) = decide (i = j) := by
    by_cases c : i = j
    · subst c; simp [PyData.eqv]
    · simp [PyData.eqv, c]
  unfold fEq
  simp only [v_int, toPy]
  rw [if_pos (by simp [PyData.depth]), e]
theorem f_neI : fNe (.int i) (.int j) ah = some (.bl (!decide (i = j)), ah) := by
  have e : PyData.eqv (.int i) (.int j) = decide (i = j) := by
    by_cases c : i = j
    · subst c; simp [PyData.eqv]
    · simp [PyData.eqv, c]
  unfold fNe
  simp only [v_int, toPy]
  rw [if_pos (by simp [PyData.depth]), e]
theorem f_isN : fIsN d .non ah = some (.bl (LD.isNon d), ah) := rfl
theorem f_notN : fNotN d .non ah = some (.bl (!LD.isNon d), ah) := rfl
theorem f_neg : fNeg (.int i) ah = some (.int (-i), ah) := rfl
theorem f_eqS : fEq (.str x) (.str y) ah = some (.bl (decide (x = y)), ah) := by
  have e : PyData.eqv (.str x) (.str y) = decide (x = y) := by
    by_cases c : x = y
    · subst c; simp [PyData.eqv]
    · simp [PyData.eqv, c]
  unfold fEq
  simp only [v_str, toPy]
  rw [if_pos (by simp [PyData.depth]), e]
end
/-! ### comprehensions -/
def lcR (fz : Bool) : Option (List D × AH) → RE
  | some (ys, a) => mkA' fz (.lst ys) a
  | none => .bad
def lcE (fz : Bool) (g : MG) (mt me : ME) (vs : List Nat) (sd : SD) : RE → RE
  | .ok (.lst items) a => lcR fz (lcD g mt me vs (wipeD sd vs) items [] a)
  | .ok _ _ => .bad
  | .exc x a => .exc x a
  | .bad => .bad
section
variable {fz : Bool} {g : MG} {mt me mi : ME} {vs : List Nat} {sd : SD} {ah a : AH} {ds ys : List D}
theorem r_lc : mLc fz mi g mt me vs sd ah = lcE fz g mt me vs sd (mi sd ah) := by
  unfold mLc lcE lcR
  cases mi sd ah with
  | ok d a =>
    cases d with
    | lst items => (try dsimp only) <;> (cases lcD g mt me vs (wipeD sd vs) items [] a <;> rfl)
    | _ => rfl
  | exc _ _ => rfl
  | bad => rfl
theorem x_lc : lcE fz g mt me vs sd (.ok (.lst ds) a) = lcR fz (lcD g mt me vs (wipeD sd vs) ds [] a) := rfl
theorem x_lcR : lcR fz (some (ys, a)) = mkA' fz (.lst ys) a := rfl
theorem r_yes : mYes sd ah = .ok (.bl true) ah := rfl
/-- one item for each item -/
theorem lc_map {sd0 : SD} (N : Nat) (J : List D → AH → Prop) (hN : N ≤ 16777216) : ∀ (items acc : List D) (ah : AH), J acc ah → acc.length + items.length ≤ N →
    (∀ d ∈ items, ∀ acc ah, acc.length < N → J acc ah → ∃ sd1 y a2, g d sd0 = some sd1 ∧ mt sd1 ah = .ok (.bl true) ah ∧ me sd1 ah = .ok y a2 ∧ J (acc ++ [y]) a2) →
    ∃ ys a, lcD g mt me vs sd0 items acc ah = some (ys, a) ∧ J ys a ∧ ys.length = acc.length + items.length
  | [], acc, ah, j, _, _ => ⟨acc, ah, rfl, j, rfl⟩
  | d :: items, acc, ah, j, hl, h => by
    obtain ⟨sd1, y, a2, e1, e2, e3, j2⟩ := h d (by simp) acc ah (by simp at hl; omega) j
    obtain ⟨ys, a, e, j3, l3⟩ := lc_map N J hN items (acc ++ [y]) a2 j2 (by simp at hl ⊢; omega) fun d hd => h d (by simp [hd])
    refine ⟨ys, a, ?_, j3, by simp at l3 ⊢; omega⟩
    unfold lcD
    rw [e1]; dsimp only
    rw [e2]; dsimp only
    rw [e3]; dsimp only
    rw [if_pos (by rw [sizeLine_eq]; simp at hl; omega)]
    exact e
end
/-! ### loops -/
theorem for_inv {g : MG} {mb : MS} (I : SD → AH → Prop) : ∀ (items : List D) (sd : SD) (ah : AH), I sd ah →
    (∀ d ∈ items, ∀ sd ah, I sd ah → ∃ sd1 s a, g d sd = some sd1 ∧ (mb sd1 ah = .nx s a ∨ mb sd1 ah = .cnt s a) ∧ I s a) → ∃ s a, forD g mb items sd ah = .nx s a ∧ I s a
  | [], sd, ah, i, _ => ⟨sd, ah, rfl, i⟩
  | d :: items, sd, ah, i, h => by
    obtain ⟨sd1, s, a, e1, e2, i2⟩ := h d (by simp) sd ah i
    obtain ⟨s', a', e, i3⟩ := for_inv I items s a i2 fun d hd => h d (by simp [hd])
    refine ⟨s', a', ?_, i3⟩
    unfold forD
    rw [e1]; dsimp only
    rcases e2 with e2 | e2 <;> (rw [e2]; exact e)
theorem for_idx {g : MG} {mb : MS} (I : Nat → SD → AH → Prop) : ∀ (items : List D) (k : Nat) (sd : SD) (ah : AH), I k sd ah →
    (∀ j d, items[j]? = some d → ∀ sd ah, I (k + j) sd ah → ∃ sd1 s a, g d sd = some sd1 ∧ (mb sd1 ah = .nx s a ∨ mb sd1 ah = .cnt s a) ∧ I (k + j + 1) s a) → ∃ s a, forD g mb items sd ah = .nx s a ∧ I (k + items.length) s a
  | [], k, sd, ah, i, _ => ⟨sd, ah, rfl, i⟩
  | d :: items, k, sd, ah, i, h => by
    obtain ⟨sd1, s, a, e1, e2, i2⟩ := h 0 d rfl sd ah i
    obtain ⟨s', a', e, i3⟩ := for_idx I items (k + 1) s a i2 fun j d hd sd ah i => by
      have := h (j + 1) d (by simpa using hd) sd ah (by have e : k + 1 + j = k + (j + 1) := by omega
                                                        rw [e] at i; exact i)
      have e : k + 1 + j + 1 = k + (j + 1) + 1 := by omega
      rw [e]; exact this
    refine ⟨s', a', ?_, by rw [List.length_cons]; have e : k + (items.length + 1) = k + 1 + items.length := by omega
                           rw [e]; exact i3⟩
    unfold forD
    rw [e1]; dsimp only
    rcases e2 with e2 | e2 <;> (rw [e2]; exact e)
section
variable {g : MG} {mb : MS} {sd sd1 s : SD} {ah a : AH} {d e : D} {ds : List D}
theorem for_nil : forD g mb [] sd ah = .nx sd ah := rfl
theorem for_nx (h1 : g d sd = some sd1) (h2 : mb sd1 ah = .nx s a) : forD g mb (d :: ds) sd ah = forD g mb ds s a := by
  rw [forD.eq_def]
  dsimp only
  rw [h1]; dsimp only; rw [h2]
theorem for_cnt (h1 : g d sd = some sd1) (h2 : mb sd1 ah = .cnt s a) : forD g mb (d :: ds) sd ah = forD g mb ds s a := by
  rw [forD.eq_def]
  dsimp only
  rw [h1]; dsimp only; rw [h2]
theorem for_ret (h1 : g d sd = some sd1) (h2 : mb sd1 ah = .ret e a) : forD g mb (d :: ds) sd ah = .ret e a := by unfold forD; rw [h1]; dsimp only; rw [h2]
theorem for_brk (h1 : g d sd = some sd1) (h2 : mb sd1 ah = .brk s a) : forD g mb (d :: ds) sd ah = .nx s a := by unfold forD; rw [h1]; dsimp only; rw [h2]
end
/-! ### texts and lists by places -/
theorem ixN_ok {n : Nat} {i : Int} (h0 : 0 ≤ i) (h1 : i < n) : ixN n i = some i.toNat := by
  unfold ixN
  rw [if_pos h0, if_pos h1]
theorem f_ixL {xs : List D} {i : Int} {ah : AH} (h0 : 0 ≤ i) (h1 : i < xs.length) : ∃ d, d ∈ xs ∧ xs[i.toNat]? = some d ∧ fIxD (.lst xs) (.int i) ah = some (d, ah) := by
  have hl : i.toNat < xs.length := by omega
  refine ⟨xs[i.toNat], List.getElem_mem hl, List.getElem?_eq_getElem hl, ?_⟩
  simp only [fIxD, fIx, view, atI, ixN_ok h0 h1, Option.bind_some, List.getElem?_eq_getElem hl, Option.map_some]
theorem f_ixT {xs : List D} {i : Int} {ah : AH} (h0 : 0 ≤ i) (h1 : i < xs.length) : ∃ d, d ∈ xs ∧ xs[i.toNat]? = some d ∧ fIxD (.tup xs) (.int i) ah = some (d, ah) := by
  have hl : i.toNat < xs.length := by omega
  refine ⟨xs[i.toNat], List.getElem_mem hl, List.getElem?_eq_getElem hl, ?_⟩
  simp only [fIxD, fIx, view, atI, ixN_ok h0 h1, Option.bind_some, List.getElem?_eq_getElem hl, Option.map_some]
theorem str_len (x : Str) : x.length = x.cps.toList.length := by simp [Str.length]
theorem f_ixS {x : Str} {i : Int} {ah : AH} (hx : x.length ≤ 16777216) (h0 : 0 ≤ i) (h1 : i < x.length) : ∃ c, c ∈ x.cps.toList ∧ x.cps.toList[i.toNat]? = some c ∧ fIxD (.str x) (.int i) ah = some (.str ⟨#[c]⟩, ah) := by
  have e := str_len x
  have hl : i.toNat < x.cps.toList.length := by omega
  refine ⟨x.cps.toList[i.toNat], List.getElem_mem hl, List.getElem?_eq_getElem hl, ?_⟩
  have hi := ixN_ok (n := x.cps.toList.length) h0 (by omega)
  simp only [fIxD, fIx, view, atI, hi, Option.bind_some, List.getElem?_eq_getElem hl, Option.map_some, sizeLine_eq, hx, if_true]
theorem f_lenS {x : Str} {ah : AH} (h : x.length ≤ 16777216) : fLen [.str x] ah = some (.int x.length, ah) := by
  show (if x.length ≤ sizeLine then some (D.int x.length, ah) else none) = _
  rw [if_pos (by rw [sizeLine_eq]; exact h)]
theorem f_lenL {xs : List D} {ah : AH} : fLen [.lst xs] ah = some (.int xs.length, ah) := rfl
theorem f_lenT {xs : List D} {ah : AH} : fLen [.tup xs] ah = some (.int xs.length, ah) := rfl
theorem f_lenC {xs : List Int} {ah : AH} : fLen [.scr xs] ah = some (.int xs.length, ah) := rfl
theorem f_addS {fz : Bool} {x y : Str} {ah : AH} (h : x.length + y.length ≤ 16777216) : fAdd fz (.str x) (.str y) ah = some (.str (x ++ y), ah) := by
  show (if x.length + y.length ≤ sizeLine then some (D.str (x ++ y), ah) else none) = _
  rw [if_pos (by rw [sizeLine_eq]; exact h)]
theorem app_len (x y : Str) : (x ++ y).length = x.length + y.length := by
  show (x.cps ++ y.cps).size = _
  simp [Str.length]
theorem strs_map (cs : List Nat) : strsOf (cs.map fun c => D.str ⟨#[c]⟩) = some (cs.map fun c => ⟨#[c]⟩) := by
  induction cs with
  | nil => rfl
  | cons c cs ih => simp only [List.map_cons, strsOf, ih, Option.map_some]
theorem join_signs (cs : List Nat) : Txt.join (Str.ofString "") (cs.map fun c => (⟨#[c]⟩ : Str)) = ⟨cs.toArray⟩ := by
  have e : (cs.map fun c => (⟨#[c]⟩ : Str)) = (cs.map fun c => [c]).map SX.S := by simp [SX.S]
  have e2 : Str.ofString "" = SX.S [] := rfl
  rw [e, e2, SX.join_S]
  congr 1
  have : ∀ cs : List Nat, TL.joinL [] (cs.map fun c => [c]) = cs := fun cs => by
    induction cs with
    | nil => rfl
    | cons c cs ih =>
      cases cs with
      | nil => rfl
      | cons d r =>
        have : TL.joinL [] ((c :: d :: r).map fun c => [c]) = [c] ++ [] ++ TL.joinL [] ((d :: r).map fun c => [c]) := rfl
        rw [this, ih]; rfl
  rw [this]
theorem set_self {ah : AH} {n : Nat} {c : D} (hc : ah[n]? = some (some c)) : ah.set n (some c) = ah := by
  apply List.ext_getElem?
  intro j
  by_cases hj : n = j
  · subst hj; rw [hc, List.getElem?_set_self (List.getElem?_eq_some_iff.mp hc).1]
  · rw [List.getElem?_set_ne hj]
theorem set_get {ah : AH} {n : Nat} {c : D} (hc : ah[n]? = some (some c)) (c' : D) : (ah.set n (some c'))[n]? = some (some c') := by
  rw [List.getElem?_set_self (List.getElem?_eq_some_iff.mp hc).1]
theorem ints_len {lo : Int} {n : Nat} : (LD.intsFrom lo n).length = n := by simp [LD.intsFrom]
theorem ints_mem {lo : Int} {n : Nat} {d : D} (h : d ∈ LD.intsFrom lo n) : ∃ i : Nat, i < n ∧ d = .int (lo + i) := by
  simp only [LD.intsFrom, List.mem_map, List.mem_range] at h
  obtain ⟨i, h1, h2⟩ := h
  exact ⟨i, h1, h2.symm⟩
end LD

set_option Elab.async false
set_option linter.all false
set_option maxRecDepth 100000
set_option maxHeartbeats 4000000
namespace Hd
open PySem PySem.Spec PyProof.Rows L2
def top (i : Nat) : Stmt := PySem.Challenge.pw_mostlike_k01_names_and_numbers.main.body.getD i (.Pass ⟨0, 0, 0, 0⟩)
def d0 : He.DefD := ⟨("is_whole", none), "is_whole", "is_whole", defArgs (top 1), defBody (top 1), defScope (top 1), [], []⟩
def d1 : He.DefD := ⟨("is_within", none), "is_within", "is_within", defArgs (top 2), defBody (top 2), defScope (top 2), [], []⟩
def d2 : He.DefD := ⟨("are_signs", none), "are_signs", "are_signs", defArgs (top 3), defBody (top 3), defScope (top 3), [], []⟩
def d3 : He.DefD := ⟨("is_name", none), "is_name", "is_name", defArgs (top 4), defBody (top 4), defScope (top 4), [], []⟩
def d4 : He.DefD := ⟨("number_of", none), "number_of", "number_of", defArgs (top 5), defBody (top 5), defScope (top 5), [], []⟩
def d5 : He.DefD := ⟨("_law_cell", none), "_law_cell", "_law_cell", defArgs (top 7), defBody (top 7), defScope (top 7), [], []⟩
def d6 : He.DefD := ⟨("_law_box", none), "_law_box", "_law_box", defArgs (top 8), defBody (top 8), defScope (top 8), [], []⟩
def d7 : He.DefD := ⟨("_law_take", none), "_law_take", "_law_take", defArgs (top 9), defBody (top 9), defScope (top 9), [], []⟩
def d8 : He.DefD := ⟨("_law_signs", none), "_law_signs", "_law_signs", defArgs (top 10), defBody (top 10), defScope (top 10), [], []⟩
def d9 : He.DefD := ⟨("_law_text", none), "_law_text", "_law_text", defArgs (top 11), defBody (top 11), defScope (top 11), [], []⟩
def d10 : He.DefD := ⟨("_law_things", none), "_law_things", "_law_things", defArgs (top 12), defBody (top 12), defScope (top 12), [], []⟩
def d11 : He.DefD := ⟨("_law_is", none), "_law_is", "_law_is", defArgs (top 13), defBody (top 13), defScope (top 13), [], []⟩
def d12 : He.DefD := ⟨("_law_number", none), "_law_number", "_law_number", defArgs (top 14), defBody (top 14), defScope (top 14), [], []⟩
def d13 : He.DefD := ⟨("_law_whole", none), "_law_whole", "_law_whole", defArgs (top 15), defBody (top 15), defScope (top 15), [], []⟩
def d14 : He.DefD := ⟨("_law_same", none), "_law_same", "_law_same", defArgs (top 16), defBody (top 16), defScope (top 16), [], []⟩
def d15 : He.DefD := ⟨("_law_right", none), "_law_right", "_law_right", defArgs (top 17), defBody (top 17), defScope (top 17), [], []⟩
def d16 : He.DefD := ⟨("law", none), "law", "law", defArgs (top 18), defBody (top 18), defScope (top 18), [], []⟩
def fn : List He.DefD := [d0, d1, d2, d3, d4, d5, d6, d7, d8, d9, d10, d11, d12, d13, d14, d15, d16]
def fa : List He.Fa := [.glo "is_whole", .glo "is_within", .glo "are_signs", .glo "is_name", .glo "number_of", .glo "_law_cell", .glo "_law_box", .glo "_law_take", .glo "_law_signs", .glo "_law_text", .glo "_law_things", .glo "_law_is", .glo "_law_number", .glo "_law_whole", .glo "_law_same", .glo "_law_right", .glo "law", .free "bool", .free "enumerate", .free "int", .free "isinstance", .free "len", .free "max", .free "min", .free "range", .free "str"]
abbrev R : PySem.W.OpenRow := PySem.W.OpenLaw.row PySem.Challenge.rw_mostlike_k01_names_and_numbers
abbrev hk : PySem.W.Hook := He.hookD 6 fa fn
def ob (s : PySem.W.SharedT) : He.AlD := He.obsDG 6 fa fn (HandSHeadRun.getT s)
theorem ob_eq (s : PySem.W.SharedT) : ob s = hk.obs s.abs := He.obsDG_eq (HandSHeadRun.getT_eq s)
def lo0 : List PySem.Str := ["is_whole", "is_within", "are_signs", "is_name", "number_of", "_law_cell", "_law_box", "_law_take", "_law_signs", "_law_text", "_law_things", "_law_is", "_law_number", "_law_whole", "_law_same", "_law_right"]
def loose : List PySem.Str := lo0
theorem run (w : World) : HandSHeadRun.RunEq R (PySem.W.view R.prog [18]) hk ob 4000 loose w := by
  intro os
  kernel_rfl
end Hd
namespace LW
open PySem PySem.Spec PyProof.Rows L2 LD
section
structure NB (mg : Str → Option Value) : Prop where
  n_bool : mg "bool" = none
  n_enumerate : mg "enumerate" = none
  n_int : mg "int" = none
  n_isinstance : mg "isinstance" = none
  n_len : mg "len" = none
  n_max : mg "max" = none
  n_min : mg "min" = none
  n_range : mg "range" = none
  n_str : mg "str" = none
variable {P : Program} {w : World} {K : PySem.W.Frag} {mg : Str → Option Value} {base : Heap} {f : Addr} {fd : FuncData}
/-! is_whole -/
def m_is_whole : MS := (mRet (mAnd (mIs ["int"] (mVar 0)) (mNot (mIs ["bool"] (mVar 0)))))
def g_is_whole : Gn := runB 1 m_is_whole
theorem sc_is_whole : FnScope ["thing"] ["thing"] (defScope (Hd.top 1)) := ⟨rfl, rfl, rfl, by decide +kernel, rfl, by decide +kernel, by decide +kernel⟩
theorem ok_is_whole (N : NB mg) (F : FunD K "is_whole" "is_whole" (defArgs (Hd.top 1)) (defBody (Hd.top 1)) (defScope (Hd.top 1)) [] [] f fd) (hm : mg "is_whole" = some (.ref f))  : HasFn P w K mg base "is_whole" 1 1 g_is_whole :=
  ⟨f, hm, F.kp, fn_is F sc_is_whole (F.bindsN fun _ _ _ _ _ _ us hl => match us, hl with | [a0], _ => rfl) (fun cdv A outer s H E hr =>
    (jss_one (js_ret (je_and (je_is1 N.n_isinstance N.n_int boot_int (ha := (je_var 0))) (je_one (je_not (je_is1 N.n_isinstance N.n_bool boot_bool (ha := (je_var 0))))))))) (fun _ _ _ => RefE.refl _ _)⟩
/-! is_within -/
def m_is_within : MS := (mRet (mAnd (mCall 1 g_is_whole (aCons (mVar 0) aNil)) (mChain fLe fLe (mVar 1) (mVar 0) (mVar 2))))
def g_is_within : Gn := runB 3 m_is_within
theorem sc_is_within : FnScope ["thing", "low", "high"] ["thing", "low", "high"] (defScope (Hd.top 2)) := ⟨rfl, rfl, rfl, by decide +kernel, rfl, by decide +kernel, by decide +kernel⟩
theorem ok_is_within (N : NB mg) (F : FunD K "is_within" "is_within" (defArgs (Hd.top 2)) (defBody (Hd.top 2)) (defScope (Hd.top 2)) [] [] f fd) (hm : mg "is_within" = some (.ref f)) (h_is_whole : HasFn P w K mg base "is_whole" 1 1 g_is_whole) : HasFn P w K mg base "is_within" 3 2 g_is_within :=
  ⟨f, hm, F.kp, fn_is F sc_is_within (F.bindsN fun _ _ _ _ _ _ us hl => match us, hl with | [a0, a1, a2], _ => rfl) (fun cdv A outer s H E hr =>
    (jss_one (js_ret (je_and (je_call h_is_whole hr (by decide) (takes_of rfl rfl rfl rfl) (ja_cons (je_var 0) ja_nil)) (je_one (je_chain o_le d_ord o_le d_ord (je_var 1) (je_var 0) (je_var 2))))))) (fun _ _ _ => RefE.refl _ _)⟩
/-! are_signs -/
def m_are_signs : MS := (mSeq (mFor (iAny (mVar 0)) (tgName 2) (mIfS (mOp (fInA true) (mVar 2) (mVar 1)) (mRet (mC (.bl false))) .nx)) (mRet (mC (.bl true))))
def g_are_signs : Gn := runB 3 m_are_signs
theorem sc_are_signs : FnScope ["text", "signs", "sign"] ["text", "signs"] (defScope (Hd.top 3)) := ⟨rfl, rfl, rfl, by decide +kernel, rfl, by decide +kernel, by decide +kernel⟩
theorem ok_are_signs (N : NB mg) (F : FunD K "are_signs" "are_signs" (defArgs (Hd.top 3)) (defBody (Hd.top 3)) (defScope (Hd.top 3)) [] [] f fd) (hm : mg "are_signs" = some (.ref f))  : HasFn P w K mg base "are_signs" 2 1 g_are_signs :=
  ⟨f, hm, F.kp, fn_is F sc_are_signs (F.bindsN fun _ _ _ _ _ _ us hl => match us, hl with | [a0, a1], _ => rfl) (fun cdv A outer s H E hr =>
    (jss_cons (js_for (passes_of rfl) rfl (ji_any (je_var 0)) (jg_name 2 sc_are_signs.nd) (jss_one (js_if (jt_notinA (hr.unitsB) (je_var 2) (je_var 1)) (jss_one (js_ret je_bl)) jss_nil))) (jss_one (js_ret je_bl)))) (fun _ _ _ => RefE.refl _ _)⟩
/-! is_name -/
def m_is_name : MS := (mSeq (mIfS (mOr (mNot (mIs ["str"] (mVar 0))) (mOr (mNot (mChain fLe fLe (mC (.int 1)) (mBi fLen (aCons (mVar 0) aNil)) (mC (.int 8)))) (mNot (mChain fLe fLe (mC (.str "a")) (mOp fIxD (mVar 0) (mC (.int 0))) (mC (.str "z")))))) (mRet (mC (.bl false))) .nx) (mRet (mCall 2 g_are_signs (aCons (mVar 0) (aCons (mC (.str "abcdefghijklmnopqrstuvwxyz0123456789")) aNil)))))
def g_is_name : Gn := runB 1 m_is_name
theorem sc_is_name : FnScope ["thing"] ["thing"] (defScope (Hd.top 4)) := ⟨rfl, rfl, rfl, by decide +kernel, rfl, by decide +kernel, by decide +kernel⟩
theorem ok_is_name (N : NB mg) (F : FunD K "is_name" "is_name" (defArgs (Hd.top 4)) (defBody (Hd.top 4)) (defScope (Hd.top 4)) [] [] f fd) (hm : mg "is_name" = some (.ref f)) (h_are_signs : HasFn P w K mg base "are_signs" 2 1 g_are_signs) : HasFn P w K mg base "is_name" 1 2 g_is_name :=
  ⟨f, hm, F.kp, fn_is F sc_is_name (F.bindsN fun _ _ _ _ _ _ us hl => match us, hl with | [a0], _ => rfl) (fun cdv A outer s H E hr =>
    (jss_cons (js_if (jt_w (jw_or (jt_not (jt_val (je_is1 N.n_isinstance N.n_str boot_str (ha := (je_var 0))))) (jw_or (jt_not (jt_chain o_le d_ord o_le d_ord je_int (je_bi c_len d_len' N.n_len boot_len (ja_cons (je_var 0) ja_nil)) je_int)) (jw_or1 (jt_not (jt_chain o_le d_ord o_le d_ord (je_str) (je_ixA (hr.unitsC) (je_var 0) je_int) (je_str))))))) (jss_one (js_ret je_bl)) jss_nil) (jss_one (js_ret (je_call h_are_signs hr (by decide) (takes_of rfl rfl rfl rfl) (ja_cons (je_var 0) (ja_cons (je_str) ja_nil))))))) (fun _ _ _ => RefE.refl _ _)⟩
/-! number_of -/
def m_number_of : MS := (mSeq (mIfS (mOr (mNot (mIs ["str"] (mVar 0))) (mOr (mNot (mChain fLe fLe (mC (.int 1)) (mBi fLen (aCons (mVar 0) aNil)) (mC (.int 4)))) (mNot (mCall 2 g_are_signs (aCons (mVar 0) (aCons (mC (.str "0123456789")) aNil)))))) (mRet (mC .non)) .nx) (mSeq (mIfS (mAnd (mOp fEq (mOp fIxD (mVar 0) (mC (.int 0))) (mC (.str "0"))) (mOp fGt (mBi fLen (aCons (mVar 0) aNil)) (mC (.int 1)))) (mRet (mC .non)) .nx) (mRet (mBi fInt (aCons (mVar 0) aNil)))))
def g_number_of : Gn := runB 1 m_number_of
theorem sc_number_of : FnScope ["thing"] ["thing"] (defScope (Hd.top 5)) := ⟨rfl, rfl, rfl, by decide +kernel, rfl, by decide +kernel, by decide +kernel⟩
theorem ok_number_of (N : NB mg) (F : FunD K "number_of" "number_of" (defArgs (Hd.top 5)) (defBody (Hd.top 5)) (defScope (Hd.top 5)) [] [] f fd) (hm : mg "number_of" = some (.ref f)) (h_are_signs : HasFn P w K mg base "are_signs" 2 1 g_are_signs) : HasFn P w K mg base "number_of" 1 2 g_number_of :=
  ⟨f, hm, F.kp, fn_is F sc_number_of (F.bindsN fun _ _ _ _ _ _ us hl => match us, hl with | [a0], _ => rfl) (fun cdv A outer s H E hr =>
    (jss_cons (js_if (jt_w (jw_or (jt_not (jt_val (je_is1 N.n_isinstance N.n_str boot_str (ha := (je_var 0))))) (jw_or (jt_not (jt_chain o_le d_ord o_le d_ord je_int (je_bi c_len d_len' N.n_len boot_len (ja_cons (je_var 0) ja_nil)) je_int)) (jw_or1 (jt_not (jt_val (je_call h_are_signs hr (by decide) (takes_of rfl rfl rfl rfl) (ja_cons (je_var 0) (ja_cons (je_str) ja_nil))))))))) (jss_one (js_ret je_non)) jss_nil) (jss_cons (js_if (jt_w (jw_and (jt_cmp (op_eqD (hr.unitsA)) d_eq (je_ixA (hr.unitsC) (je_var 0) je_int) (je_str)) (jw_and1 (jt_cmp o_gt d_ord (je_bi c_len d_len' N.n_len boot_len (ja_cons (je_var 0) ja_nil)) je_int)))) (jss_one (js_ret je_non)) jss_nil) (jss_one (js_ret (je_ty c_int d_int N.n_int boot_int (ja_cons (je_var 0) ja_nil))))))) (fun _ _ _ => RefE.refl _ _)⟩
/-! _law_cell -/
def m__law_cell : MS := (mSeq (mIfS (mOp fLt (mVar 1) (mBi fLen (aCons (mVar 0) aNil))) (mRet (mOp fIxD (mVar 0) (mVar 1))) .nx) (mSeq (mIfS (mOp fEq (mBi fLen (aCons (mVar 0) aNil)) (mC (.int 0))) (mRet (mOp (fAdd true) (mOp fMulI (mC (.int 48271)) (mVar 1)) (mC (.int 7)))) .nx) (mRet (mOp (fAdd true) (mOp fDiv (mOp fIxD (mVar 0) (mOp fMod (mVar 1) (mBi fLen (aCons (mVar 0) aNil)))) (mOp (fAdd true) (mVar 1) (mC (.int 1)))) (mOp fMulI (mC (.int 7919)) (mVar 1))))))
def g__law_cell : Gn := runB 2 m__law_cell
theorem sc__law_cell : FnScope ["_law_script", "_law_k"] ["_law_script", "_law_k"] (defScope (Hd.top 7)) := ⟨rfl, rfl, rfl, by decide +kernel, rfl, by decide +kernel, by decide +kernel⟩
theorem ok__law_cell (N : NB mg) (F : FunD K "_law_cell" "_law_cell" (defArgs (Hd.top 7)) (defBody (Hd.top 7)) (defScope (Hd.top 7)) [] [] f fd) (hm : mg "_law_cell" = some (.ref f))  : HasFn P w K mg base "_law_cell" 2 1 g__law_cell :=
  ⟨f, hm, F.kp, fn_is F sc__law_cell (F.bindsN fun _ _ _ _ _ _ us hl => match us, hl with | [a0, a1], _ => rfl) (fun cdv A outer s H E hr =>
    (jss_cons (js_if (jt_cmp o_lt d_ord (je_var 1) (je_bi c_len d_len' N.n_len boot_len (ja_cons (je_var 0) ja_nil))) (jss_one (js_ret (je_ixA (hr.unitsC) (je_var 0) (je_var 1)))) jss_nil) (jss_cons (js_if (jt_cmp (op_eqD (hr.unitsA)) d_eq (je_bi c_len d_len' N.n_len boot_len (ja_cons (je_var 0) ja_nil)) je_int) (jss_one (js_ret (je_op o_add (d_add true) (je_op op_mulW d_mulI je_int (je_var 1)) je_int))) jss_nil) (jss_one (js_ret (je_op o_add (d_add true) (je_op op_fdivW d_div (je_ixA (hr.unitsC) (je_var 0) (je_op op_mod d_mod (je_var 1) (je_bi c_len d_len' N.n_len boot_len (ja_cons (je_var 0) ja_nil)))) (je_op o_add (d_add true) (je_var 1) je_int)) (je_op op_mulW d_mulI je_int (je_var 1)))))))) (fun _ _ _ => RefE.refl _ _)⟩
/-! _law_box -/
def m__law_box : MS := (mRet (mLst false (aCons (mBi fMax2 (aCons (mC (.int 0)) (aCons (mOp fSub (mVar 0) (mOp fPow (mC (.int 10)) (mC (.int 18)))) aNil))) (aCons (mOp fMod (mVar 0) (mC (.int 2147483647))) (aCons (mC (.int 0)) aNil)))))
def g__law_box : Gn := runB 1 m__law_box
theorem sc__law_box : FnScope ["_law_cell_here"] ["_law_cell_here"] (defScope (Hd.top 8)) := ⟨rfl, rfl, rfl, by decide +kernel, rfl, by decide +kernel, by decide +kernel⟩
theorem ok__law_box (N : NB mg) (F : FunD K "_law_box" "_law_box" (defArgs (Hd.top 8)) (defBody (Hd.top 8)) (defScope (Hd.top 8)) [] [] f fd) (hm : mg "_law_box" = some (.ref f))  : HasFn P w K mg base "_law_box" 1 1 g__law_box :=
  ⟨f, hm, F.kp, fn_is F sc__law_box (F.bindsN fun _ _ _ _ _ _ us hl => match us, hl with | [a0], _ => rfl) (fun cdv A outer s H E hr =>
    (jss_one (js_ret (je_lst false (ja_cons (je_bi (call_max2 rfl) d_max2 N.n_max boot_max (ja_cons je_int (ja_cons (je_op op_sub d_sub (je_var 0) (je_op op_pow d_pow je_int je_int)) ja_nil))) (ja_cons (je_op op_mod d_mod (je_var 0) je_int) (ja_cons je_int ja_nil))))))) (fun _ _ _ => RefE.refl _ _)⟩
/-! _law_take -/
def m__law_take : MS := (mSeq (mIfS (mOp fGt (mOp fIxD (mVar 0) (mC (.int 0))) (mC (.int 0))) (mSeq (mAsg (mOp fMod (mOp fIxD (mVar 0) (mC (.int 0))) (mVar 1)) (tgName 3)) (mSeq (mSetA (mOp fDiv (mOp fIxD (mVar 0) (mC (.int 0))) (mVar 1)) (mVar 0) (mC (.int 0))) (mRet (mVar 3)))) .nx) (mSeq (mSetA (mOp (fAdd true) (mOp fIxD (mVar 0) (mC (.int 2))) (mC (.int 1))) (mVar 0) (mC (.int 2))) (mSeq (mAsg (mOp fMod (mOp (fAdd true) (mOp (fAdd true) (mOp fMulI (mOp fIxD (mVar 0) (mC (.int 1))) (mC (.int 48271))) (mOp fMulI (mC (.int 7919)) (mOp fIxD (mVar 0) (mC (.int 2))))) (mC (.int 11))) (mC (.int 2147483629))) (tgName 2)) (mSeq (mAsg (mOp fMod (mOp fMulI (mOp fMod (mOp fMulI (mVar 2) (mVar 2)) (mC (.int 2147483587))) (mC (.int 69621))) (mC (.int 2147483647))) (tgName 2)) (mRet (mOp fMod (mOp fDiv (mOp fMod (mOp fMulI (mVar 2) (mVar 2)) (mC (.int 2147483629))) (mC (.int 8))) (mVar 1)))))))
def g__law_take : Gn := runB 4 m__law_take
theorem sc__law_take : FnScope ["_law_box_here", "_law_many", "_law_number_here", "_law_digit"] ["_law_box_here", "_law_many"] (defScope (Hd.top 9)) := ⟨rfl, rfl, rfl, by decide +kernel, rfl, by decide +kernel, by decide +kernel⟩
theorem ok__law_take (N : NB mg) (F : FunD K "_law_take" "_law_take" (defArgs (Hd.top 9)) (defBody (Hd.top 9)) (defScope (Hd.top 9)) [] [] f fd) (hm : mg "_law_take" = some (.ref f))  : HasFn P w K mg base "_law_take" 2 1 g__law_take :=
  ⟨f, hm, F.kp, fn_is F sc__law_take (F.bindsN fun _ _ _ _ _ _ us hl => match us, hl with | [a0, a1], _ => rfl) (fun cdv A outer s H E hr =>
    (jss_cons (js_if (jt_cmp o_gt d_ord (je_ixA (hr.unitsC) (je_var 0) je_int) je_int) (jss_cons (js_set 3 sc__law_take.nd (je_op op_mod d_mod (je_ixA (hr.unitsC) (je_var 0) je_int) (je_var 1))) (jss_cons (js_setA (hr.unitsC) (je_op op_fdivW d_div (je_ixA (hr.unitsC) (je_var 0) je_int) (je_var 1)) (je_var 0) je_int) (jss_one (js_ret (je_var 3))))) jss_nil) (jss_cons (js_setA (hr.unitsC) (je_op o_add (d_add true) (je_ixA (hr.unitsC) (je_var 0) je_int) je_int) (je_var 0) je_int) (jss_cons (js_set 2 sc__law_take.nd (je_op op_mod d_mod (je_op o_add (d_add true) (je_op o_add (d_add true) (je_op op_mulW d_mulI (je_ixA (hr.unitsC) (je_var 0) je_int) je_int) (je_op op_mulW d_mulI je_int (je_ixA (hr.unitsC) (je_var 0) je_int))) je_int) je_int)) (jss_cons (js_set 2 sc__law_take.nd (je_op op_mod d_mod (je_op op_mulW d_mulI (je_op op_mod d_mod (je_op op_mulW d_mulI (je_var 2) (je_var 2)) je_int) je_int) je_int)) (jss_one (js_ret (je_op op_mod d_mod (je_op op_fdivW d_div (je_op op_mod d_mod (je_op op_mulW d_mulI (je_var 2) (je_var 2)) je_int) je_int) (je_var 1))))))))) (fun _ _ _ => RefE.refl _ _)⟩
/-! _law_signs -/
def m__law_signs : MS := (mRet (mBm "str" fJoin (mC (.str "")) (aCons (mLc true (iRange1 (aCons (mVar 2) aNil)) (tgName 3) mYes (mOp fIxD (mVar 1) (mCall 2 g__law_take (aCons (mVar 0) (aCons (mBi fLen (aCons (mVar 1) aNil)) aNil)))) [3]) aNil)))
def g__law_signs : Gn := runB 4 m__law_signs
theorem sc__law_signs : FnScope ["_law_box_here", "_law_signs_here", "_law_many", "_law_k"] ["_law_box_here", "_law_signs_here", "_law_many"] (defScope (Hd.top 10)) := ⟨rfl, rfl, rfl, by decide +kernel, rfl, by decide +kernel, by decide +kernel⟩
theorem ok__law_signs (N : NB mg) (F : FunD K "_law_signs" "_law_signs" (defArgs (Hd.top 10)) (defBody (Hd.top 10)) (defScope (Hd.top 10)) [] [] f fd) (hm : mg "_law_signs" = some (.ref f)) (h__law_take : HasFn P w K mg base "_law_take" 2 1 g__law_take) : HasFn P w K mg base "_law_signs" 3 2 g__law_signs :=
  ⟨f, hm, F.kp, fn_is F sc__law_signs (F.bindsN fun _ _ _ _ _ _ us hl => match us, hl with | [a0, a1, a2], _ => rfl) (fun cdv A outer s H E hr =>
    (jss_one (js_ret (je_bm PySem.F.plainAttrs_str PySem.F.slot_str_join PySem.F.type_str_join mt_join m_join (je_str) (ja_cons (je_lc (own := [("_law_k", 3)]) true rfl sc__law_signs.nd (ji_range1 rfl N.n_range (ja_cons (je_var 2) ja_nil)) (show BlkOk ["_law_box_here", "_law_signs_here", "_law_many", "_law_k"] (defScope (Hd.top 10)) _ [("_law_k", 3)] from ⟨rfl, by decide +kernel, by decide +kernel, by decide +kernel, by decide +kernel⟩) (fun _ _ _ _ _ => (jg_name 3 sc__law_signs.nd)) (fun _ _ _ _ _ => jts_nil) (fun _ _ _ _ _ => (je_ixA (hr.unitsC) (je_var 1) (je_call h__law_take hr (by decide) (takes_blk) (ja_cons (je_var 0) (ja_cons (je_bi c_len d_len' N.n_len boot_len (ja_cons (je_var 1) ja_nil)) ja_nil)))))) ja_nil))))) (fun _ _ _ => RefE.refl _ _)⟩
/-! _law_text -/
def m__law_text : MS := (mSeq (mAsg (mCall 2 g__law_take (aCons (mVar 0) (aCons (mC (.int 4)) aNil))) (tgName 1)) (mSeq (mIfS (mOp fEq (mVar 1) (mC (.int 0))) (mRet (mCall 3 g__law_signs (aCons (mVar 0) (aCons (mC (.str "abz019AZ.= _-/:`{~\n!")) (aCons (mCall 2 g__law_take (aCons (mVar 0) (aCons (mC (.int 11)) aNil))) aNil))))) .nx) (mSeq (mIfS (mOp fEq (mVar 1) (mC (.int 1))) (mRet (mOp (fAdd true) (mOp fIxD (mLst true (aCons (mC (.str "")) (aCons (mC (.str "-")) (aCons (mC (.str " ")) (aCons (mC (.str "0")) (aCons (mC (.str "00")) (aCons (mC (.str "1")) aNil))))))) (mCall 2 g__law_take (aCons (mVar 0) (aCons (mC (.int 6)) aNil)))) (mCall 3 g__law_signs (aCons (mVar 0) (aCons (mC (.str "0123456789")) (aCons (mCall 2 g__law_take (aCons (mVar 0) (aCons (mC (.int 7)) aNil))) aNil)))))) .nx) (mSeq (mAsg (mOp (fAdd true) (mCall 3 g__law_signs (aCons (mVar 0) (aCons (mC (.str "abyz")) (aCons (mC (.int 1)) aNil)))) (mCall 3 g__law_signs (aCons (mVar 0) (aCons (mC (.str "azm059")) (aCons (mCall 2 g__law_take (aCons (mVar 0) (aCons (mC (.int 9)) aNil))) aNil))))) (tgName 2)) (mSeq (mIfS (mOp fEq (mVar 1) (mC (.int 2))) (mRet (mVar 2)) .nx) (mSeq (mAsg (mCall 2 g__law_take (aCons (mVar 0) (aCons (mBi fLen (aCons (mVar 2) aNil)) aNil))) (tgName 3)) (mRet (mOp (fAdd true) (mOp (fAdd true) (mSl true (mVar 2) none (some (mVar 3))) (mOp fIxD (mLst true (aCons (mC (.str "A")) (aCons (mC (.str ".")) (aCons (mC (.str "0")) (aCons (mC (.str " ")) (aCons (mC (.str "_")) (aCons (mC (.str "\n")) (aCons (mC (.str "")) (aCons (mC (.str "a")) aNil))))))))) (mCall 2 g__law_take (aCons (mVar 0) (aCons (mC (.int 8)) aNil))))) (mSl true (mVar 2) (some (mOp (fAdd true) (mVar 3) (mC (.int 1)))) none)))))))))
def g__law_text : Gn := runB 4 m__law_text
theorem sc__law_text : FnScope ["_law_box_here", "_law_way", "_law_good", "_law_at"] ["_law_box_here"] (defScope (Hd.top 11)) := ⟨rfl, rfl, rfl, by decide +kernel, rfl, by decide +kernel, by decide +kernel⟩
theorem ok__law_text (N : NB mg) (F : FunD K "_law_text" "_law_text" (defArgs (Hd.top 11)) (defBody (Hd.top 11)) (defScope (Hd.top 11)) [] [] f fd) (hm : mg "_law_text" = some (.ref f)) (h__law_signs : HasFn P w K mg base "_law_signs" 3 2 g__law_signs) (h__law_take : HasFn P w K mg base "_law_take" 2 1 g__law_take) : HasFn P w K mg base "_law_text" 1 3 g__law_text :=
  ⟨f, hm, F.kp, fn_is F sc__law_text (F.bindsN fun _ _ _ _ _ _ us hl => match us, hl with | [a0], _ => rfl) (fun cdv A outer s H E hr =>
    (jss_cons (js_set 1 sc__law_text.nd (je_call h__law_take hr (by decide) (takes_of rfl rfl rfl rfl) (ja_cons (je_var 0) (ja_cons je_int ja_nil)))) (jss_cons (js_if (jt_cmp (op_eqD (hr.unitsA)) d_eq (je_var 1) je_int) (jss_one (js_ret (je_call h__law_signs hr (by decide) (takes_of rfl rfl rfl rfl) (ja_cons (je_var 0) (ja_cons (je_str) (ja_cons (je_call h__law_take hr (by decide) (takes_of rfl rfl rfl rfl) (ja_cons (je_var 0) (ja_cons je_int ja_nil))) ja_nil)))))) jss_nil) (jss_cons (js_if (jt_cmp (op_eqD (hr.unitsA)) d_eq (je_var 1) je_int) (jss_one (js_ret (je_op o_add (d_add true) (je_ixA (hr.unitsC) (je_lst true (ja_cons (je_str) (ja_cons (je_str) (ja_cons (je_str) (ja_cons (je_str) (ja_cons (je_str) (ja_cons (je_str) ja_nil))))))) (je_call h__law_take hr (by decide) (takes_of rfl rfl rfl rfl) (ja_cons (je_var 0) (ja_cons je_int ja_nil)))) (je_call h__law_signs hr (by decide) (takes_of rfl rfl rfl rfl) (ja_cons (je_var 0) (ja_cons (je_str) (ja_cons (je_call h__law_take hr (by decide) (takes_of rfl rfl rfl rfl) (ja_cons (je_var 0) (ja_cons je_int ja_nil))) ja_nil))))))) jss_nil) (jss_cons (js_set 2 sc__law_text.nd (je_op o_add (d_add true) (je_call h__law_signs hr (by decide) (takes_of rfl rfl rfl rfl) (ja_cons (je_var 0) (ja_cons (je_str) (ja_cons je_int ja_nil)))) (je_call h__law_signs hr (by decide) (takes_of rfl rfl rfl rfl) (ja_cons (je_var 0) (ja_cons (je_str) (ja_cons (je_call h__law_take hr (by decide) (takes_of rfl rfl rfl rfl) (ja_cons (je_var 0) (ja_cons je_int ja_nil))) ja_nil)))))) (jss_cons (js_if (jt_cmp (op_eqD (hr.unitsA)) d_eq (je_var 1) je_int) (jss_one (js_ret (je_var 2))) jss_nil) (jss_cons (js_set 3 sc__law_text.nd (je_call h__law_take hr (by decide) (takes_of rfl rfl rfl rfl) (ja_cons (je_var 0) (ja_cons (je_bi c_len d_len' N.n_len boot_len (ja_cons (je_var 2) ja_nil)) ja_nil)))) (jss_one (js_ret (je_op o_add (d_add true) (je_op o_add (d_add true) (je_sl true (je_var 2) jo_none (jo_some (je_var 3))) (je_ixA (hr.unitsC) (je_lst true (ja_cons (je_str) (ja_cons (je_str) (ja_cons (je_str) (ja_cons (je_str) (ja_cons (je_str) (ja_cons (je_str) (ja_cons (je_str) (ja_cons (je_str) ja_nil))))))))) (je_call h__law_take hr (by decide) (takes_of rfl rfl rfl rfl) (ja_cons (je_var 0) (ja_cons je_int ja_nil))))) (je_sl true (je_var 2) (jo_some (je_op o_add (d_add true) (je_var 3) je_int)) jo_none))))))))))) (fun _ _ _ => RefE.refl _ _)⟩
/-! _law_things -/
def m__law_things : MS := (mSeq (mAsg (mOp fSub (mCall 2 g__law_take (aCons (mVar 0) (aCons (mOp fSub (mOp fMulI (mC (.int 2)) (mOp fPow (mC (.int 10)) (mC (.int 30)))) (mC (.int 1))) aNil))) (mOp fSub (mOp fPow (mC (.int 10)) (mC (.int 30))) (mC (.int 1)))) (tgName 2)) (mSeq (mAsg (mOp fSub (mCall 2 g__law_take (aCons (mVar 0) (aCons (mC (.int 24)) aNil))) (mC (.int 12))) (tgName 3)) (mRet (mLst true (aCons (mVar 1) (aCons (mVar 2) (aCons (mVar 3) (aCons (mC (.bl true)) (aCons (mC (.bl false)) (aCons (mC .non) (aCons (mLst true (aCons (mVar 1) aNil)) (aCons (mTup (aCons (mVar 1) aNil)) (aCons (mDict true [((mVar 1), (mVar 3))]) (aCons (mLst true aNil) (aCons (mBi fStr (aCons (mVar 3) aNil)) aNil)))))))))))))))
def g__law_things : Gn := runB 4 m__law_things
theorem sc__law_things : FnScope ["_law_box_here", "_law_text_here", "_law_number_here", "_law_small"] ["_law_box_here", "_law_text_here"] (defScope (Hd.top 12)) := ⟨rfl, rfl, rfl, by decide +kernel, rfl, by decide +kernel, by decide +kernel⟩
theorem ok__law_things (N : NB mg) (F : FunD K "_law_things" "_law_things" (defArgs (Hd.top 12)) (defBody (Hd.top 12)) (defScope (Hd.top 12)) [] [] f fd) (hm : mg "_law_things" = some (.ref f)) (h__law_take : HasFn P w K mg base "_law_take" 2 1 g__law_take) : HasFn P w K mg base "_law_things" 2 2 g__law_things :=
  ⟨f, hm, F.kp, fn_is F sc__law_things (F.bindsN fun _ _ _ _ _ _ us hl => match us, hl with | [a0, a1], _ => rfl) (fun cdv A outer s H E hr =>
    (jss_cons (js_set 2 sc__law_things.nd (je_op op_sub d_sub (je_call h__law_take hr (by decide) (takes_of rfl rfl rfl rfl) (ja_cons (je_var 0) (ja_cons (je_op op_sub d_sub (je_op op_mulW d_mulI je_int (je_op op_pow d_pow je_int je_int)) je_int) ja_nil))) (je_op op_sub d_sub (je_op op_pow d_pow je_int je_int) je_int))) (jss_cons (js_set 3 sc__law_things.nd (je_op op_sub d_sub (je_call h__law_take hr (by decide) (takes_of rfl rfl rfl rfl) (ja_cons (je_var 0) (ja_cons je_int ja_nil))) je_int)) (jss_one (js_ret (je_lst true (ja_cons (je_var 1) (ja_cons (je_var 2) (ja_cons (je_var 3) (ja_cons je_bl (ja_cons je_bl (ja_cons je_non (ja_cons (je_lst true (ja_cons (je_var 1) ja_nil)) (ja_cons (je_tup (ja_cons (je_var 1) ja_nil)) (ja_cons (je_disp true (jps_cons (je_var 1) (je_var 3) jps_nil)) (ja_cons (je_lst true ja_nil) (ja_cons (je_ty c_str d_str N.n_str boot_str (ja_cons (je_var 3) ja_nil)) ja_nil))))))))))))))))) (fun _ _ _ => RefE.refl _ _)⟩
/-! _law_is -/
def m__law_is : MS := (mSeq (mIfS (mOr (mNot (mIs ["str"] (mVar 0))) (mOr (mOp fLt (mBi fLen (aCons (mVar 0) aNil)) (mC (.int 1))) (mOp fGt (mBi fLen (aCons (mVar 0) aNil)) (mC (.int 8))))) (mRet (mC (.bl false))) .nx) (mSeq (mFor (iEnumA (aCons (mVar 0) aNil)) (tgTup 2 (tgCons (tgName 1) (tgCons (tgName 2) tgNil))) (mSeq (mIfS (mOp (fInA false) (mVar 2) (mC (.str "abcdefghijklmnopqrstuvwxyz"))) .cnt .nx) (mIfS (mOr (mOp fEq (mVar 1) (mC (.int 0))) (mOp (fInA true) (mVar 2) (mC (.str "0123456789")))) (mRet (mC (.bl false))) .nx))) (mRet (mC (.bl true)))))
def g__law_is : Gn := runB 3 m__law_is
theorem sc__law_is : FnScope ["_law_thing", "_law_k", "_law_sign"] ["_law_thing"] (defScope (Hd.top 13)) := ⟨rfl, rfl, rfl, by decide +kernel, rfl, by decide +kernel, by decide +kernel⟩
theorem ok__law_is (N : NB mg) (F : FunD K "_law_is" "_law_is" (defArgs (Hd.top 13)) (defBody (Hd.top 13)) (defScope (Hd.top 13)) [] [] f fd) (hm : mg "_law_is" = some (.ref f))  : HasFn P w K mg base "_law_is" 1 1 g__law_is :=
  ⟨f, hm, F.kp, fn_is F sc__law_is (F.bindsN fun _ _ _ _ _ _ us hl => match us, hl with | [a0], _ => rfl) (fun cdv A outer s H E hr =>
    (jss_cons (js_if (jt_w (jw_or (jt_not (jt_val (je_is1 N.n_isinstance N.n_str boot_str (ha := (je_var 0))))) (jw_or (jt_cmp o_lt d_ord (je_bi c_len d_len' N.n_len boot_len (ja_cons (je_var 0) ja_nil)) je_int) (jw_or1 (jt_cmp o_gt d_ord (je_bi c_len d_len' N.n_len boot_len (ja_cons (je_var 0) ja_nil)) je_int))))) (jss_one (js_ret je_bl)) jss_nil) (jss_cons (js_for (passes_of rfl) rfl (ji_enumA rfl N.n_enumerate (ja_cons (je_var 0) ja_nil)) (jg_tup rfl (jgs_cons (jg_name 1 sc__law_is.nd) (jgs_cons (jg_name 2 sc__law_is.nd) jgs_nil))) (jss_cons (js_if (jt_inA (hr.unitsB) (je_var 2) (je_str)) (jss_one js_continue) jss_nil) (jss_one (js_if (jt_w (jw_or (jt_cmp (op_eqD (hr.unitsA)) d_eq (je_var 1) je_int) (jw_or1 (jt_notinA (hr.unitsB) (je_var 2) (je_str))))) (jss_one (js_ret je_bl)) jss_nil)))) (jss_one (js_ret je_bl))))) (fun _ _ _ => RefE.refl _ _)⟩
/-! _law_number -/
def m__law_number : MS := (mSeq (mIfS (mOr (mNot (mIs ["str"] (mVar 0))) (mOr (mOp fLt (mBi fLen (aCons (mVar 0) aNil)) (mC (.int 1))) (mOp fGt (mBi fLen (aCons (mVar 0) aNil)) (mC (.int 4))))) (mRet (mC .non)) .nx) (mSeq (mAsg (mC (.int 0)) (tgName 1)) (mSeq (mFor (iAny (mVar 0)) (tgName 2) (mSeq (mIfS (mOp (fInA true) (mVar 2) (mTup (aCons (mC (.str "0")) (aCons (mC (.str "1")) (aCons (mC (.str "2")) (aCons (mC (.str "3")) (aCons (mC (.str "4")) (aCons (mC (.str "5")) (aCons (mC (.str "6")) (aCons (mC (.str "7")) (aCons (mC (.str "8")) (aCons (mC (.str "9")) aNil)))))))))))) (mRet (mC .non)) .nx) (mAsg (mOp (fAdd true) (mOp fMulI (mVar 1) (mC (.int 10))) (mBm "str" fFind (mC (.str "0123456789")) (aCons (mVar 2) aNil))) (tgName 1)))) (mSeq (mIfS (mAnd (mOp fEq (mOp fIxD (mVar 0) (mC (.int 0))) (mC (.str "0"))) (mOp fGt (mBi fLen (aCons (mVar 0) aNil)) (mC (.int 1)))) (mRet (mC .non)) .nx) (mRet (mVar 1))))))
def g__law_number : Gn := runB 3 m__law_number
theorem sc__law_number : FnScope ["_law_thing", "_law_total", "_law_sign"] ["_law_thing"] (defScope (Hd.top 14)) := ⟨rfl, rfl, rfl, by decide +kernel, rfl, by decide +kernel, by decide +kernel⟩
theorem ok__law_number (N : NB mg) (F : FunD K "_law_number" "_law_number" (defArgs (Hd.top 14)) (defBody (Hd.top 14)) (defScope (Hd.top 14)) [] [] f fd) (hm : mg "_law_number" = some (.ref f))  : HasFn P w K mg base "_law_number" 1 1 g__law_number :=
  ⟨f, hm, F.kp, fn_is F sc__law_number (F.bindsN fun _ _ _ _ _ _ us hl => match us, hl with | [a0], _ => rfl) (fun cdv A outer s H E hr =>
    (jss_cons (js_if (jt_w (jw_or (jt_not (jt_val (je_is1 N.n_isinstance N.n_str boot_str (ha := (je_var 0))))) (jw_or (jt_cmp o_lt d_ord (je_bi c_len d_len' N.n_len boot_len (ja_cons (je_var 0) ja_nil)) je_int) (jw_or1 (jt_cmp o_gt d_ord (je_bi c_len d_len' N.n_len boot_len (ja_cons (je_var 0) ja_nil)) je_int))))) (jss_one (js_ret je_non)) jss_nil) (jss_cons (js_set 1 sc__law_number.nd je_int) (jss_cons (js_for (passes_of rfl) rfl (ji_any (je_var 0)) (jg_name 2 sc__law_number.nd) (jss_cons (js_if (jt_notinA (hr.unitsB) (je_var 2) (je_tup (ja_cons (je_str) (ja_cons (je_str) (ja_cons (je_str) (ja_cons (je_str) (ja_cons (je_str) (ja_cons (je_str) (ja_cons (je_str) (ja_cons (je_str) (ja_cons (je_str) (ja_cons (je_str) ja_nil)))))))))))) (jss_one (js_ret je_non)) jss_nil) (jss_one (js_set 1 sc__law_number.nd (je_op o_add (d_add true) (je_op op_mulW d_mulI (je_var 1) je_int) (je_bm PySem.F.plainAttrs_str PySem.F.slot_str_find PySem.F.type_str_find mt_find m_find (je_str) (ja_cons (je_var 2) ja_nil))))))) (jss_cons (js_if (jt_w (jw_and (jt_cmp (op_eqD (hr.unitsA)) d_eq (je_ixA (hr.unitsC) (je_var 0) je_int) (je_str)) (jw_and1 (jt_cmp o_gt d_ord (je_bi c_len d_len' N.n_len boot_len (ja_cons (je_var 0) ja_nil)) je_int)))) (jss_one (js_ret je_non)) jss_nil) (jss_one (js_ret (je_var 1)))))))) (fun _ _ _ => RefE.refl _ _)⟩
/-! _law_whole -/
def m__law_whole : MS := (mRet (mAnd (mIs ["int"] (mVar 0)) (mNot (mIs ["bool"] (mVar 0)))))
def g__law_whole : Gn := runB 1 m__law_whole
theorem sc__law_whole : FnScope ["_law_found"] ["_law_found"] (defScope (Hd.top 15)) := ⟨rfl, rfl, rfl, by decide +kernel, rfl, by decide +kernel, by decide +kernel⟩
theorem ok__law_whole (N : NB mg) (F : FunD K "_law_whole" "_law_whole" (defArgs (Hd.top 15)) (defBody (Hd.top 15)) (defScope (Hd.top 15)) [] [] f fd) (hm : mg "_law_whole" = some (.ref f))  : HasFn P w K mg base "_law_whole" 1 1 g__law_whole :=
  ⟨f, hm, F.kp, fn_is F sc__law_whole (F.bindsN fun _ _ _ _ _ _ us hl => match us, hl with | [a0], _ => rfl) (fun cdv A outer s H E hr =>
    (jss_one (js_ret (je_and (je_is1 N.n_isinstance N.n_int boot_int (ha := (je_var 0))) (je_one (je_not (je_is1 N.n_isinstance N.n_bool boot_bool (ha := (je_var 0))))))))) (fun _ _ _ => RefE.refl _ _)⟩
/-! _law_same -/
def m__law_same : MS := (mRet (mAnd (mIs ["bool"] (mVar 0)) (mOp fEq (mVar 0) (mVar 1))))
def g__law_same : Gn := runB 2 m__law_same
theorem sc__law_same : FnScope ["_law_found", "_law_due"] ["_law_found", "_law_due"] (defScope (Hd.top 16)) := ⟨rfl, rfl, rfl, by decide +kernel, rfl, by decide +kernel, by decide +kernel⟩
theorem ok__law_same (N : NB mg) (F : FunD K "_law_same" "_law_same" (defArgs (Hd.top 16)) (defBody (Hd.top 16)) (defScope (Hd.top 16)) [] [] f fd) (hm : mg "_law_same" = some (.ref f))  : HasFn P w K mg base "_law_same" 2 1 g__law_same :=
  ⟨f, hm, F.kp, fn_is F sc__law_same (F.bindsN fun _ _ _ _ _ _ us hl => match us, hl with | [a0, a1], _ => rfl) (fun cdv A outer s H E hr =>
    (jss_one (js_ret (je_and (je_is1 N.n_isinstance N.n_bool boot_bool (ha := (je_var 0))) (je_one (je_cmp (op_eqD (hr.unitsA)) d_eq (je_var 0) (je_var 1))))))) (fun _ _ _ => RefE.refl _ _)⟩
/-! _law_right -/
def m__law_right : MS := (mSeq (mAsg (mCall 1 g__law_whole (aCons (mVar 0) aNil)) (tgName 3)) (mSeq (mIfS (mNot (mCall 2 g__law_same (aCons (mCall 1 g_is_whole (aCons (mVar 0) aNil)) (aCons (mVar 3) aNil)))) (mRet (mC (.bl false))) .nx) (mSeq (mIfS (mNot (mCall 2 g__law_same (aCons (mCall 3 g_is_within (aCons (mVar 0) (aCons (mVar 1) (aCons (mVar 2) aNil)))) (aCons (mAnd (mVar 3) (mAnd (mOp fLe (mVar 1) (mVar 0)) (mOp fLe (mVar 0) (mVar 2)))) aNil)))) (mRet (mC (.bl false))) .nx) (mSeq (mIfS (mNot (mCall 2 g__law_same (aCons (mCall 1 g_is_name (aCons (mVar 0) aNil)) (aCons (mCall 1 g__law_is (aCons (mVar 0) aNil)) aNil)))) (mRet (mC (.bl false))) .nx) (mSeq (mAsg (mCall 1 g_number_of (aCons (mVar 0) aNil)) (tgName 4)) (mSeq (mAsg (mCall 1 g__law_number (aCons (mVar 0) aNil)) (tgName 5)) (mRet (mOr (mAnd (mOp fIsN (mVar 4) (mC .non)) (mOp fIsN (mVar 5) (mC .non))) (mAnd (mOp fNotN (mVar 5) (mC .non)) (mAnd (mCall 1 g__law_whole (aCons (mVar 4) aNil)) (mOp fEq (mVar 4) (mVar 5))))))))))))
def g__law_right : Gn := runB 6 m__law_right
theorem sc__law_right : FnScope ["_law_thing", "_law_low", "_law_high", "_law_whole_here", "_law_found", "_law_due"] ["_law_thing", "_law_low", "_law_high"] (defScope (Hd.top 17)) := ⟨rfl, rfl, rfl, by decide +kernel, rfl, by decide +kernel, by decide +kernel⟩
theorem ok__law_right (N : NB mg) (F : FunD K "_law_right" "_law_right" (defArgs (Hd.top 17)) (defBody (Hd.top 17)) (defScope (Hd.top 17)) [] [] f fd) (hm : mg "_law_right" = some (.ref f)) (h__law_is : HasFn P w K mg base "_law_is" 1 1 g__law_is) (h__law_number : HasFn P w K mg base "_law_number" 1 1 g__law_number) (h__law_same : HasFn P w K mg base "_law_same" 2 1 g__law_same) (h__law_whole : HasFn P w K mg base "_law_whole" 1 1 g__law_whole) (h_is_name : HasFn P w K mg base "is_name" 1 2 g_is_name) (h_is_whole : HasFn P w K mg base "is_whole" 1 1 g_is_whole) (h_is_within : HasFn P w K mg base "is_within" 3 2 g_is_within) (h_number_of : HasFn P w K mg base "number_of" 1 2 g_number_of) : HasFn P w K mg base "_law_right" 3 3 g__law_right :=
  ⟨f, hm, F.kp, fn_is F sc__law_right (F.bindsN fun _ _ _ _ _ _ us hl => match us, hl with | [a0, a1, a2], _ => rfl) (fun cdv A outer s H E hr =>
    (jss_cons (js_set 3 sc__law_right.nd (je_call h__law_whole hr (by decide) (takes_of rfl rfl rfl rfl) (ja_cons (je_var 0) ja_nil))) (jss_cons (js_if (jt_not (jt_val (je_call h__law_same hr (by decide) (takes_of rfl rfl rfl rfl) (ja_cons (je_call h_is_whole hr (by decide) (takes_of rfl rfl rfl rfl) (ja_cons (je_var 0) ja_nil)) (ja_cons (je_var 3) ja_nil))))) (jss_one (js_ret je_bl)) jss_nil) (jss_cons (js_if (jt_not (jt_val (je_call h__law_same hr (by decide) (takes_of rfl rfl rfl rfl) (ja_cons (je_call h_is_within hr (by decide) (takes_of rfl rfl rfl rfl) (ja_cons (je_var 0) (ja_cons (je_var 1) (ja_cons (je_var 2) ja_nil)))) (ja_cons (je_and (je_var 3) (je_and (je_cmp o_le d_ord (je_var 1) (je_var 0)) (je_one (je_cmp o_le d_ord (je_var 0) (je_var 2))))) ja_nil))))) (jss_one (js_ret je_bl)) jss_nil) (jss_cons (js_if (jt_not (jt_val (je_call h__law_same hr (by decide) (takes_of rfl rfl rfl rfl) (ja_cons (je_call h_is_name hr (by decide) (takes_of rfl rfl rfl rfl) (ja_cons (je_var 0) ja_nil)) (ja_cons (je_call h__law_is hr (by decide) (takes_of rfl rfl rfl rfl) (ja_cons (je_var 0) ja_nil)) ja_nil))))) (jss_one (js_ret je_bl)) jss_nil) (jss_cons (js_set 4 sc__law_right.nd (je_call h_number_of hr (by decide) (takes_of rfl rfl rfl rfl) (ja_cons (je_var 0) ja_nil))) (jss_cons (js_set 5 sc__law_right.nd (je_call h__law_number hr (by decide) (takes_of rfl rfl rfl rfl) (ja_cons (je_var 0) ja_nil))) (jss_one (js_ret (je_or (je_and (je_cmp op_isN d_isN (je_var 4) je_non) (je_one (je_cmp op_isN d_isN (je_var 5) je_non))) (je_one (je_and (je_cmp op_notN d_notN (je_var 5) je_non) (je_and (je_call h__law_whole hr (by decide) (takes_of rfl rfl rfl rfl) (ja_cons (je_var 4) ja_nil)) (je_one (je_cmp (op_eqD (hr.unitsA)) d_eq (je_var 4) (je_var 5)))))))))))))))) (fun _ _ _ => RefE.refl _ _)⟩
/-! law -/
def m_law : MS := (mSeq (mAsg (mOp fSub (mOp fPow (mC (.int 10)) (mC (.int 30))) (mC (.int 1))) (tgName 1)) (mSeq (mFor (iAny (mOp (fAdd true) (mSl true (mVar 0) none (some (mC (.int 60)))) (mLst true (aCons (mC (.int 2)) (aCons (mC (.int 3)) (aCons (mC (.int 5)) (aCons (mC (.int 7)) (aCons (mC (.int 11)) aNil)))))))) (tgName 2) (mSeq (mAsg (mCall 1 g__law_box (aCons (mVar 2) aNil)) (tgName 4)) (mSeq (mAsg (mCall 2 g__law_things (aCons (mVar 4) (aCons (mCall 1 g__law_text (aCons (mVar 4) aNil)) aNil))) (tgName 5)) (mSeq (mAsg (mLst true (aCons (mTup (aCons (mUn fNeg (mC (.int 12))) (aCons (mC (.int 11)) aNil))) (aCons (mTup (aCons (mC (.int 0)) (aCons (mC (.int 0)) aNil))) (aCons (mTup (aCons (mC (.int 1)) (aCons (mC (.int 50)) aNil))) (aCons (mTup (aCons (mC (.int 5)) (aCons (mC (.int 4)) aNil))) (aCons (mTup (aCons (mOp fIxD (mVar 5) (mC (.int 1))) (aCons (mOp fIxD (mVar 5) (mC (.int 1))) aNil))) (aCons (mTup (aCons (mBi fMin2 (aCons (mOp (fAdd true) (mOp fIxD (mVar 5) (mC (.int 1))) (mC (.int 1))) (aCons (mVar 1) aNil))) (aCons (mVar 1) aNil))) aNil))))))) (tgName 6)) (mFor (iAny (mVar 5)) (tgName 7) (mSeq (mAsg (mOp fIxD (mVar 6) (mCall 2 g__law_take (aCons (mVar 4) (aCons (mC (.int 6)) aNil)))) (tgTup 2 (tgCons (tgName 8) (tgCons (tgName 9) tgNil)))) (mIfS (mNot (mCall 3 g__law_right (aCons (mVar 7) (aCons (mVar 8) (aCons (mVar 9) aNil))))) (mRet (mC (.bl false))) .nx))))))) (mSeq (mFor (iRange1 (aCons (mC (.int 12)) aNil)) (tgName 3) (mIfS (mOp fNe (mCall 1 g_number_of (aCons (mBi fStr (aCons (mOp fMulI (mVar 3) (mC (.int 911))) aNil)) aNil)) (mOp fIxD (mLst true (aCons (mOp fMulI (mVar 3) (mC (.int 911))) (aCons (mC .non) aNil))) (mBi fInt (aCons (mOp fGt (mOp fMulI (mVar 3) (mC (.int 911))) (mC (.int 9999))) aNil)))) (mRet (mC (.bl false))) .nx)) (mRet (mAnd (mOp fIsN (mCall 1 g_number_of (aCons (mC (.str "10000")) aNil)) (mC .non)) (mAnd (mOp fEq (mCall 1 g_number_of (aCons (mC (.str "9999")) aNil)) (mC (.int 9999))) (mOp fEq (mCall 1 g_number_of (aCons (mC (.str "0")) aNil)) (mC (.int 0)))))))))
def g_law : Gn := runB 10 m_law
theorem sc_law : FnScope ["_law_script", "_law_most", "_law_cell_here", "_law_number_here", "_law_box_here", "_law_things_here", "_law_bounds", "_law_thing", "_law_low", "_law_high"] ["_law_script"] (defScope (Hd.top 18)) := ⟨rfl, rfl, rfl, by decide +kernel, rfl, by decide +kernel, by decide +kernel⟩
theorem ok_law (N : NB mg) (F : FunD K "law" "law" (defArgs (Hd.top 18)) (defBody (Hd.top 18)) (defScope (Hd.top 18)) [] [] f fd) (hm : mg "law" = some (.ref f)) (h__law_box : HasFn P w K mg base "_law_box" 1 1 g__law_box) (h__law_right : HasFn P w K mg base "_law_right" 3 3 g__law_right) (h__law_take : HasFn P w K mg base "_law_take" 2 1 g__law_take) (h__law_text : HasFn P w K mg base "_law_text" 1 3 g__law_text) (h__law_things : HasFn P w K mg base "_law_things" 2 2 g__law_things) (h_number_of : HasFn P w K mg base "number_of" 1 2 g_number_of) : FnOk P w K mg base (L2.CX P w) 4 f fd ["_law_script"] (spD K mg 1 g_law) :=
  fn_ok F sc_law (F.bindsN fun _ _ _ _ _ _ us hl => match us, hl with | [a0], _ => rfl) (fun cdv A outer s H E hr =>
    (jss_cons (js_set 1 sc_law.nd (je_op op_sub d_sub (je_op op_pow d_pow je_int je_int) je_int)) (jss_cons (js_for (passes_of rfl) rfl (ji_any (je_op o_add (d_add true) (je_sl true (je_var 0) jo_none (jo_some je_int)) (je_lst true (ja_cons je_int (ja_cons je_int (ja_cons je_int (ja_cons je_int (ja_cons je_int ja_nil)))))))) (jg_name 2 sc_law.nd) (jss_cons (js_set 4 sc_law.nd (je_call h__law_box hr (by decide) (takes_of rfl rfl rfl rfl) (ja_cons (je_var 2) ja_nil))) (jss_cons (js_set 5 sc_law.nd (je_call h__law_things hr (by decide) (takes_of rfl rfl rfl rfl) (ja_cons (je_var 4) (ja_cons (je_call h__law_text hr (by decide) (takes_of rfl rfl rfl rfl) (ja_cons (je_var 4) ja_nil)) ja_nil)))) (jss_cons (js_set 6 sc_law.nd (je_lst true (ja_cons (je_tup (ja_cons (je_neg je_int) (ja_cons je_int ja_nil))) (ja_cons (je_tup (ja_cons je_int (ja_cons je_int ja_nil))) (ja_cons (je_tup (ja_cons je_int (ja_cons je_int ja_nil))) (ja_cons (je_tup (ja_cons je_int (ja_cons je_int ja_nil))) (ja_cons (je_tup (ja_cons (je_ixA (hr.unitsC) (je_var 5) je_int) (ja_cons (je_ixA (hr.unitsC) (je_var 5) je_int) ja_nil))) (ja_cons (je_tup (ja_cons (je_bi (call_min2 rfl) d_min2 N.n_min boot_min (ja_cons (je_op o_add (d_add true) (je_ixA (hr.unitsC) (je_var 5) je_int) je_int) (ja_cons (je_var 1) ja_nil))) (ja_cons (je_var 1) ja_nil))) ja_nil)))))))) (jss_one (js_for (passes_of rfl) rfl (ji_any (je_var 5)) (jg_name 7 sc_law.nd) (jss_cons (js_asg (je_ixA (hr.unitsC) (je_var 6) (je_call h__law_take hr (by decide) (takes_of rfl rfl rfl rfl) (ja_cons (je_var 4) (ja_cons je_int ja_nil)))) (jg_tup rfl (jgs_cons (jg_name 8 sc_law.nd) (jgs_cons (jg_name 9 sc_law.nd) jgs_nil)))) (jss_one (js_if (jt_not (jt_val (je_call h__law_right hr (by decide) (takes_of rfl rfl rfl rfl) (ja_cons (je_var 7) (ja_cons (je_var 8) (ja_cons (je_var 9) ja_nil)))))) (jss_one (js_ret je_bl)) jss_nil))))))))) (jss_cons (js_for (passes_of rfl) rfl (ji_range1 rfl N.n_range (ja_cons je_int ja_nil)) (jg_name 3 sc_law.nd) (jss_one (js_if (jt_cmp (op_neD (hr.unitsA)) d_ne (je_call h_number_of hr (by decide) (takes_of rfl rfl rfl rfl) (ja_cons (je_ty c_str d_str N.n_str boot_str (ja_cons (je_op op_mulW d_mulI (je_var 3) je_int) ja_nil)) ja_nil)) (je_ixA (hr.unitsC) (je_lst true (ja_cons (je_op op_mulW d_mulI (je_var 3) je_int) (ja_cons je_non ja_nil))) (je_ty c_int d_int N.n_int boot_int (ja_cons (je_cmp o_gt d_ord (je_op op_mulW d_mulI (je_var 3) je_int) je_int) ja_nil)))) (jss_one (js_ret je_bl)) jss_nil))) (jss_one (js_ret (je_and (je_cmp op_isN d_isN (je_call h_number_of hr (by decide) (takes_of rfl rfl rfl rfl) (ja_cons (je_str) ja_nil)) je_non) (je_and (je_cmp (op_eqD (hr.unitsA)) d_eq (je_call h_number_of hr (by decide) (takes_of rfl rfl rfl rfl) (ja_cons (je_str) ja_nil)) je_int) (je_one (je_cmp (op_eqD (hr.unitsA)) d_eq (je_call h_number_of hr (by decide) (takes_of rfl rfl rfl rfl) (ja_cons (je_str) ja_nil)) je_int)))))))))) (fun _ _ _ => RefE.refl _ _)
end
theorem facts {P : Program} {w : World} {K : PySem.W.Frag} {h : Heap} {mg : Str → Option Value} {f : Addr} (X : K.In h) (G : h.Ns mainGlobals mg) (hfa : mg ("law" : Str) = some (.ref f)) (c : He.SaysD Hd.fa Hd.fn K) :
    ∃ fd : FuncData, (∀ (s : Shared) (v : Value), BindsTo s fd ⟨[v], []⟩ [("_law_script", v)]) ∧ ∀ base : Heap, K.In base → base.Ns mainGlobals mg → FnOk P w K mg base (L2.CX P w) 4 f fd ["_law_script"] (spD K mg 1 g_law) := by
  have N : NB mg := ⟨He.free_ok X G (c.fact 17 (f := .free "bool") rfl), He.free_ok X G (c.fact 18 (f := .free "enumerate") rfl), He.free_ok X G (c.fact 19 (f := .free "int") rfl), He.free_ok X G (c.fact 20 (f := .free "isinstance") rfl), He.free_ok X G (c.fact 21 (f := .free "len") rfl), He.free_ok X G (c.fact 22 (f := .free "max") rfl), He.free_ok X G (c.fact 23 (f := .free "min") rfl), He.free_ok X G (c.fact 24 (f := .free "range") rfl), He.free_ok X G (c.fact 25 (f := .free "str") rfl)⟩
  obtain ⟨fd_is_whole, F_is_whole⟩ := c.def_ 0 (d := Hd.d0) rfl
  have m_is_whole := He.glo_ok X G (c.fact 0 (f := .glo "is_whole") rfl)
  obtain ⟨fd_is_within, F_is_within⟩ := c.def_ 1 (d := Hd.d1) rfl
  have m_is_within := He.glo_ok X G (c.fact 1 (f := .glo "is_within") rfl)
  obtain ⟨fd_are_signs, F_are_signs⟩ := c.def_ 2 (d := Hd.d2) rfl
  have m_are_signs := He.glo_ok X G (c.fact 2 (f := .glo "are_signs") rfl)
  obtain ⟨fd_is_name, F_is_name⟩ := c.def_ 3 (d := Hd.d3) rfl
  have m_is_name := He.glo_ok X G (c.fact 3 (f := .glo "is_name") rfl)
  obtain ⟨fd_number_of, F_number_of⟩ := c.def_ 4 (d := Hd.d4) rfl
  have m_number_of := He.glo_ok X G (c.fact 4 (f := .glo "number_of") rfl)
  obtain ⟨fd__law_cell, F__law_cell⟩ := c.def_ 5 (d := Hd.d5) rfl
  have m__law_cell := He.glo_ok X G (c.fact 5 (f := .glo "_law_cell") rfl)
  obtain ⟨fd__law_box, F__law_box⟩ := c.def_ 6 (d := Hd.d6) rfl
  have m__law_box := He.glo_ok X G (c.fact 6 (f := .glo "_law_box") rfl)
  obtain ⟨fd__law_take, F__law_take⟩ := c.def_ 7 (d := Hd.d7) rfl
  have m__law_take := He.glo_ok X G (c.fact 7 (f := .glo "_law_take") rfl)
  obtain ⟨fd__law_signs, F__law_signs⟩ := c.def_ 8 (d := Hd.d8) rfl
  have m__law_signs := He.glo_ok X G (c.fact 8 (f := .glo "_law_signs") rfl)
  obtain ⟨fd__law_text, F__law_text⟩ := c.def_ 9 (d := Hd.d9) rfl
  have m__law_text := He.glo_ok X G (c.fact 9 (f := .glo "_law_text") rfl)
  obtain ⟨fd__law_things, F__law_things⟩ := c.def_ 10 (d := Hd.d10) rfl
  have m__law_things := He.glo_ok X G (c.fact 10 (f := .glo "_law_things") rfl)
  obtain ⟨fd__law_is, F__law_is⟩ := c.def_ 11 (d := Hd.d11) rfl
  have m__law_is := He.glo_ok X G (c.fact 11 (f := .glo "_law_is") rfl)
  obtain ⟨fd__law_number, F__law_number⟩ := c.def_ 12 (d := Hd.d12) rfl
  have m__law_number := He.glo_ok X G (c.fact 12 (f := .glo "_law_number") rfl)
  obtain ⟨fd__law_whole, F__law_whole⟩ := c.def_ 13 (d := Hd.d13) rfl
  have m__law_whole := He.glo_ok X G (c.fact 13 (f := .glo "_law_whole") rfl)
  obtain ⟨fd__law_same, F__law_same⟩ := c.def_ 14 (d := Hd.d14) rfl
  have m__law_same := He.glo_ok X G (c.fact 14 (f := .glo "_law_same") rfl)
  obtain ⟨fd__law_right, F__law_right⟩ := c.def_ 15 (d := Hd.d15) rfl
  have m__law_right := He.glo_ok X G (c.fact 15 (f := .glo "_law_right") rfl)
  obtain ⟨fd_law, F_law⟩ := c.def_ 16 (d := Hd.d16) rfl
  have m_law := He.glo_ok X G (c.fact 16 (f := .glo "law") rfl)
  have e := hfa.symm.trans m_law
  cases e
  have b := FunD.bindsA (ps := ["_law_script"]) F_law fun _ _ _ _ _ _ us hl => match us, hl with | [_], _ => rfl
  refine ⟨fd_law, fun s v => b s [v] rfl, fun base _ _ => ?_⟩
  have h_is_whole := ok_is_whole (P := P) (w := w) (mg := mg) (base := base) N F_is_whole m_is_whole 
  have h_is_within := ok_is_within (P := P) (w := w) (mg := mg) (base := base) N F_is_within m_is_within h_is_whole
  have h_are_signs := ok_are_signs (P := P) (w := w) (mg := mg) (base := base) N F_are_signs m_are_signs 
  have h_is_name := ok_is_name (P := P) (w := w) (mg := mg) (base := base) N F_is_name m_is_name h_are_signs
  have h_number_of := ok_number_of (P := P) (w := w) (mg := mg) (base := base) N F_number_of m_number_of h_are_signs
  have h__law_cell := ok__law_cell (P := P) (w := w) (mg := mg) (base := base) N F__law_cell m__law_cell 
  have h__law_box := ok__law_box (P := P) (w := w) (mg := mg) (base := base) N F__law_box m__law_box 
  have h__law_take := ok__law_take (P := P) (w := w) (mg := mg) (base := base) N F__law_take m__law_take 
  have h__law_signs := ok__law_signs (P := P) (w := w) (mg := mg) (base := base) N F__law_signs m__law_signs h__law_take
  have h__law_text := ok__law_text (P := P) (w := w) (mg := mg) (base := base) N F__law_text m__law_text h__law_signs h__law_take
  have h__law_things := ok__law_things (P := P) (w := w) (mg := mg) (base := base) N F__law_things m__law_things h__law_take
  have h__law_is := ok__law_is (P := P) (w := w) (mg := mg) (base := base) N F__law_is m__law_is 
  have h__law_number := ok__law_number (P := P) (w := w) (mg := mg) (base := base) N F__law_number m__law_number 
  have h__law_whole := ok__law_whole (P := P) (w := w) (mg := mg) (base := base) N F__law_whole m__law_whole 
  have h__law_same := ok__law_same (P := P) (w := w) (mg := mg) (base := base) N F__law_same m__law_same 
  have h__law_right := ok__law_right (P := P) (w := w) (mg := mg) (base := base) N F__law_right m__law_right h__law_is h__law_number h__law_same h__law_whole h_is_name h_is_whole h_is_within h_number_of
  exact ok_law N F_law m_law h__law_box h__law_right h__law_take h__law_text h__law_things h_number_of
end LW

set_option Elab.async false
set_option linter.all false
set_option maxRecDepth 100000
set_option maxHeartbeats 2000000
namespace LW
open PySem PySem.Spec PyProof.Rows L2 LD
/-! ### a box of numbers -/
def Box (t : Nat) (c : D) : Prop := ∃ a b k : Int, c = .lst [.int a, .int b, .int k] ∧ 0 ≤ a ∧ 0 ≤ b ∧ b < 2147483647 ∧ 0 ≤ k ∧ k ≤ t
theorem ixd_cell0 {ah : AH} {n : Nat} {x y z : D} (h : ah[n]? = some (some (.lst [x, y, z]))) : fIxD (.cell n) (.int 0) ah = some (x, ah) ∧ fIxD (.cell n) (.int 1) ah = some (y, ah) ∧ fIxD (.cell n) (.int 2) ah = some (z, ah) := by
  simp [fIxD, fIx, view, h, atI, ixN]
theorem take_ok {ah : AH} {n t : Nat} {c : D} {m : Int} (hc : ah[n]? = some (some c)) (B : Box t c) (ht : t < 2 ^ 60) (h0 : 0 < m) (hm : m < 2 ^ 200) :
    ∃ d c', 0 ≤ d ∧ d < m ∧ Box (t + 1) c' ∧ g__law_take [.cell n, .int m] ah = .ok (.int d) (ah.set n (some c')) := by
  obtain ⟨a, b, k, rfl, ha, hb, hb2, hk, hk2⟩ := B
  have hl : n < ah.length := (List.getElem?_eq_some_iff.mp hc).1
  have hg : ∀ c, (ah.set n (some c))[n]? = some (some c) := fun c => by simp [hl]
  by_cases ca : 0 < a
  · refine ⟨a % m, .lst [.int (a / m), .int b, .int k], Int.emod_nonneg _ (by omega), Int.emod_lt_of_pos _ h0, ⟨_, _, _, rfl, Int.ediv_nonneg ha (by omega), hb, hb2, hk, by omega⟩, ?_⟩
    unfold g__law_take m__law_take
    simp (disch := first | omega | (simp only [List.length_cons, List.length_nil, List.length_map, List.length_append, sizeLine_eq] <;> omega)) only [x_bok, x_bex, x_tok, x_tex, x_tt, x_tst, x_tex2, x_tex3, x_args, x_argx, x_nx, x_ret, x_brk, x_cnt, x_exc, x_lift, x_optS, x_getV, r_run, x_eret, x_enx, x_eexc, r_seq, r_asg, k_asg, r_ret, k_ret, r_drop, k_drop, r_if, r_var, r_c, r_op, k_op, k_op2, r_un, k_un, k_false, k_true, r_chain, k_ch, k_ch2, k_ch3, r_and, r_or, r_not, r_ife, r_nil, r_cons, k_cons, k_cons2, r_lst, k_lst, r_tup, k_tup, x_mkT, x_mkF, r_call, k_call1, k_call2, k_call3, k_call4, k_call5, k_call6, k_call7, k_call8, r_bi, k_bi, r_is, k_is, r_bm, k_bmS, k_bm2, r_bm0, k_bm0S, r_sl, k_sl, k_sl2, k_sl3, r_part0, r_part, k_part, r_any, k_anyL, k_anyT, k_anyC, k_anyS, r_enumA, k_enumL, k_enumS, r_range1, k_range1, r_range2, k_range2, r_setA, k_set, k_set2, r_name, r_tnil, r_tcons, r_ttup, r_for, x_for, v_int, v_str, f_gt, f_ge, f_lt, f_le, f_sub, f_add, f_mul, f_div, f_mod, f_pow, f_eqI, f_neI, f_isN, f_notN, f_neg, f_eqS, r_lc, x_lc, x_lcR, r_yes, f_lenS, f_lenL, f_lenT, f_lenC, f_addS, List.getElem?_cons_zero, List.getElem?_cons_succ, List.set_cons_zero, List.set_cons_succ, List.map_cons, List.map_nil, List.length_cons, List.length_nil, List.cons_append, List.nil_append, List.replicate_succ, List.replicate_zero, Nat.reduceAdd, Nat.reduceSub, Nat.reduceLeDiff, Nat.reduceLT, Nat.zero_add, if_true, if_false, Bool.false_eq_true, reduceIte, Option.bind_some, sizeLine_eq, decide_true, decide_false, Int.reduceLT, Int.reduceLE, Int.reduceNeg, Int.reducePow, Int.reduceMul, Int.reduceSub, Int.reduceAdd, Int.reduceEq, Int.reduceToNat, Int.reduceNe, Nat.reduceEqDiff, decide_eq_true_eq, eq_self, and_self, true_and, and_true, not_true_eq_false, not_false_eq_true, (ixd_cell0 hc).1, ca, k_set3L (k := 0) (j := 0) hc rfl]
  · obtain ⟨x, hx⟩ : ∃ x : Int, x = (b * 48271 + 7919 * (k + 1) + 11) % 2147483629 := ⟨_, rfl⟩
    have x0 : 0 ≤ x := hx ▸ Int.emod_nonneg _ (by omega)
    have x1 : x < 2147483629 := hx ▸ Int.emod_lt_of_pos _ (by omega)
    obtain ⟨y, hy⟩ : ∃ y : Int, y = x * x % 2147483587 := ⟨_, rfl⟩
    have y0 : 0 ≤ y := hy ▸ Int.emod_nonneg _ (by omega)
    have y1 : y < 2147483587 := hy ▸ Int.emod_lt_of_pos _ (by omega)
    obtain ⟨z, hz⟩ : ∃ z : Int, z = y * 69621 % 2147483647 := ⟨_, rfl⟩
    have z0 : 0 ≤ z := hz ▸ Int.emod_nonneg _ (by omega)
    have z1 : z < 2147483647 := hz ▸ Int.emod_lt_of_pos _ (by omega)
    refine ⟨z * z % 2147483629 / 8 % m, .lst [.int a, .int b, .int (k + 1)], Int.emod_nonneg _ (by omega), Int.emod_lt_of_pos _ h0, ⟨_, _, _, rfl, ha, hb, hb2, by omega, by omega⟩, ?_⟩
    unfold g__law_take m__law_take
    have hc' := hg (.lst [.int a, .int b, .int (k + 1)])
    simp (disch := first | omega | (simp only [List.length_cons, List.length_nil, List.length_map, List.length_append, sizeLine_eq] <;> omega)) only [x_bok, x_bex, x_tok, x_tex, x_tt, x_tst, x_tex2, x_tex3, x_args, x_argx, x_nx, x_ret, x_brk, x_cnt, x_exc, x_lift, x_optS, x_getV, r_run, x_eret, x_enx, x_eexc, r_seq, r_asg, k_asg, r_ret, k_ret, r_drop, k_drop, r_if, r_var, r_c, r_op, k_op, k_op2, r_un, k_un, k_false, k_true, r_chain, k_ch, k_ch2, k_ch3, r_and, r_or, r_not, r_ife, r_nil, r_cons, k_cons, k_cons2, r_lst, k_lst, r_tup, k_tup, x_mkT, x_mkF, r_call, k_call1, k_call2, k_call3, k_call4, k_call5, k_call6, k_call7, k_call8, r_bi, k_bi, r_is, k_is, r_bm, k_bmS, k_bm2, r_bm0, k_bm0S, r_sl, k_sl, k_sl2, k_sl3, r_part0, r_part, k_part, r_any, k_anyL, k_anyT, k_anyC, k_anyS, r_enumA, k_enumL, k_enumS, r_range1, k_range1, r_range2, k_range2, r_setA, k_set, k_set2, r_name, r_tnil, r_tcons, r_ttup, r_for, x_for, v_int, v_str, f_gt, f_ge, f_lt, f_le, f_sub, f_add, f_mul, f_div, f_mod, f_pow, f_eqI, f_neI, f_isN, f_notN, f_neg, f_eqS, r_lc, x_lc, x_lcR, r_yes, f_lenS, f_lenL, f_lenT, f_lenC, f_addS, List.getElem?_cons_zero, List.getElem?_cons_succ, List.set_cons_zero, List.set_cons_succ, List.map_cons, List.map_nil, List.length_cons, List.length_nil, List.cons_append, List.nil_append, List.replicate_succ, List.replicate_zero, Nat.reduceAdd, Nat.reduceSub, Nat.reduceLeDiff, Nat.reduceLT, Nat.zero_add, if_true, if_false, Bool.false_eq_true, reduceIte, Option.bind_some, sizeLine_eq, decide_true, decide_false, Int.reduceLT, Int.reduceLE, Int.reduceNeg, Int.reducePow, Int.reduceMul, Int.reduceSub, Int.reduceAdd, Int.reduceEq, Int.reduceToNat, Int.reduceNe, Nat.reduceEqDiff, decide_eq_true_eq, eq_self, and_self, true_and, and_true, not_true_eq_false, not_false_eq_true, (ixd_cell0 hc).1, (ixd_cell0 hc).2.1, (ixd_cell0 hc).2.2, ca, k_set3L (k := 2) (j := 2) hc rfl, (ixd_cell0 hc').2.1, (ixd_cell0 hc').2.2, ← hx, ← hy, ← hz]

theorem mem_strOk {x : Str} (hx : PySem.PyData.strOk x = true) {cs : List Nat} (h : ∀ c ∈ cs, c ∈ x.cps.toList) : PySem.PyData.strOk ⟨cs.toArray⟩ = true := strOk_sub hx h
theorem signs_ok {ah : AH} {n t : Nat} {c : D} {x : Str} {m : Int} (hc : ah[n]? = some (some c)) (B : Box t c) (ht : t < 2 ^ 50) (hx : PySem.PyData.strOk x = true) (h0 : 0 < x.length) (h1 : x.length ≤ 1000) (m0 : 0 ≤ m) (m1 : m ≤ 1000) :
    ∃ (cs : List Nat) (c' : D), (cs.length : Int) = m ∧ (∀ c ∈ cs, c ∈ x.cps.toList) ∧ Box (t + cs.length) c' ∧ g__law_signs [.cell n, .str x, .int m] ah = .ok (.str ⟨cs.toArray⟩) (ah.set n (some c')) := by
  have hl : n < ah.length := (List.getElem?_eq_some_iff.mp hc).1
  unfold g__law_signs m__law_signs
  obtain ⟨ys, a, e, ⟨cs, c', rfl, h2, h3, rfl⟩, hlen⟩ := lc_map (g := tgName 3) (mt := mYes) (me := mOp fIxD (mVar 1) (mCall 2 g__law_take (aCons (mVar 0) (aCons (mBi fLen (aCons (mVar 1) aNil)) aNil)))) (vs := [3]) (sd0 := wipeD [some (.cell n), some (.str x), some (.int m), none] [3])
    1000 (fun acc a => ∃ cs : List Nat, ∃ c', acc = cs.map (fun c => D.str ⟨#[c]⟩) ∧ (∀ c ∈ cs, c ∈ x.cps.toList) ∧ Box (t + cs.length) c' ∧ a = ah.set n (some c')) (by omega) (LD.intsFrom 0 m.toNat) [] ah
    ⟨[], c, rfl, by simp, B, (set_self hc).symm⟩ (by rw [ints_len]; simp; omega) (fun d hd acc a hacc ⟨cs, c', e1, e2, B2, e3⟩ => by
      subst e1; subst e3
      obtain ⟨v, c2, v0, v1, B3, ek⟩ := take_ok (set_get hc c') B2 (by simp at hacc; omega) (m := (x.length : Int)) (by omega) (by omega)
      obtain ⟨q, q1, q2, q3⟩ := f_ixS (x := x) (i := v) (ah := ah.set n (some c2)) (by omega) v0 v1
      rw [List.set_set] at ek
      refine ⟨_, .str ⟨#[q]⟩, ah.set n (some c2), rfl, rfl, ?_, cs ++ [q], c2, by simp, fun z hz => ?_, by simpa [Nat.add_assoc] using B3, rfl⟩
      · simp (disch := first | omega | (simp only [List.length_cons, List.length_nil, List.length_map, List.length_append, sizeLine_eq] <;> omega)) only [x_bok, x_bex, x_tok, x_tex, x_tt, x_tst, x_tex2, x_tex3, x_args, x_argx, x_nx, x_ret, x_brk, x_cnt, x_exc, x_lift, x_optS, x_getV, r_run, x_eret, x_enx, x_eexc, r_seq, r_asg, k_asg, r_ret, k_ret, r_drop, k_drop, r_if, r_var, r_c, r_op, k_op, k_op2, r_un, k_un, k_false, k_true, r_chain, k_ch, k_ch2, k_ch3, r_and, r_or, r_not, r_ife, r_nil, r_cons, k_cons, k_cons2, r_lst, k_lst, r_tup, k_tup, x_mkT, x_mkF, r_call, k_call1, k_call2, k_call3, k_call4, k_call5, k_call6, k_call7, k_call8, r_bi, k_bi, r_is, k_is, r_bm, k_bmS, k_bm2, r_bm0, k_bm0S, r_sl, k_sl, k_sl2, k_sl3, r_part0, r_part, k_part, r_any, k_anyL, k_anyT, k_anyC, k_anyS, r_enumA, k_enumL, k_enumS, r_range1, k_range1, r_range2, k_range2, r_setA, k_set, k_set2, r_name, r_tnil, r_tcons, r_ttup, r_for, x_for, v_int, v_str, f_gt, f_ge, f_lt, f_le, f_sub, f_add, f_mul, f_div, f_mod, f_pow, f_eqI, f_neI, f_isN, f_notN, f_neg, f_eqS, r_lc, x_lc, x_lcR, r_yes, f_lenS, f_lenL, f_lenT, f_lenC, f_addS, List.getElem?_cons_zero, List.getElem?_cons_succ, List.set_cons_zero, List.set_cons_succ, List.map_cons, List.map_nil, List.length_cons, List.length_nil, List.cons_append, List.nil_append, List.replicate_succ, List.replicate_zero, Nat.reduceAdd, Nat.reduceSub, Nat.reduceLeDiff, Nat.reduceLT, Nat.zero_add, if_true, if_false, Bool.false_eq_true, reduceIte, Option.bind_some, sizeLine_eq, decide_true, decide_false, Int.reduceLT, Int.reduceLE, Int.reduceNeg, Int.reducePow, Int.reduceMul, Int.reduceSub, Int.reduceAdd, Int.reduceEq, Int.reduceToNat, Int.reduceNe, Nat.reduceEqDiff, decide_eq_true_eq, eq_self, and_self, true_and, and_true, not_true_eq_false, not_false_eq_true, wipeD, ek, q3]
      · rcases List.mem_append.mp hz with z1 | z1
        · exact e2 z z1
        · rw [List.mem_singleton.mp z1]; exact q1)
  have hlen' : (cs.length : Int) = m := by
    rw [List.length_map, ints_len] at hlen
    simp at hlen; omega
  refine ⟨cs, c', hlen', h2, h3, ?_⟩
  have js : fJoin (.str (Str.ofString "")) [.lst (cs.map fun c => D.str ⟨#[c]⟩)] (ah.set n (some c')) = some (.str ⟨cs.toArray⟩, ah.set n (some c')) := by
    simp only [fJoin, view, LD.strs_map, join_signs]
    rw [if_pos]
    refine ⟨?_, mem_strOk hx h2⟩
    have : (List.map (fun x : Str => x.length) (List.map (fun c => (⟨#[c]⟩ : Str)) cs)).sum = cs.length := by
      clear hlen hlen' e h3 h2
      induction cs with
      | nil => rfl
      | cons c cs ih => simp only [List.map_cons, List.sum_cons, ih, List.length_cons]; show 1 + cs.length = _; omega
    rw [this]
    show cs.length + (List.map (fun c => (⟨#[c]⟩ : Str)) cs).length * 0 ≤ _
    omega
  simp (disch := first | omega | (simp only [List.length_cons, List.length_nil, List.length_map, List.length_append, sizeLine_eq] <;> omega)) only [x_bok, x_bex, x_tok, x_tex, x_tt, x_tst, x_tex2, x_tex3, x_args, x_argx, x_nx, x_ret, x_brk, x_cnt, x_exc, x_lift, x_optS, x_getV, r_run, x_eret, x_enx, x_eexc, r_seq, r_asg, k_asg, r_ret, k_ret, r_drop, k_drop, r_if, r_var, r_c, r_op, k_op, k_op2, r_un, k_un, k_false, k_true, r_chain, k_ch, k_ch2, k_ch3, r_and, r_or, r_not, r_ife, r_nil, r_cons, k_cons, k_cons2, r_lst, k_lst, r_tup, k_tup, x_mkT, x_mkF, r_call, k_call1, k_call2, k_call3, k_call4, k_call5, k_call6, k_call7, k_call8, r_bi, k_bi, r_is, k_is, r_bm, k_bmS, k_bm2, r_bm0, k_bm0S, r_sl, k_sl, k_sl2, k_sl3, r_part0, r_part, k_part, r_any, k_anyL, k_anyT, k_anyC, k_anyS, r_enumA, k_enumL, k_enumS, r_range1, k_range1, r_range2, k_range2, r_setA, k_set, k_set2, r_name, r_tnil, r_tcons, r_ttup, r_for, x_for, v_int, v_str, f_gt, f_ge, f_lt, f_le, f_sub, f_add, f_mul, f_div, f_mod, f_pow, f_eqI, f_neI, f_isN, f_notN, f_neg, f_eqS, r_lc, x_lc, x_lcR, r_yes, f_lenS, f_lenL, f_lenT, f_lenC, f_addS, List.getElem?_cons_zero, List.getElem?_cons_succ, List.set_cons_zero, List.set_cons_succ, List.map_cons, List.map_nil, List.length_cons, List.length_nil, List.cons_append, List.nil_append, List.replicate_succ, List.replicate_zero, Nat.reduceAdd, Nat.reduceSub, Nat.reduceLeDiff, Nat.reduceLT, Nat.zero_add, if_true, if_false, Bool.false_eq_true, reduceIte, Option.bind_some, sizeLine_eq, decide_true, decide_false, Int.reduceLT, Int.reduceLE, Int.reduceNeg, Int.reducePow, Int.reduceMul, Int.reduceSub, Int.reduceAdd, Int.reduceEq, Int.reduceToNat, Int.reduceNe, Nat.reduceEqDiff, decide_eq_true_eq, eq_self, and_self, true_and, and_true, not_true_eq_false, not_false_eq_true, e, js]

/-- what a draw leaves -/
def Left (ah : AH) (n t : Nat) (a : AH) : Prop := ∃ c, a = ah.set n (some c) ∧ Box t c
theorem Left.refl {ah : AH} {n t : Nat} {c : D} (hc : ah[n]? = some (some c)) (B : Box t c) : Left ah n t ah := ⟨c, (set_self hc).symm, B⟩
theorem Box.mono {t u : Nat} {c : D} (h : Box t c) (hu : t ≤ u) : Box u c := by
  obtain ⟨a, b, k, e, h1, h2, h3, h4, h5⟩ := h
  exact ⟨a, b, k, e, h1, h2, h3, h4, by omega⟩
theorem Left.mono {ah a : AH} {n t u : Nat} (h : Left ah n t a) (hu : t ≤ u) : Left ah n u a := by
  obtain ⟨c, e, B⟩ := h
  exact ⟨c, e, B.mono hu⟩
theorem takeL {ah a : AH} {n t : Nat} {m : Int} (hn : n < ah.length) (L : Left ah n t a) (ht : t < 2 ^ 60) (h0 : 0 < m) (hm : m < 2 ^ 200) :
    ∃ d a', 0 ≤ d ∧ d < m ∧ Left ah n (t + 1) a' ∧ g__law_take [.cell n, .int m] a = .ok (.int d) a' := by
  obtain ⟨c, rfl, B⟩ := L
  have hc : (ah.set n (some c))[n]? = some (some c) := by rw [List.getElem?_set_self hn]
  obtain ⟨d, c', h1, h2, B', e⟩ := take_ok hc B ht h0 hm
  exact ⟨d, _, h1, h2, ⟨c', List.set_set .., B'⟩, e⟩
theorem signsL {ah a : AH} {n t : Nat} {x : Str} {m : Int} (hn : n < ah.length) (L : Left ah n t a) (ht : t < 2 ^ 50) (hx : PySem.PyData.strOk x = true) (h0 : 0 < x.length) (h1 : x.length ≤ 1000) (m0 : 0 ≤ m) (m1 : m ≤ 1000) :
    ∃ (y : Str) (a' : AH), (y.length : Int) = m ∧ PySem.PyData.strOk y = true ∧ Left ah n (t + 1000) a' ∧ g__law_signs [.cell n, .str x, .int m] a = .ok (.str y) a' := by
  obtain ⟨c, rfl, B⟩ := L
  have hc : (ah.set n (some c))[n]? = some (some c) := by rw [List.getElem?_set_self hn]
  obtain ⟨cs, c', h2, h3, B', e⟩ := signs_ok hc B ht hx h0 h1 m0 m1
  exact ⟨⟨cs.toArray⟩, _, by rw [str_len]; exact h2, strOk_sub hx h3, ⟨c', List.set_set .., B'.mono (by omega)⟩, e⟩
def lits (ds : List D) : Prop := ∀ d ∈ ds, ∃ x : Str, d = .str x ∧ x.length ≤ 4
theorem text_ok {ah a : AH} {n t : Nat} (hn : n < ah.length) (L : Left ah n t a) (ht : t < 2 ^ 40) :
    ∃ (y : Str) (a' : AH), y.length ≤ 100 ∧ Left ah n (t + 5000) a' ∧ g__law_text [.cell n] a = .ok (.str y) a' := by
  unfold g__law_text m__law_text
  obtain ⟨w, a1, w0, w1, L1, e1⟩ := takeL hn L (by omega) (m := 4) (by omega) (by omega)
  by_cases c0 : w = 0
  · subst c0
    obtain ⟨k, a2, k0, k1, L2, e2⟩ := takeL hn L1 (by omega) (m := 11) (by omega) (by omega)
    obtain ⟨y, a3, y0, y1, L3, e3⟩ := signsL hn L2 (by omega) (x := "abz019AZ.= _-/:`{~\n!") (by decide +kernel) (by decide +kernel) (by decide +kernel) k0 (by omega)
    refine ⟨y, a3, by omega, L3.mono (by omega), ?_⟩
    simp (disch := first | omega | (simp only [List.length_cons, List.length_nil, List.length_map, List.length_append, sizeLine_eq] <;> omega)) only [x_bok, x_bex, x_tok, x_tex, x_tt, x_tst, x_tex2, x_tex3, x_args, x_argx, x_nx, x_ret, x_brk, x_cnt, x_exc, x_lift, x_optS, x_getV, r_run, x_eret, x_enx, x_eexc, r_seq, r_asg, k_asg, r_ret, k_ret, r_drop, k_drop, r_if, r_var, r_c, r_op, k_op, k_op2, r_un, k_un, k_false, k_true, r_chain, k_ch, k_ch2, k_ch3, r_and, r_or, r_not, r_ife, r_nil, r_cons, k_cons, k_cons2, r_lst, k_lst, r_tup, k_tup, x_mkT, x_mkF, r_call, k_call1, k_call2, k_call3, k_call4, k_call5, k_call6, k_call7, k_call8, r_bi, k_bi, r_is, k_is, r_bm, k_bmS, k_bm2, r_bm0, k_bm0S, r_sl, k_sl, k_sl2, k_sl3, r_part0, r_part, k_part, r_any, k_anyL, k_anyT, k_anyC, k_anyS, r_enumA, k_enumL, k_enumS, r_range1, k_range1, r_range2, k_range2, r_setA, k_set, k_set2, r_name, r_tnil, r_tcons, r_ttup, r_for, x_for, v_int, v_str, f_gt, f_ge, f_lt, f_le, f_sub, f_add, f_mul, f_div, f_mod, f_pow, f_eqI, f_neI, f_isN, f_notN, f_neg, f_eqS, r_lc, x_lc, x_lcR, r_yes, f_lenS, f_lenL, f_lenT, f_lenC, f_addS, List.getElem?_cons_zero, List.getElem?_cons_succ, List.set_cons_zero, List.set_cons_succ, List.map_cons, List.map_nil, List.length_cons, List.length_nil, List.cons_append, List.nil_append, List.replicate_succ, List.replicate_zero, Nat.reduceAdd, Nat.reduceSub, Nat.reduceLeDiff, Nat.reduceLT, Nat.zero_add, if_true, if_false, Bool.false_eq_true, reduceIte, Option.bind_some, sizeLine_eq, decide_true, decide_false, Int.reduceLT, Int.reduceLE, Int.reduceNeg, Int.reducePow, Int.reduceMul, Int.reduceSub, Int.reduceAdd, Int.reduceEq, Int.reduceToNat, Int.reduceNe, Nat.reduceEqDiff, decide_eq_true_eq, eq_self, and_self, true_and, and_true, not_true_eq_false, not_false_eq_true, e1, e2, e3]
  by_cases c1 : w = 1
  · subst c1
    obtain ⟨k, a2, k0, k1, L2, e2⟩ := takeL hn L1 (by omega) (m := 6) (by omega) (by omega)
    obtain ⟨d, d1, d2, d3⟩ := f_ixL (xs := [.str "", .str "-", .str " ", .str "0", .str "00", .str "1"]) (i := k) (ah := a2) k0 (by simpa using k1)
    obtain ⟨x, rfl, hx⟩ : ∃ x : Str, d = .str x ∧ x.length ≤ 4 := by
      simp only [List.mem_cons, List.not_mem_nil, or_false] at d1
      rcases d1 with rfl | rfl | rfl | rfl | rfl | rfl <;> exact ⟨_, rfl, by decide +kernel⟩
    obtain ⟨k', a3, k0', k1', L3, e3⟩ := takeL hn L2 (by omega) (m := 7) (by omega) (by omega)
    obtain ⟨y, a4, y0, y1, L4, e4⟩ := signsL hn L3 (by omega) (x := "0123456789") (by decide +kernel) (by decide +kernel) (by decide +kernel) k0' (by omega)
    refine ⟨x ++ y, a4, by rw [app_len]; omega, L4.mono (by omega), ?_⟩
    simp (disch := first | omega | (simp only [List.length_cons, List.length_nil, List.length_map, List.length_append, sizeLine_eq] <;> omega)) only [x_bok, x_bex, x_tok, x_tex, x_tt, x_tst, x_tex2, x_tex3, x_args, x_argx, x_nx, x_ret, x_brk, x_cnt, x_exc, x_lift, x_optS, x_getV, r_run, x_eret, x_enx, x_eexc, r_seq, r_asg, k_asg, r_ret, k_ret, r_drop, k_drop, r_if, r_var, r_c, r_op, k_op, k_op2, r_un, k_un, k_false, k_true, r_chain, k_ch, k_ch2, k_ch3, r_and, r_or, r_not, r_ife, r_nil, r_cons, k_cons, k_cons2, r_lst, k_lst, r_tup, k_tup, x_mkT, x_mkF, r_call, k_call1, k_call2, k_call3, k_call4, k_call5, k_call6, k_call7, k_call8, r_bi, k_bi, r_is, k_is, r_bm, k_bmS, k_bm2, r_bm0, k_bm0S, r_sl, k_sl, k_sl2, k_sl3, r_part0, r_part, k_part, r_any, k_anyL, k_anyT, k_anyC, k_anyS, r_enumA, k_enumL, k_enumS, r_range1, k_range1, r_range2, k_range2, r_setA, k_set, k_set2, r_name, r_tnil, r_tcons, r_ttup, r_for, x_for, v_int, v_str, f_gt, f_ge, f_lt, f_le, f_sub, f_add, f_mul, f_div, f_mod, f_pow, f_eqI, f_neI, f_isN, f_notN, f_neg, f_eqS, r_lc, x_lc, x_lcR, r_yes, f_lenS, f_lenL, f_lenT, f_lenC, f_addS, List.getElem?_cons_zero, List.getElem?_cons_succ, List.set_cons_zero, List.set_cons_succ, List.map_cons, List.map_nil, List.length_cons, List.length_nil, List.cons_append, List.nil_append, List.replicate_succ, List.replicate_zero, Nat.reduceAdd, Nat.reduceSub, Nat.reduceLeDiff, Nat.reduceLT, Nat.zero_add, if_true, if_false, Bool.false_eq_true, reduceIte, Option.bind_some, sizeLine_eq, decide_true, decide_false, Int.reduceLT, Int.reduceLE, Int.reduceNeg, Int.reducePow, Int.reduceMul, Int.reduceSub, Int.reduceAdd, Int.reduceEq, Int.reduceToNat, Int.reduceNe, Nat.reduceEqDiff, decide_eq_true_eq, eq_self, and_self, true_and, and_true, not_true_eq_false, not_false_eq_true, e1, e2, d3, e3, e4]
  obtain ⟨y, a2, y0, y1, L2, e2⟩ := signsL hn L1 (by omega) (x := "abyz") (m := 1) (by decide +kernel) (by decide +kernel) (by decide +kernel) (by omega) (by omega)
  obtain ⟨k, a3, k0, k1, L3, e3⟩ := takeL hn L2 (by omega) (m := 9) (by omega) (by omega)
  obtain ⟨z, a4, z0, z1, L4, e4⟩ := signsL hn L3 (by omega) (x := "azm059") (by decide +kernel) (by decide +kernel) (by decide +kernel) k0 (by omega)
  have hyz : (y ++ z).length = y.length + z.length := app_len y z
  by_cases c2 : w = 2
  · subst c2
    refine ⟨y ++ z, a4, by omega, L4.mono (by omega), ?_⟩
    simp (disch := first | omega | (simp only [List.length_cons, List.length_nil, List.length_map, List.length_append, sizeLine_eq] <;> omega)) only [x_bok, x_bex, x_tok, x_tex, x_tt, x_tst, x_tex2, x_tex3, x_args, x_argx, x_nx, x_ret, x_brk, x_cnt, x_exc, x_lift, x_optS, x_getV, r_run, x_eret, x_enx, x_eexc, r_seq, r_asg, k_asg, r_ret, k_ret, r_drop, k_drop, r_if, r_var, r_c, r_op, k_op, k_op2, r_un, k_un, k_false, k_true, r_chain, k_ch, k_ch2, k_ch3, r_and, r_or, r_not, r_ife, r_nil, r_cons, k_cons, k_cons2, r_lst, k_lst, r_tup, k_tup, x_mkT, x_mkF, r_call, k_call1, k_call2, k_call3, k_call4, k_call5, k_call6, k_call7, k_call8, r_bi, k_bi, r_is, k_is, r_bm, k_bmS, k_bm2, r_bm0, k_bm0S, r_sl, k_sl, k_sl2, k_sl3, r_part0, r_part, k_part, r_any, k_anyL, k_anyT, k_anyC, k_anyS, r_enumA, k_enumL, k_enumS, r_range1, k_range1, r_range2, k_range2, r_setA, k_set, k_set2, r_name, r_tnil, r_tcons, r_ttup, r_for, x_for, v_int, v_str, f_gt, f_ge, f_lt, f_le, f_sub, f_add, f_mul, f_div, f_mod, f_pow, f_eqI, f_neI, f_isN, f_notN, f_neg, f_eqS, r_lc, x_lc, x_lcR, r_yes, f_lenS, f_lenL, f_lenT, f_lenC, f_addS, List.getElem?_cons_zero, List.getElem?_cons_succ, List.set_cons_zero, List.set_cons_succ, List.map_cons, List.map_nil, List.length_cons, List.length_nil, List.cons_append, List.nil_append, List.replicate_succ, List.replicate_zero, Nat.reduceAdd, Nat.reduceSub, Nat.reduceLeDiff, Nat.reduceLT, Nat.zero_add, if_true, if_false, Bool.false_eq_true, reduceIte, Option.bind_some, sizeLine_eq, decide_true, decide_false, Int.reduceLT, Int.reduceLE, Int.reduceNeg, Int.reducePow, Int.reduceMul, Int.reduceSub, Int.reduceAdd, Int.reduceEq, Int.reduceToNat, Int.reduceNe, Nat.reduceEqDiff, decide_eq_true_eq, eq_self, and_self, true_and, and_true, not_true_eq_false, not_false_eq_true, e1, e2, e3, e4]
  obtain ⟨p, a5, p0, p1, L5, e5⟩ := takeL hn L4 (by omega) (m := ((y ++ z).length : Int)) (by omega) (by omega)
  obtain ⟨q, a6, q0, q1, L6, e6⟩ := takeL hn L5 (by omega) (m := 8) (by omega) (by omega)
  obtain ⟨d, d1, d2, d3⟩ := f_ixL (xs := [.str "A", .str ".", .str "0", .str " ", .str "_", .str "\n", .str "", .str "a"]) (i := q) (ah := a6) q0 (by simpa using q1)
  obtain ⟨x, rfl, hx⟩ : ∃ x : Str, d = .str x ∧ x.length ≤ 4 := by
    simp only [List.mem_cons, List.not_mem_nil, or_false] at d1
    rcases d1 with rfl | rfl | rfl | rfl | rfl | rfl | rfl | rfl <;> exact ⟨_, rfl, by decide +kernel⟩
  have cut : ∀ lo hi, (⟨(LD.cutD (y ++ z).cps.toList lo hi).toArray⟩ : Str).length ≤ (y ++ z).length := fun lo hi => by
    rw [str_len, str_len]
    simp only [LD.cutD, List.length_take, List.length_drop]
    omega
  have s1 : fSl true (.str (y ++ z)) none (some p) a5 = some (.str ⟨(LD.cutD (y ++ z).cps.toList none (some p)).toArray⟩, a5) := by
    simp only [fSl, view]; rw [if_pos (by rw [sizeLine_eq]; omega)]
  have s2 : fSl true (.str (y ++ z)) (some (p + 1)) none a6 = some (.str ⟨(LD.cutD (y ++ z).cps.toList (some (p + 1)) none).toArray⟩, a6) := by
    simp only [fSl, view]; rw [if_pos (by rw [sizeLine_eq]; omega)]
  have h1 := cut none (some p)
  have h2 := cut (some (p + 1)) none
  refine ⟨⟨(LD.cutD (y ++ z).cps.toList none (some p)).toArray⟩ ++ x ++ ⟨(LD.cutD (y ++ z).cps.toList (some (p + 1)) none).toArray⟩, a6, ?_, L6.mono (by omega), ?_⟩
  · simp only [app_len]; omega
  · have p1 := f_addS (fz := true) (x := ⟨(LD.cutD (y ++ z).cps.toList none (some p)).toArray⟩) (y := x) (ah := a6) (by omega)
    have p2 := f_addS (fz := true) (x := ⟨(LD.cutD (y ++ z).cps.toList none (some p)).toArray⟩ ++ x) (y := ⟨(LD.cutD (y ++ z).cps.toList (some (p + 1)) none).toArray⟩) (ah := a6) (by rw [app_len]; omega)
    simp (disch := first | omega | (simp only [List.length_cons, List.length_nil, List.length_map, List.length_append, sizeLine_eq] <;> omega)) only [x_bok, x_bex, x_tok, x_tex, x_tt, x_tst, x_tex2, x_tex3, x_args, x_argx, x_nx, x_ret, x_brk, x_cnt, x_exc, x_lift, x_optS, x_getV, r_run, x_eret, x_enx, x_eexc, r_seq, r_asg, k_asg, r_ret, k_ret, r_drop, k_drop, r_if, r_var, r_c, r_op, k_op, k_op2, r_un, k_un, k_false, k_true, r_chain, k_ch, k_ch2, k_ch3, r_and, r_or, r_not, r_ife, r_nil, r_cons, k_cons, k_cons2, r_lst, k_lst, r_tup, k_tup, x_mkT, x_mkF, r_call, k_call1, k_call2, k_call3, k_call4, k_call5, k_call6, k_call7, k_call8, r_bi, k_bi, r_is, k_is, r_bm, k_bmS, k_bm2, r_bm0, k_bm0S, r_sl, k_sl, k_sl2, k_sl3, r_part0, r_part, k_part, r_any, k_anyL, k_anyT, k_anyC, k_anyS, r_enumA, k_enumL, k_enumS, r_range1, k_range1, r_range2, k_range2, r_setA, k_set, k_set2, r_name, r_tnil, r_tcons, r_ttup, r_for, x_for, v_int, v_str, f_gt, f_ge, f_lt, f_le, f_sub, f_add, f_mul, f_div, f_mod, f_pow, f_eqI, f_neI, f_isN, f_notN, f_neg, f_eqS, r_lc, x_lc, x_lcR, r_yes, f_lenS, f_lenL, f_lenT, f_lenC, f_addS, List.getElem?_cons_zero, List.getElem?_cons_succ, List.set_cons_zero, List.set_cons_succ, List.map_cons, List.map_nil, List.length_cons, List.length_nil, List.cons_append, List.nil_append, List.replicate_succ, List.replicate_zero, Nat.reduceAdd, Nat.reduceSub, Nat.reduceLeDiff, Nat.reduceLT, Nat.zero_add, if_true, if_false, Bool.false_eq_true, reduceIte, Option.bind_some, sizeLine_eq, decide_true, decide_false, Int.reduceLT, Int.reduceLE, Int.reduceNeg, Int.reducePow, Int.reduceMul, Int.reduceSub, Int.reduceAdd, Int.reduceEq, Int.reduceToNat, Int.reduceNe, Nat.reduceEqDiff, decide_eq_true_eq, eq_self, and_self, true_and, and_true, not_true_eq_false, not_false_eq_true, e1, e2, e3, e4, e5, e6, c0, c1, c2, s1, s2, d3, p1, p2]

def allIn (x s : Str) : Bool := x.cps.toList.all fun c => decide (c ∈ s.cps.toList)
theorem f_inC {neg : Bool} {c : Nat} {s : Str} {ah : AH} : fInA neg (.str ⟨#[c]⟩) (.str s) ah = some (.bl (inOut neg (decide (c ∈ s.cps.toList))), ah) := rfl
theorem are_ok {x s : Str} {ah : AH} : g_are_signs [.str x, .str s] ah = .ok (.bl (allIn x s)) ah := by
  unfold g_are_signs m_are_signs
  have key : ∀ (cs : List Nat) (sd : SD), sd[1]? = some (some (.str s)) → sd.length = 3 →
      (∃ s', forD (tgName 2) (mIfS (mOp (fInA true) (mVar 2) (mVar 1)) (mRet (mC (.bl false))) .nx) (cs.map fun c => D.str ⟨#[c]⟩) sd ah = .nx s' ah ∧ cs.all (fun c => decide (c ∈ s.cps.toList)) = true) ∨
      (forD (tgName 2) (mIfS (mOp (fInA true) (mVar 2) (mVar 1)) (mRet (mC (.bl false))) .nx) (cs.map fun c => D.str ⟨#[c]⟩) sd ah = .ret (.bl false) ah ∧ cs.all (fun c => decide (c ∈ s.cps.toList)) = false) := fun cs => by
    induction cs with
    | nil => exact fun sd _ _ => .inl ⟨sd, rfl, rfl⟩
    | cons c cs ih =>
      intro sd h1 hl
      have g2 : (sd.set 2 (some (.str ⟨#[c]⟩)))[2]? = some (some (.str ⟨#[c]⟩)) := by simp [hl]
      have g1 : (sd.set 2 (some (.str ⟨#[c]⟩)))[1]? = some (some (.str s)) := by rw [List.getElem?_set_ne (by decide)]; exact h1
      by_cases hc : c ∈ s.cps.toList
      · have e : forD (tgName 2) (mIfS (mOp (fInA true) (mVar 2) (mVar 1)) (mRet (mC (.bl false))) .nx) ((c :: cs).map fun c => D.str ⟨#[c]⟩) sd ah = _ := for_nx (a := ah) (s := sd.set 2 (some (.str ⟨#[c]⟩))) rfl (by simp (disch := first | omega | (simp only [List.length_cons, List.length_nil, List.length_map, List.length_append, sizeLine_eq] <;> omega)) only [x_bok, x_bex, x_tok, x_tex, x_tt, x_tst, x_tex2, x_tex3, x_args, x_argx, x_nx, x_ret, x_brk, x_cnt, x_exc, x_lift, x_optS, x_getV, r_run, x_eret, x_enx, x_eexc, r_seq, r_asg, k_asg, r_ret, k_ret, r_drop, k_drop, r_if, r_var, r_c, r_op, k_op, k_op2, r_un, k_un, k_false, k_true, r_chain, k_ch, k_ch2, k_ch3, r_and, r_or, r_not, r_ife, r_nil, r_cons, k_cons, k_cons2, r_lst, k_lst, r_tup, k_tup, x_mkT, x_mkF, r_call, k_call1, k_call2, k_call3, k_call4, k_call5, k_call6, k_call7, k_call8, r_bi, k_bi, r_is, k_is, r_bm, k_bmS, k_bm2, r_bm0, k_bm0S, r_sl, k_sl, k_sl2, k_sl3, r_part0, r_part, k_part, r_any, k_anyL, k_anyT, k_anyC, k_anyS, r_enumA, k_enumL, k_enumS, r_range1, k_range1, r_range2, k_range2, r_setA, k_set, k_set2, r_name, r_tnil, r_tcons, r_ttup, r_for, x_for, v_int, v_str, f_gt, f_ge, f_lt, f_le, f_sub, f_add, f_mul, f_div, f_mod, f_pow, f_eqI, f_neI, f_isN, f_notN, f_neg, f_eqS, r_lc, x_lc, x_lcR, r_yes, f_lenS, f_lenL, f_lenT, f_lenC, f_addS, List.getElem?_cons_zero, List.getElem?_cons_succ, List.set_cons_zero, List.set_cons_succ, List.map_cons, List.map_nil, List.length_cons, List.length_nil, List.cons_append, List.nil_append, List.replicate_succ, List.replicate_zero, Nat.reduceAdd, Nat.reduceSub, Nat.reduceLeDiff, Nat.reduceLT, Nat.zero_add, if_true, if_false, Bool.false_eq_true, reduceIte, Option.bind_some, sizeLine_eq, decide_true, decide_false, Int.reduceLT, Int.reduceLE, Int.reduceNeg, Int.reducePow, Int.reduceMul, Int.reduceSub, Int.reduceAdd, Int.reduceEq, Int.reduceToNat, Int.reduceNe, Nat.reduceEqDiff, decide_eq_true_eq, eq_self, and_self, true_and, and_true, not_true_eq_false, not_false_eq_true, g1, g2, f_inC, inOut, hc, Bool.not_true])
        rw [e]
        rcases ih (sd.set 2 (some (.str ⟨#[c]⟩))) g1 (by simpa using hl) with ⟨s', h2, h3⟩ | ⟨h2, h3⟩
        · exact .inl ⟨s', h2, by simp only [List.all_cons, hc, decide_true, Bool.true_and, h3]⟩
        · exact .inr ⟨h2, by simp only [List.all_cons, hc, decide_true, Bool.true_and, h3]⟩
      · refine .inr ⟨?_, by simp only [List.all_cons, hc, decide_false, Bool.false_and]⟩
        exact for_ret rfl (by simp (disch := first | omega | (simp only [List.length_cons, List.length_nil, List.length_map, List.length_append, sizeLine_eq] <;> omega)) only [x_bok, x_bex, x_tok, x_tex, x_tt, x_tst, x_tex2, x_tex3, x_args, x_argx, x_nx, x_ret, x_brk, x_cnt, x_exc, x_lift, x_optS, x_getV, r_run, x_eret, x_enx, x_eexc, r_seq, r_asg, k_asg, r_ret, k_ret, r_drop, k_drop, r_if, r_var, r_c, r_op, k_op, k_op2, r_un, k_un, k_false, k_true, r_chain, k_ch, k_ch2, k_ch3, r_and, r_or, r_not, r_ife, r_nil, r_cons, k_cons, k_cons2, r_lst, k_lst, r_tup, k_tup, x_mkT, x_mkF, r_call, k_call1, k_call2, k_call3, k_call4, k_call5, k_call6, k_call7, k_call8, r_bi, k_bi, r_is, k_is, r_bm, k_bmS, k_bm2, r_bm0, k_bm0S, r_sl, k_sl, k_sl2, k_sl3, r_part0, r_part, k_part, r_any, k_anyL, k_anyT, k_anyC, k_anyS, r_enumA, k_enumL, k_enumS, r_range1, k_range1, r_range2, k_range2, r_setA, k_set, k_set2, r_name, r_tnil, r_tcons, r_ttup, r_for, x_for, v_int, v_str, f_gt, f_ge, f_lt, f_le, f_sub, f_add, f_mul, f_div, f_mod, f_pow, f_eqI, f_neI, f_isN, f_notN, f_neg, f_eqS, r_lc, x_lc, x_lcR, r_yes, f_lenS, f_lenL, f_lenT, f_lenC, f_addS, List.getElem?_cons_zero, List.getElem?_cons_succ, List.set_cons_zero, List.set_cons_succ, List.map_cons, List.map_nil, List.length_cons, List.length_nil, List.cons_append, List.nil_append, List.replicate_succ, List.replicate_zero, Nat.reduceAdd, Nat.reduceSub, Nat.reduceLeDiff, Nat.reduceLT, Nat.zero_add, if_true, if_false, Bool.false_eq_true, reduceIte, Option.bind_some, sizeLine_eq, decide_true, decide_false, Int.reduceLT, Int.reduceLE, Int.reduceNeg, Int.reducePow, Int.reduceMul, Int.reduceSub, Int.reduceAdd, Int.reduceEq, Int.reduceToNat, Int.reduceNe, Nat.reduceEqDiff, decide_eq_true_eq, eq_self, and_self, true_and, and_true, not_true_eq_false, not_false_eq_true, g1, g2, f_inC, inOut, hc, Bool.not_false])
  unfold allIn
  rcases key x.cps.toList [some (.str x), some (.str s), none] rfl rfl with ⟨s', h2, h3⟩ | ⟨h2, h3⟩
  · rw [h3]
    simp (disch := first | omega | (simp only [List.length_cons, List.length_nil, List.length_map, List.length_append, sizeLine_eq] <;> omega)) only [x_bok, x_bex, x_tok, x_tex, x_tt, x_tst, x_tex2, x_tex3, x_args, x_argx, x_nx, x_ret, x_brk, x_cnt, x_exc, x_lift, x_optS, x_getV, r_run, x_eret, x_enx, x_eexc, r_seq, r_asg, k_asg, r_ret, k_ret, r_drop, k_drop, r_if, r_var, r_c, r_op, k_op, k_op2, r_un, k_un, k_false, k_true, r_chain, k_ch, k_ch2, k_ch3, r_and, r_or, r_not, r_ife, r_nil, r_cons, k_cons, k_cons2, r_lst, k_lst, r_tup, k_tup, x_mkT, x_mkF, r_call, k_call1, k_call2, k_call3, k_call4, k_call5, k_call6, k_call7, k_call8, r_bi, k_bi, r_is, k_is, r_bm, k_bmS, k_bm2, r_bm0, k_bm0S, r_sl, k_sl, k_sl2, k_sl3, r_part0, r_part, k_part, r_any, k_anyL, k_anyT, k_anyC, k_anyS, r_enumA, k_enumL, k_enumS, r_range1, k_range1, r_range2, k_range2, r_setA, k_set, k_set2, r_name, r_tnil, r_tcons, r_ttup, r_for, x_for, v_int, v_str, f_gt, f_ge, f_lt, f_le, f_sub, f_add, f_mul, f_div, f_mod, f_pow, f_eqI, f_neI, f_isN, f_notN, f_neg, f_eqS, r_lc, x_lc, x_lcR, r_yes, f_lenS, f_lenL, f_lenT, f_lenC, f_addS, List.getElem?_cons_zero, List.getElem?_cons_succ, List.set_cons_zero, List.set_cons_succ, List.map_cons, List.map_nil, List.length_cons, List.length_nil, List.cons_append, List.nil_append, List.replicate_succ, List.replicate_zero, Nat.reduceAdd, Nat.reduceSub, Nat.reduceLeDiff, Nat.reduceLT, Nat.zero_add, if_true, if_false, Bool.false_eq_true, reduceIte, Option.bind_some, sizeLine_eq, decide_true, decide_false, Int.reduceLT, Int.reduceLE, Int.reduceNeg, Int.reducePow, Int.reduceMul, Int.reduceSub, Int.reduceAdd, Int.reduceEq, Int.reduceToNat, Int.reduceNe, Nat.reduceEqDiff, decide_eq_true_eq, eq_self, and_self, true_and, and_true, not_true_eq_false, not_false_eq_true, signsOf, h2]
  · rw [h3]
    simp (disch := first | omega | (simp only [List.length_cons, List.length_nil, List.length_map, List.length_append, sizeLine_eq] <;> omega)) only [x_bok, x_bex, x_tok, x_tex, x_tt, x_tst, x_tex2, x_tex3, x_args, x_argx, x_nx, x_ret, x_brk, x_cnt, x_exc, x_lift, x_optS, x_getV, r_run, x_eret, x_enx, x_eexc, r_seq, r_asg, k_asg, r_ret, k_ret, r_drop, k_drop, r_if, r_var, r_c, r_op, k_op, k_op2, r_un, k_un, k_false, k_true, r_chain, k_ch, k_ch2, k_ch3, r_and, r_or, r_not, r_ife, r_nil, r_cons, k_cons, k_cons2, r_lst, k_lst, r_tup, k_tup, x_mkT, x_mkF, r_call, k_call1, k_call2, k_call3, k_call4, k_call5, k_call6, k_call7, k_call8, r_bi, k_bi, r_is, k_is, r_bm, k_bmS, k_bm2, r_bm0, k_bm0S, r_sl, k_sl, k_sl2, k_sl3, r_part0, r_part, k_part, r_any, k_anyL, k_anyT, k_anyC, k_anyS, r_enumA, k_enumL, k_enumS, r_range1, k_range1, r_range2, k_range2, r_setA, k_set, k_set2, r_name, r_tnil, r_tcons, r_ttup, r_for, x_for, v_int, v_str, f_gt, f_ge, f_lt, f_le, f_sub, f_add, f_mul, f_div, f_mod, f_pow, f_eqI, f_neI, f_isN, f_notN, f_neg, f_eqS, r_lc, x_lc, x_lcR, r_yes, f_lenS, f_lenL, f_lenT, f_lenC, f_addS, List.getElem?_cons_zero, List.getElem?_cons_succ, List.set_cons_zero, List.set_cons_succ, List.map_cons, List.map_nil, List.length_cons, List.length_nil, List.cons_append, List.nil_append, List.replicate_succ, List.replicate_zero, Nat.reduceAdd, Nat.reduceSub, Nat.reduceLeDiff, Nat.reduceLT, Nat.zero_add, if_true, if_false, Bool.false_eq_true, reduceIte, Option.bind_some, sizeLine_eq, decide_true, decide_false, Int.reduceLT, Int.reduceLE, Int.reduceNeg, Int.reducePow, Int.reduceMul, Int.reduceSub, Int.reduceAdd, Int.reduceEq, Int.reduceToNat, Int.reduceNe, Nat.reduceEqDiff, decide_eq_true_eq, eq_self, and_self, true_and, and_true, not_true_eq_false, not_false_eq_true, signsOf, h2]
/-! ### things -/
inductive Thing : D → Prop where
  | int (i : Int) : Thing (.int i)
  | bl (b : Bool) : Thing (.bl b)
  | non : Thing .non
  | str (x : Str) (h : x.length ≤ 100) : Thing (.str x)
  | lst (xs : List D) : Thing (.lst xs)
  | tup (xs : List D) : Thing (.tup xs)
  | dic (ks vs : List D) : Thing (.dic ks vs)
def isI : D → Bool
  | .int _ => true
  | _ => false
def isSt : D → Bool
  | .str _ => true
  | _ => false
theorem whole_ok {d : D} (h : Thing d) (ah : AH) : g_is_whole [d] ah = .ok (.bl (isI d)) ah := by
  unfold g_is_whole m_is_whole
  cases h <;> simp (disch := first | omega | (simp only [List.length_cons, List.length_nil, List.length_map, List.length_append, sizeLine_eq] <;> omega)) only [x_bok, x_bex, x_tok, x_tex, x_tt, x_tst, x_tex2, x_tex3, x_args, x_argx, x_nx, x_ret, x_brk, x_cnt, x_exc, x_lift, x_optS, x_getV, r_run, x_eret, x_enx, x_eexc, r_seq, r_asg, k_asg, r_ret, k_ret, r_drop, k_drop, r_if, r_var, r_c, r_op, k_op, k_op2, r_un, k_un, k_false, k_true, r_chain, k_ch, k_ch2, k_ch3, r_and, r_or, r_not, r_ife, r_nil, r_cons, k_cons, k_cons2, r_lst, k_lst, r_tup, k_tup, x_mkT, x_mkF, r_call, k_call1, k_call2, k_call3, k_call4, k_call5, k_call6, k_call7, k_call8, r_bi, k_bi, r_is, k_is, r_bm, k_bmS, k_bm2, r_bm0, k_bm0S, r_sl, k_sl, k_sl2, k_sl3, r_part0, r_part, k_part, r_any, k_anyL, k_anyT, k_anyC, k_anyS, r_enumA, k_enumL, k_enumS, r_range1, k_range1, r_range2, k_range2, r_setA, k_set, k_set2, r_name, r_tnil, r_tcons, r_ttup, r_for, x_for, v_int, v_str, f_gt, f_ge, f_lt, f_le, f_sub, f_add, f_mul, f_div, f_mod, f_pow, f_eqI, f_neI, f_isN, f_notN, f_neg, f_eqS, r_lc, x_lc, x_lcR, r_yes, f_lenS, f_lenL, f_lenT, f_lenC, f_addS, List.getElem?_cons_zero, List.getElem?_cons_succ, List.set_cons_zero, List.set_cons_succ, List.map_cons, List.map_nil, List.length_cons, List.length_nil, List.cons_append, List.nil_append, List.replicate_succ, List.replicate_zero, Nat.reduceAdd, Nat.reduceSub, Nat.reduceLeDiff, Nat.reduceLT, Nat.zero_add, if_true, if_false, Bool.false_eq_true, reduceIte, Option.bind_some, sizeLine_eq, decide_true, decide_false, Int.reduceLT, Int.reduceLE, Int.reduceNeg, Int.reducePow, Int.reduceMul, Int.reduceSub, Int.reduceAdd, Int.reduceEq, Int.reduceToNat, Int.reduceNe, Nat.reduceEqDiff, decide_eq_true_eq, eq_self, and_self, true_and, and_true, not_true_eq_false, not_false_eq_true, fIs, view, tyN, subTy, List.any_cons, List.any_nil, isI, Bool.or_false] <;> rfl
theorem lwhole_ok {d : D} (h : Thing d) (ah : AH) : g__law_whole [d] ah = .ok (.bl (isI d)) ah := by
  unfold g__law_whole m__law_whole
  cases h <;> simp (disch := first | omega | (simp only [List.length_cons, List.length_nil, List.length_map, List.length_append, sizeLine_eq] <;> omega)) only [x_bok, x_bex, x_tok, x_tex, x_tt, x_tst, x_tex2, x_tex3, x_args, x_argx, x_nx, x_ret, x_brk, x_cnt, x_exc, x_lift, x_optS, x_getV, r_run, x_eret, x_enx, x_eexc, r_seq, r_asg, k_asg, r_ret, k_ret, r_drop, k_drop, r_if, r_var, r_c, r_op, k_op, k_op2, r_un, k_un, k_false, k_true, r_chain, k_ch, k_ch2, k_ch3, r_and, r_or, r_not, r_ife, r_nil, r_cons, k_cons, k_cons2, r_lst, k_lst, r_tup, k_tup, x_mkT, x_mkF, r_call, k_call1, k_call2, k_call3, k_call4, k_call5, k_call6, k_call7, k_call8, r_bi, k_bi, r_is, k_is, r_bm, k_bmS, k_bm2, r_bm0, k_bm0S, r_sl, k_sl, k_sl2, k_sl3, r_part0, r_part, k_part, r_any, k_anyL, k_anyT, k_anyC, k_anyS, r_enumA, k_enumL, k_enumS, r_range1, k_range1, r_range2, k_range2, r_setA, k_set, k_set2, r_name, r_tnil, r_tcons, r_ttup, r_for, x_for, v_int, v_str, f_gt, f_ge, f_lt, f_le, f_sub, f_add, f_mul, f_div, f_mod, f_pow, f_eqI, f_neI, f_isN, f_notN, f_neg, f_eqS, r_lc, x_lc, x_lcR, r_yes, f_lenS, f_lenL, f_lenT, f_lenC, f_addS, List.getElem?_cons_zero, List.getElem?_cons_succ, List.set_cons_zero, List.set_cons_succ, List.map_cons, List.map_nil, List.length_cons, List.length_nil, List.cons_append, List.nil_append, List.replicate_succ, List.replicate_zero, Nat.reduceAdd, Nat.reduceSub, Nat.reduceLeDiff, Nat.reduceLT, Nat.zero_add, if_true, if_false, Bool.false_eq_true, reduceIte, Option.bind_some, sizeLine_eq, decide_true, decide_false, Int.reduceLT, Int.reduceLE, Int.reduceNeg, Int.reducePow, Int.reduceMul, Int.reduceSub, Int.reduceAdd, Int.reduceEq, Int.reduceToNat, Int.reduceNe, Nat.reduceEqDiff, decide_eq_true_eq, eq_self, and_self, true_and, and_true, not_true_eq_false, not_false_eq_true, fIs, view, tyN, subTy, List.any_cons, List.any_nil, isI, Bool.or_false] <;> rfl

theorem list_lt1 (a b : Nat) : decide ([a] < [b]) = decide (a < b) := by
  by_cases h : a < b
  · simp [h, List.cons_lt_cons_iff]
  · simp [h, List.cons_lt_cons_iff]
theorem f_leS {x y : Str} {ah : AH} : fLe (.str x) (.str y) ah = some (.bl (qLe x.cps.toList y.cps.toList), ah) := rfl
theorem le_a (c : Nat) : qLe (Str.ofString "a").cps.toList [c] = decide (97 ≤ c) := by
  have e : (Str.ofString "a").cps.toList = [97] := by decide +kernel
  rw [e]; unfold qLe; rw [list_lt1]
  by_cases h : 97 ≤ c
  · have : ¬ c < 97 := by omega
    simp [h, this]
  · have : c < 97 := by omega
    simp [h, this]
theorem le_z (c : Nat) : qLe [c] (Str.ofString "z").cps.toList = decide (c ≤ 122) := by
  have e : (Str.ofString "z").cps.toList = [122] := by decide +kernel
  rw [e]; unfold qLe; rw [list_lt1]
  by_cases h : c ≤ 122
  · have : ¬ 122 < c := by omega
    simp [h, this]
  · have : 122 < c := by omega
    simp [h, this]
abbrev alnum : Str := "abcdefghijklmnopqrstuvwxyz0123456789"
abbrev letters : Str := "abcdefghijklmnopqrstuvwxyz"
abbrev figures : Str := "0123456789"
theorem in_letters (c : Nat) : c ∈ letters.cps.toList ↔ 97 ≤ c ∧ c ≤ 122 := by
  have e : letters.cps.toList = [97, 98, 99, 100, 101, 102, 103, 104, 105, 106, 107, 108, 109, 110, 111, 112, 113, 114, 115, 116, 117, 118, 119, 120, 121, 122] := by decide +kernel
  rw [e]; simp only [List.mem_cons, List.not_mem_nil, or_false]; omega
theorem in_figures (c : Nat) : c ∈ figures.cps.toList ↔ 48 ≤ c ∧ c ≤ 57 := by
  have e : figures.cps.toList = [48, 49, 50, 51, 52, 53, 54, 55, 56, 57] := by decide +kernel
  rw [e]; simp only [List.mem_cons, List.not_mem_nil, or_false]; omega
theorem in_alnum (c : Nat) : c ∈ alnum.cps.toList ↔ (97 ≤ c ∧ c ≤ 122) ∨ (48 ≤ c ∧ c ≤ 57) := by
  have e : alnum.cps.toList = letters.cps.toList ++ figures.cps.toList := by decide +kernel
  rw [e, List.mem_append, in_letters, in_figures]
def nameB (cs : List Nat) : Bool := match cs with
  | [] => false
  | c :: r => decide ((c :: r).length ≤ 8) && (decide (97 ≤ c) && decide (c ≤ 122)) && (c :: r).all fun c => decide (c ∈ alnum.cps.toList)
theorem name_str {x : Str} (hx : x.length ≤ 100) (ah : AH) : g_is_name [.str x] ah = .ok (.bl (nameB x.cps.toList)) ah := by
  unfold g_is_name m_is_name
  have hl := f_lenS (x := x) (ah := ah) (by omega)
  have it : fIs ["str"] (.str x) ah = some (.bl true, ah) := by simp [fIs, view, tyN, subTy]
  have el := str_len x
  cases hcs : x.cps.toList with
  | nil =>
    rw [hcs] at el
    have h1 : ¬ (1 : Int) ≤ (x.length : Int) := by simp at el; omega
    simp (disch := first | omega | (simp only [List.length_cons, List.length_nil, List.length_map, List.length_append, sizeLine_eq] <;> omega)) only [x_bok, x_bex, x_tok, x_tex, x_tt, x_tst, x_tex2, x_tex3, x_args, x_argx, x_nx, x_ret, x_brk, x_cnt, x_exc, x_lift, x_optS, x_getV, r_run, x_eret, x_enx, x_eexc, r_seq, r_asg, k_asg, r_ret, k_ret, r_drop, k_drop, r_if, r_var, r_c, r_op, k_op, k_op2, r_un, k_un, k_false, k_true, r_chain, k_ch, k_ch2, k_ch3, r_and, r_or, r_not, r_ife, r_nil, r_cons, k_cons, k_cons2, r_lst, k_lst, r_tup, k_tup, x_mkT, x_mkF, r_call, k_call1, k_call2, k_call3, k_call4, k_call5, k_call6, k_call7, k_call8, r_bi, k_bi, r_is, k_is, r_bm, k_bmS, k_bm2, r_bm0, k_bm0S, r_sl, k_sl, k_sl2, k_sl3, r_part0, r_part, k_part, r_any, k_anyL, k_anyT, k_anyC, k_anyS, r_enumA, k_enumL, k_enumS, r_range1, k_range1, r_range2, k_range2, r_setA, k_set, k_set2, r_name, r_tnil, r_tcons, r_ttup, r_for, x_for, v_int, v_str, f_gt, f_ge, f_lt, f_le, f_sub, f_add, f_mul, f_div, f_mod, f_pow, f_eqI, f_neI, f_isN, f_notN, f_neg, f_eqS, r_lc, x_lc, x_lcR, r_yes, f_lenS, f_lenL, f_lenT, f_lenC, f_addS, List.getElem?_cons_zero, List.getElem?_cons_succ, List.set_cons_zero, List.set_cons_succ, List.map_cons, List.map_nil, List.length_cons, List.length_nil, List.cons_append, List.nil_append, List.replicate_succ, List.replicate_zero, Nat.reduceAdd, Nat.reduceSub, Nat.reduceLeDiff, Nat.reduceLT, Nat.zero_add, if_true, if_false, Bool.false_eq_true, reduceIte, Option.bind_some, sizeLine_eq, decide_true, decide_false, Int.reduceLT, Int.reduceLE, Int.reduceNeg, Int.reducePow, Int.reduceMul, Int.reduceSub, Int.reduceAdd, Int.reduceEq, Int.reduceToNat, Int.reduceNe, Nat.reduceEqDiff, decide_eq_true_eq, eq_self, and_self, true_and, and_true, not_true_eq_false, not_false_eq_true, it, hl, h1, nameB]
  | cons c r =>
    rw [hcs] at el
    have h1 : (1 : Int) ≤ (x.length : Int) := by simp at el; omega
    obtain ⟨c', q1, q2, q3⟩ := f_ixS (x := x) (i := 0) (ah := ah) (by omega) (by omega) (by omega)
    rw [hcs] at q2
    have ec : c' = c := by simpa using q2.symm
    subst ec
    by_cases h8 : (x.length : Int) ≤ 8
    · have h8' : (c' :: r).length ≤ 8 := by omega
      by_cases ha : 97 ≤ c'
      · by_cases hz : c' ≤ 122
        · simp (disch := first | omega | (simp only [List.length_cons, List.length_nil, List.length_map, List.length_append, sizeLine_eq] <;> omega)) only [x_bok, x_bex, x_tok, x_tex, x_tt, x_tst, x_tex2, x_tex3, x_args, x_argx, x_nx, x_ret, x_brk, x_cnt, x_exc, x_lift, x_optS, x_getV, r_run, x_eret, x_enx, x_eexc, r_seq, r_asg, k_asg, r_ret, k_ret, r_drop, k_drop, r_if, r_var, r_c, r_op, k_op, k_op2, r_un, k_un, k_false, k_true, r_chain, k_ch, k_ch2, k_ch3, r_and, r_or, r_not, r_ife, r_nil, r_cons, k_cons, k_cons2, r_lst, k_lst, r_tup, k_tup, x_mkT, x_mkF, r_call, k_call1, k_call2, k_call3, k_call4, k_call5, k_call6, k_call7, k_call8, r_bi, k_bi, r_is, k_is, r_bm, k_bmS, k_bm2, r_bm0, k_bm0S, r_sl, k_sl, k_sl2, k_sl3, r_part0, r_part, k_part, r_any, k_anyL, k_anyT, k_anyC, k_anyS, r_enumA, k_enumL, k_enumS, r_range1, k_range1, r_range2, k_range2, r_setA, k_set, k_set2, r_name, r_tnil, r_tcons, r_ttup, r_for, x_for, v_int, v_str, f_gt, f_ge, f_lt, f_le, f_sub, f_add, f_mul, f_div, f_mod, f_pow, f_eqI, f_neI, f_isN, f_notN, f_neg, f_eqS, r_lc, x_lc, x_lcR, r_yes, f_lenS, f_lenL, f_lenT, f_lenC, f_addS, List.getElem?_cons_zero, List.getElem?_cons_succ, List.set_cons_zero, List.set_cons_succ, List.map_cons, List.map_nil, List.length_cons, List.length_nil, List.cons_append, List.nil_append, List.replicate_succ, List.replicate_zero, Nat.reduceAdd, Nat.reduceSub, Nat.reduceLeDiff, Nat.reduceLT, Nat.zero_add, if_true, if_false, Bool.false_eq_true, reduceIte, Option.bind_some, sizeLine_eq, decide_true, decide_false, Int.reduceLT, Int.reduceLE, Int.reduceNeg, Int.reducePow, Int.reduceMul, Int.reduceSub, Int.reduceAdd, Int.reduceEq, Int.reduceToNat, Int.reduceNe, Nat.reduceEqDiff, decide_eq_true_eq, eq_self, and_self, true_and, and_true, not_true_eq_false, not_false_eq_true, it, hl, h1, h8, q3, f_leS, le_a, le_z, ha, hz, are_ok]
          have h7 : r.length ≤ 7 := by simpa using h8'
          simp [nameB, h7, ha, hz, allIn, hcs]
        · simp (disch := first | omega | (simp only [List.length_cons, List.length_nil, List.length_map, List.length_append, sizeLine_eq] <;> omega)) only [x_bok, x_bex, x_tok, x_tex, x_tt, x_tst, x_tex2, x_tex3, x_args, x_argx, x_nx, x_ret, x_brk, x_cnt, x_exc, x_lift, x_optS, x_getV, r_run, x_eret, x_enx, x_eexc, r_seq, r_asg, k_asg, r_ret, k_ret, r_drop, k_drop, r_if, r_var, r_c, r_op, k_op, k_op2, r_un, k_un, k_false, k_true, r_chain, k_ch, k_ch2, k_ch3, r_and, r_or, r_not, r_ife, r_nil, r_cons, k_cons, k_cons2, r_lst, k_lst, r_tup, k_tup, x_mkT, x_mkF, r_call, k_call1, k_call2, k_call3, k_call4, k_call5, k_call6, k_call7, k_call8, r_bi, k_bi, r_is, k_is, r_bm, k_bmS, k_bm2, r_bm0, k_bm0S, r_sl, k_sl, k_sl2, k_sl3, r_part0, r_part, k_part, r_any, k_anyL, k_anyT, k_anyC, k_anyS, r_enumA, k_enumL, k_enumS, r_range1, k_range1, r_range2, k_range2, r_setA, k_set, k_set2, r_name, r_tnil, r_tcons, r_ttup, r_for, x_for, v_int, v_str, f_gt, f_ge, f_lt, f_le, f_sub, f_add, f_mul, f_div, f_mod, f_pow, f_eqI, f_neI, f_isN, f_notN, f_neg, f_eqS, r_lc, x_lc, x_lcR, r_yes, f_lenS, f_lenL, f_lenT, f_lenC, f_addS, List.getElem?_cons_zero, List.getElem?_cons_succ, List.set_cons_zero, List.set_cons_succ, List.map_cons, List.map_nil, List.length_cons, List.length_nil, List.cons_append, List.nil_append, List.replicate_succ, List.replicate_zero, Nat.reduceAdd, Nat.reduceSub, Nat.reduceLeDiff, Nat.reduceLT, Nat.zero_add, if_true, if_false, Bool.false_eq_true, reduceIte, Option.bind_some, sizeLine_eq, decide_true, decide_false, Int.reduceLT, Int.reduceLE, Int.reduceNeg, Int.reducePow, Int.reduceMul, Int.reduceSub, Int.reduceAdd, Int.reduceEq, Int.reduceToNat, Int.reduceNe, Nat.reduceEqDiff, decide_eq_true_eq, eq_self, and_self, true_and, and_true, not_true_eq_false, not_false_eq_true, it, hl, h1, h8, q3, f_leS, le_a, le_z, ha, hz]
          simp [nameB, hz]
      · simp (disch := first | omega | (simp only [List.length_cons, List.length_nil, List.length_map, List.length_append, sizeLine_eq] <;> omega)) only [x_bok, x_bex, x_tok, x_tex, x_tt, x_tst, x_tex2, x_tex3, x_args, x_argx, x_nx, x_ret, x_brk, x_cnt, x_exc, x_lift, x_optS, x_getV, r_run, x_eret, x_enx, x_eexc, r_seq, r_asg, k_asg, r_ret, k_ret, r_drop, k_drop, r_if, r_var, r_c, r_op, k_op, k_op2, r_un, k_un, k_false, k_true, r_chain, k_ch, k_ch2, k_ch3, r_and, r_or, r_not, r_ife, r_nil, r_cons, k_cons, k_cons2, r_lst, k_lst, r_tup, k_tup, x_mkT, x_mkF, r_call, k_call1, k_call2, k_call3, k_call4, k_call5, k_call6, k_call7, k_call8, r_bi, k_bi, r_is, k_is, r_bm, k_bmS, k_bm2, r_bm0, k_bm0S, r_sl, k_sl, k_sl2, k_sl3, r_part0, r_part, k_part, r_any, k_anyL, k_anyT, k_anyC, k_anyS, r_enumA, k_enumL, k_enumS, r_range1, k_range1, r_range2, k_range2, r_setA, k_set, k_set2, r_name, r_tnil, r_tcons, r_ttup, r_for, x_for, v_int, v_str, f_gt, f_ge, f_lt, f_le, f_sub, f_add, f_mul, f_div, f_mod, f_pow, f_eqI, f_neI, f_isN, f_notN, f_neg, f_eqS, r_lc, x_lc, x_lcR, r_yes, f_lenS, f_lenL, f_lenT, f_lenC, f_addS, List.getElem?_cons_zero, List.getElem?_cons_succ, List.set_cons_zero, List.set_cons_succ, List.map_cons, List.map_nil, List.length_cons, List.length_nil, List.cons_append, List.nil_append, List.replicate_succ, List.replicate_zero, Nat.reduceAdd, Nat.reduceSub, Nat.reduceLeDiff, Nat.reduceLT, Nat.zero_add, if_true, if_false, Bool.false_eq_true, reduceIte, Option.bind_some, sizeLine_eq, decide_true, decide_false, Int.reduceLT, Int.reduceLE, Int.reduceNeg, Int.reducePow, Int.reduceMul, Int.reduceSub, Int.reduceAdd, Int.reduceEq, Int.reduceToNat, Int.reduceNe, Nat.reduceEqDiff, decide_eq_true_eq, eq_self, and_self, true_and, and_true, not_true_eq_false, not_false_eq_true, it, hl, h1, h8, q3, f_leS, le_a, le_z, ha]
        simp [nameB, ha]
    · have h8' : ¬ (c' :: r).length ≤ 8 := by omega
      simp (disch := first | omega | (simp only [List.length_cons, List.length_nil, List.length_map, List.length_append, sizeLine_eq] <;> omega)) only [x_bok, x_bex, x_tok, x_tex, x_tt, x_tst, x_tex2, x_tex3, x_args, x_argx, x_nx, x_ret, x_brk, x_cnt, x_exc, x_lift, x_optS, x_getV, r_run, x_eret, x_enx, x_eexc, r_seq, r_asg, k_asg, r_ret, k_ret, r_drop, k_drop, r_if, r_var, r_c, r_op, k_op, k_op2, r_un, k_un, k_false, k_true, r_chain, k_ch, k_ch2, k_ch3, r_and, r_or, r_not, r_ife, r_nil, r_cons, k_cons, k_cons2, r_lst, k_lst, r_tup, k_tup, x_mkT, x_mkF, r_call, k_call1, k_call2, k_call3, k_call4, k_call5, k_call6, k_call7, k_call8, r_bi, k_bi, r_is, k_is, r_bm, k_bmS, k_bm2, r_bm0, k_bm0S, r_sl, k_sl, k_sl2, k_sl3, r_part0, r_part, k_part, r_any, k_anyL, k_anyT, k_anyC, k_anyS, r_enumA, k_enumL, k_enumS, r_range1, k_range1, r_range2, k_range2, r_setA, k_set, k_set2, r_name, r_tnil, r_tcons, r_ttup, r_for, x_for, v_int, v_str, f_gt, f_ge, f_lt, f_le, f_sub, f_add, f_mul, f_div, f_mod, f_pow, f_eqI, f_neI, f_isN, f_notN, f_neg, f_eqS, r_lc, x_lc, x_lcR, r_yes, f_lenS, f_lenL, f_lenT, f_lenC, f_addS, List.getElem?_cons_zero, List.getElem?_cons_succ, List.set_cons_zero, List.set_cons_succ, List.map_cons, List.map_nil, List.length_cons, List.length_nil, List.cons_append, List.nil_append, List.replicate_succ, List.replicate_zero, Nat.reduceAdd, Nat.reduceSub, Nat.reduceLeDiff, Nat.reduceLT, Nat.zero_add, if_true, if_false, Bool.false_eq_true, reduceIte, Option.bind_some, sizeLine_eq, decide_true, decide_false, Int.reduceLT, Int.reduceLE, Int.reduceNeg, Int.reducePow, Int.reduceMul, Int.reduceSub, Int.reduceAdd, Int.reduceEq, Int.reduceToNat, Int.reduceNe, Nat.reduceEqDiff, decide_eq_true_eq, eq_self, and_self, true_and, and_true, not_true_eq_false, not_false_eq_true, it, hl, h1, h8]
      simp only [nameB, h8', decide_false, Bool.false_and]
theorem name_no {d : D} (h : Thing d) (hs : isSt d = false) (ah : AH) : g_is_name [d] ah = .ok (.bl false) ah := by
  unfold g_is_name m_is_name
  cases h <;> first
    | (cases hs; done)
    | (simp (disch := first | omega | (simp only [List.length_cons, List.length_nil, List.length_map, List.length_append, sizeLine_eq] <;> omega)) only [x_bok, x_bex, x_tok, x_tex, x_tt, x_tst, x_tex2, x_tex3, x_args, x_argx, x_nx, x_ret, x_brk, x_cnt, x_exc, x_lift, x_optS, x_getV, r_run, x_eret, x_enx, x_eexc, r_seq, r_asg, k_asg, r_ret, k_ret, r_drop, k_drop, r_if, r_var, r_c, r_op, k_op, k_op2, r_un, k_un, k_false, k_true, r_chain, k_ch, k_ch2, k_ch3, r_and, r_or, r_not, r_ife, r_nil, r_cons, k_cons, k_cons2, r_lst, k_lst, r_tup, k_tup, x_mkT, x_mkF, r_call, k_call1, k_call2, k_call3, k_call4, k_call5, k_call6, k_call7, k_call8, r_bi, k_bi, r_is, k_is, r_bm, k_bmS, k_bm2, r_bm0, k_bm0S, r_sl, k_sl, k_sl2, k_sl3, r_part0, r_part, k_part, r_any, k_anyL, k_anyT, k_anyC, k_anyS, r_enumA, k_enumL, k_enumS, r_range1, k_range1, r_range2, k_range2, r_setA, k_set, k_set2, r_name, r_tnil, r_tcons, r_ttup, r_for, x_for, v_int, v_str, f_gt, f_ge, f_lt, f_le, f_sub, f_add, f_mul, f_div, f_mod, f_pow, f_eqI, f_neI, f_isN, f_notN, f_neg, f_eqS, r_lc, x_lc, x_lcR, r_yes, f_lenS, f_lenL, f_lenT, f_lenC, f_addS, List.getElem?_cons_zero, List.getElem?_cons_succ, List.set_cons_zero, List.set_cons_succ, List.map_cons, List.map_nil, List.length_cons, List.length_nil, List.cons_append, List.nil_append, List.replicate_succ, List.replicate_zero, Nat.reduceAdd, Nat.reduceSub, Nat.reduceLeDiff, Nat.reduceLT, Nat.zero_add, if_true, if_false, Bool.false_eq_true, reduceIte, Option.bind_some, sizeLine_eq, decide_true, decide_false, Int.reduceLT, Int.reduceLE, Int.reduceNeg, Int.reducePow, Int.reduceMul, Int.reduceSub, Int.reduceAdd, Int.reduceEq, Int.reduceToNat, Int.reduceNe, Nat.reduceEqDiff, decide_eq_true_eq, eq_self, and_self, true_and, and_true, not_true_eq_false, not_false_eq_true, fIs, view, tyN, subTy, List.any_cons, List.any_nil, Bool.or_false]; rfl)
theorem lis_no {d : D} (h : Thing d) (hs : isSt d = false) (ah : AH) : g__law_is [d] ah = .ok (.bl false) ah := by
  unfold g__law_is m__law_is
  cases h <;> first
    | (cases hs; done)
    | (simp (disch := first | omega | (simp only [List.length_cons, List.length_nil, List.length_map, List.length_append, sizeLine_eq] <;> omega)) only [x_bok, x_bex, x_tok, x_tex, x_tt, x_tst, x_tex2, x_tex3, x_args, x_argx, x_nx, x_ret, x_brk, x_cnt, x_exc, x_lift, x_optS, x_getV, r_run, x_eret, x_enx, x_eexc, r_seq, r_asg, k_asg, r_ret, k_ret, r_drop, k_drop, r_if, r_var, r_c, r_op, k_op, k_op2, r_un, k_un, k_false, k_true, r_chain, k_ch, k_ch2, k_ch3, r_and, r_or, r_not, r_ife, r_nil, r_cons, k_cons, k_cons2, r_lst, k_lst, r_tup, k_tup, x_mkT, x_mkF, r_call, k_call1, k_call2, k_call3, k_call4, k_call5, k_call6, k_call7, k_call8, r_bi, k_bi, r_is, k_is, r_bm, k_bmS, k_bm2, r_bm0, k_bm0S, r_sl, k_sl, k_sl2, k_sl3, r_part0, r_part, k_part, r_any, k_anyL, k_anyT, k_anyC, k_anyS, r_enumA, k_enumL, k_enumS, r_range1, k_range1, r_range2, k_range2, r_setA, k_set, k_set2, r_name, r_tnil, r_tcons, r_ttup, r_for, x_for, v_int, v_str, f_gt, f_ge, f_lt, f_le, f_sub, f_add, f_mul, f_div, f_mod, f_pow, f_eqI, f_neI, f_isN, f_notN, f_neg, f_eqS, r_lc, x_lc, x_lcR, r_yes, f_lenS, f_lenL, f_lenT, f_lenC, f_addS, List.getElem?_cons_zero, List.getElem?_cons_succ, List.set_cons_zero, List.set_cons_succ, List.map_cons, List.map_nil, List.length_cons, List.length_nil, List.cons_append, List.nil_append, List.replicate_succ, List.replicate_zero, Nat.reduceAdd, Nat.reduceSub, Nat.reduceLeDiff, Nat.reduceLT, Nat.zero_add, if_true, if_false, Bool.false_eq_true, reduceIte, Option.bind_some, sizeLine_eq, decide_true, decide_false, Int.reduceLT, Int.reduceLE, Int.reduceNeg, Int.reducePow, Int.reduceMul, Int.reduceSub, Int.reduceAdd, Int.reduceEq, Int.reduceToNat, Int.reduceNe, Nat.reduceEqDiff, decide_eq_true_eq, eq_self, and_self, true_and, and_true, not_true_eq_false, not_false_eq_true, fIs, view, tyN, subTy, List.any_cons, List.any_nil, Bool.or_false]; rfl)
theorem num_no {d : D} (h : Thing d) (hs : isSt d = false) (ah : AH) : g_number_of [d] ah = .ok .non ah := by
  unfold g_number_of m_number_of
  cases h <;> first
    | (cases hs; done)
    | (simp (disch := first | omega | (simp only [List.length_cons, List.length_nil, List.length_map, List.length_append, sizeLine_eq] <;> omega)) only [x_bok, x_bex, x_tok, x_tex, x_tt, x_tst, x_tex2, x_tex3, x_args, x_argx, x_nx, x_ret, x_brk, x_cnt, x_exc, x_lift, x_optS, x_getV, r_run, x_eret, x_enx, x_eexc, r_seq, r_asg, k_asg, r_ret, k_ret, r_drop, k_drop, r_if, r_var, r_c, r_op, k_op, k_op2, r_un, k_un, k_false, k_true, r_chain, k_ch, k_ch2, k_ch3, r_and, r_or, r_not, r_ife, r_nil, r_cons, k_cons, k_cons2, r_lst, k_lst, r_tup, k_tup, x_mkT, x_mkF, r_call, k_call1, k_call2, k_call3, k_call4, k_call5, k_call6, k_call7, k_call8, r_bi, k_bi, r_is, k_is, r_bm, k_bmS, k_bm2, r_bm0, k_bm0S, r_sl, k_sl, k_sl2, k_sl3, r_part0, r_part, k_part, r_any, k_anyL, k_anyT, k_anyC, k_anyS, r_enumA, k_enumL, k_enumS, r_range1, k_range1, r_range2, k_range2, r_setA, k_set, k_set2, r_name, r_tnil, r_tcons, r_ttup, r_for, x_for, v_int, v_str, f_gt, f_ge, f_lt, f_le, f_sub, f_add, f_mul, f_div, f_mod, f_pow, f_eqI, f_neI, f_isN, f_notN, f_neg, f_eqS, r_lc, x_lc, x_lcR, r_yes, f_lenS, f_lenL, f_lenT, f_lenC, f_addS, List.getElem?_cons_zero, List.getElem?_cons_succ, List.set_cons_zero, List.set_cons_succ, List.map_cons, List.map_nil, List.length_cons, List.length_nil, List.cons_append, List.nil_append, List.replicate_succ, List.replicate_zero, Nat.reduceAdd, Nat.reduceSub, Nat.reduceLeDiff, Nat.reduceLT, Nat.zero_add, if_true, if_false, Bool.false_eq_true, reduceIte, Option.bind_some, sizeLine_eq, decide_true, decide_false, Int.reduceLT, Int.reduceLE, Int.reduceNeg, Int.reducePow, Int.reduceMul, Int.reduceSub, Int.reduceAdd, Int.reduceEq, Int.reduceToNat, Int.reduceNe, Nat.reduceEqDiff, decide_eq_true_eq, eq_self, and_self, true_and, and_true, not_true_eq_false, not_false_eq_true, fIs, view, tyN, subTy, List.any_cons, List.any_nil, Bool.or_false]; rfl)
theorem lnum_no {d : D} (h : Thing d) (hs : isSt d = false) (ah : AH) : g__law_number [d] ah = .ok .non ah := by
  unfold g__law_number m__law_number
  cases h <;> first
    | (cases hs; done)
    | (simp (disch := first | omega | (simp only [List.length_cons, List.length_nil, List.length_map, List.length_append, sizeLine_eq] <;> omega)) only [x_bok, x_bex, x_tok, x_tex, x_tt, x_tst, x_tex2, x_tex3, x_args, x_argx, x_nx, x_ret, x_brk, x_cnt, x_exc, x_lift, x_optS, x_getV, r_run, x_eret, x_enx, x_eexc, r_seq, r_asg, k_asg, r_ret, k_ret, r_drop, k_drop, r_if, r_var, r_c, r_op, k_op, k_op2, r_un, k_un, k_false, k_true, r_chain, k_ch, k_ch2, k_ch3, r_and, r_or, r_not, r_ife, r_nil, r_cons, k_cons, k_cons2, r_lst, k_lst, r_tup, k_tup, x_mkT, x_mkF, r_call, k_call1, k_call2, k_call3, k_call4, k_call5, k_call6, k_call7, k_call8, r_bi, k_bi, r_is, k_is, r_bm, k_bmS, k_bm2, r_bm0, k_bm0S, r_sl, k_sl, k_sl2, k_sl3, r_part0, r_part, k_part, r_any, k_anyL, k_anyT, k_anyC, k_anyS, r_enumA, k_enumL, k_enumS, r_range1, k_range1, r_range2, k_range2, r_setA, k_set, k_set2, r_name, r_tnil, r_tcons, r_ttup, r_for, x_for, v_int, v_str, f_gt, f_ge, f_lt, f_le, f_sub, f_add, f_mul, f_div, f_mod, f_pow, f_eqI, f_neI, f_isN, f_notN, f_neg, f_eqS, r_lc, x_lc, x_lcR, r_yes, f_lenS, f_lenL, f_lenT, f_lenC, f_addS, List.getElem?_cons_zero, List.getElem?_cons_succ, List.set_cons_zero, List.set_cons_succ, List.map_cons, List.map_nil, List.length_cons, List.length_nil, List.cons_append, List.nil_append, List.replicate_succ, List.replicate_zero, Nat.reduceAdd, Nat.reduceSub, Nat.reduceLeDiff, Nat.reduceLT, Nat.zero_add, if_true, if_false, Bool.false_eq_true, reduceIte, Option.bind_some, sizeLine_eq, decide_true, decide_false, Int.reduceLT, Int.reduceLE, Int.reduceNeg, Int.reducePow, Int.reduceMul, Int.reduceSub, Int.reduceAdd, Int.reduceEq, Int.reduceToNat, Int.reduceNe, Nat.reduceEqDiff, decide_eq_true_eq, eq_self, and_self, true_and, and_true, not_true_eq_false, not_false_eq_true, fIs, view, tyN, subTy, List.any_cons, List.any_nil, Bool.or_false]; rfl)

theorem lis_loop (ah : AH) : ∀ (cs : List Nat) (k : Nat) (sd : SD), sd.length = 3 →
    let B : MS := (mSeq (mIfS (mOp (fInA false) (mVar 2) (mC (.str letters))) .cnt .nx) (mIfS (mOr (mOp fEq (mVar 1) (mC (.int 0))) (mOp (fInA true) (mVar 2) (mC (.str figures)))) (mRet (mC (.bl false))) .nx))
    let ok := cs.zipIdx k |>.all fun p => decide (97 ≤ p.1 ∧ p.1 ≤ 122) || (decide (p.2 ≠ 0) && decide (48 ≤ p.1 ∧ p.1 ≤ 57))
    (ok = true ∧ ∃ s', forD (tgTup 2 (tgCons (tgName 1) (tgCons (tgName 2) tgNil))) B ((cs.zipIdx k).map fun p => D.tup [.int (p.2 : Nat), .str ⟨#[p.1]⟩]) sd ah = .nx s' ah) ∨
    (ok = false ∧ forD (tgTup 2 (tgCons (tgName 1) (tgCons (tgName 2) tgNil))) B ((cs.zipIdx k).map fun p => D.tup [.int (p.2 : Nat), .str ⟨#[p.1]⟩]) sd ah = .ret (.bl false) ah)
  | [], k, sd, _ => .inl ⟨rfl, sd, rfl⟩
  | c :: cs, k, sd, hl => by
    intro B ok
    have tg : tgTup 2 (tgCons (tgName 1) (tgCons (tgName 2) tgNil)) (.tup [.int (k : Nat), .str ⟨#[c]⟩]) sd = some ((sd.set 1 (some (.int (k : Nat)))).set 2 (some (.str ⟨#[c]⟩))) := by
      simp only [r_ttup, r_tcons, r_tnil, r_name, List.length_cons, List.length_nil, Option.bind_some, if_true, reduceIte]
    have g1 : ((sd.set 1 (some (.int (k : Nat)))).set 2 (some (.str ⟨#[c]⟩)))[1]? = some (some (.int (k : Nat))) := by rw [List.getElem?_set_ne (by decide)]; simp [hl]
    have g2 : ((sd.set 1 (some (.int (k : Nat)))).set 2 (some (.str ⟨#[c]⟩)))[2]? = some (some (.str ⟨#[c]⟩)) := by simp [hl]
    obtain ⟨sd1, hsd⟩ : ∃ sd1, sd1 = (sd.set 1 (some (.int (k : Nat)))).set 2 (some (.str ⟨#[c]⟩)) := ⟨_, rfl⟩
    rw [← hsd] at tg g1 g2
    have hl1 : sd1.length = 3 := by rw [hsd]; simpa using hl
    have ih := lis_loop ah cs (k + 1) sd1 hl1
    have good : (decide (97 ≤ c ∧ c ≤ 122) || (decide (k ≠ 0) && decide (48 ≤ c ∧ c ≤ 57))) = true → (B sd1 ah = .nx sd1 ah ∨ B sd1 ah = .cnt sd1 ah) := fun h => by
      by_cases hc : 97 ≤ c ∧ c ≤ 122
      · exact .inr (by simp (disch := first | omega | (simp only [List.length_cons, List.length_nil, List.length_map, List.length_append, sizeLine_eq] <;> omega)) only [B, x_bok, x_bex, x_tok, x_tex, x_tt, x_tst, x_tex2, x_tex3, x_args, x_argx, x_nx, x_ret, x_brk, x_cnt, x_exc, x_lift, x_optS, x_getV, r_run, x_eret, x_enx, x_eexc, r_seq, r_asg, k_asg, r_ret, k_ret, r_drop, k_drop, r_if, r_var, r_c, r_op, k_op, k_op2, r_un, k_un, k_false, k_true, r_chain, k_ch, k_ch2, k_ch3, r_and, r_or, r_not, r_ife, r_nil, r_cons, k_cons, k_cons2, r_lst, k_lst, r_tup, k_tup, x_mkT, x_mkF, r_call, k_call1, k_call2, k_call3, k_call4, k_call5, k_call6, k_call7, k_call8, r_bi, k_bi, r_is, k_is, r_bm, k_bmS, k_bm2, r_bm0, k_bm0S, r_sl, k_sl, k_sl2, k_sl3, r_part0, r_part, k_part, r_any, k_anyL, k_anyT, k_anyC, k_anyS, r_enumA, k_enumL, k_enumS, r_range1, k_range1, r_range2, k_range2, r_setA, k_set, k_set2, r_name, r_tnil, r_tcons, r_ttup, r_for, x_for, v_int, v_str, f_gt, f_ge, f_lt, f_le, f_sub, f_add, f_mul, f_div, f_mod, f_pow, f_eqI, f_neI, f_isN, f_notN, f_neg, f_eqS, r_lc, x_lc, x_lcR, r_yes, f_lenS, f_lenL, f_lenT, f_lenC, f_addS, List.getElem?_cons_zero, List.getElem?_cons_succ, List.set_cons_zero, List.set_cons_succ, List.map_cons, List.map_nil, List.length_cons, List.length_nil, List.cons_append, List.nil_append, List.replicate_succ, List.replicate_zero, Nat.reduceAdd, Nat.reduceSub, Nat.reduceLeDiff, Nat.reduceLT, Nat.zero_add, if_true, if_false, Bool.false_eq_true, reduceIte, Option.bind_some, sizeLine_eq, decide_true, decide_false, Int.reduceLT, Int.reduceLE, Int.reduceNeg, Int.reducePow, Int.reduceMul, Int.reduceSub, Int.reduceAdd, Int.reduceEq, Int.reduceToNat, Int.reduceNe, Nat.reduceEqDiff, decide_eq_true_eq, eq_self, and_self, true_and, and_true, not_true_eq_false, not_false_eq_true, g1, g2, f_inC, inOut, in_letters, hc])
      · have h' : k ≠ 0 ∧ 48 ≤ c ∧ c ≤ 57 := by simpa [hc] using h
        have hk : ¬ (k : Int) = 0 := by omega
        exact .inl (by simp (disch := first | omega | (simp only [List.length_cons, List.length_nil, List.length_map, List.length_append, sizeLine_eq] <;> omega)) only [B, x_bok, x_bex, x_tok, x_tex, x_tt, x_tst, x_tex2, x_tex3, x_args, x_argx, x_nx, x_ret, x_brk, x_cnt, x_exc, x_lift, x_optS, x_getV, r_run, x_eret, x_enx, x_eexc, r_seq, r_asg, k_asg, r_ret, k_ret, r_drop, k_drop, r_if, r_var, r_c, r_op, k_op, k_op2, r_un, k_un, k_false, k_true, r_chain, k_ch, k_ch2, k_ch3, r_and, r_or, r_not, r_ife, r_nil, r_cons, k_cons, k_cons2, r_lst, k_lst, r_tup, k_tup, x_mkT, x_mkF, r_call, k_call1, k_call2, k_call3, k_call4, k_call5, k_call6, k_call7, k_call8, r_bi, k_bi, r_is, k_is, r_bm, k_bmS, k_bm2, r_bm0, k_bm0S, r_sl, k_sl, k_sl2, k_sl3, r_part0, r_part, k_part, r_any, k_anyL, k_anyT, k_anyC, k_anyS, r_enumA, k_enumL, k_enumS, r_range1, k_range1, r_range2, k_range2, r_setA, k_set, k_set2, r_name, r_tnil, r_tcons, r_ttup, r_for, x_for, v_int, v_str, f_gt, f_ge, f_lt, f_le, f_sub, f_add, f_mul, f_div, f_mod, f_pow, f_eqI, f_neI, f_isN, f_notN, f_neg, f_eqS, r_lc, x_lc, x_lcR, r_yes, f_lenS, f_lenL, f_lenT, f_lenC, f_addS, List.getElem?_cons_zero, List.getElem?_cons_succ, List.set_cons_zero, List.set_cons_succ, List.map_cons, List.map_nil, List.length_cons, List.length_nil, List.cons_append, List.nil_append, List.replicate_succ, List.replicate_zero, Nat.reduceAdd, Nat.reduceSub, Nat.reduceLeDiff, Nat.reduceLT, Nat.zero_add, if_true, if_false, Bool.false_eq_true, reduceIte, Option.bind_some, sizeLine_eq, decide_true, decide_false, Int.reduceLT, Int.reduceLE, Int.reduceNeg, Int.reducePow, Int.reduceMul, Int.reduceSub, Int.reduceAdd, Int.reduceEq, Int.reduceToNat, Int.reduceNe, Nat.reduceEqDiff, decide_eq_true_eq, eq_self, and_self, true_and, and_true, not_true_eq_false, not_false_eq_true, g1, g2, f_inC, inOut, in_letters, in_figures, hc, hk, h'.2, Bool.not_true])
    have bad : (decide (97 ≤ c ∧ c ≤ 122) || (decide (k ≠ 0) && decide (48 ≤ c ∧ c ≤ 57))) = false → B sd1 ah = .ret (.bl false) ah := fun h => by
      have hc : ¬ (97 ≤ c ∧ c ≤ 122) := by intro z; simp [z] at h
      by_cases hk : k = 0
      · have hk' : (k : Int) = 0 := by omega
        simp (disch := first | omega | (simp only [List.length_cons, List.length_nil, List.length_map, List.length_append, sizeLine_eq] <;> omega)) only [B, x_bok, x_bex, x_tok, x_tex, x_tt, x_tst, x_tex2, x_tex3, x_args, x_argx, x_nx, x_ret, x_brk, x_cnt, x_exc, x_lift, x_optS, x_getV, r_run, x_eret, x_enx, x_eexc, r_seq, r_asg, k_asg, r_ret, k_ret, r_drop, k_drop, r_if, r_var, r_c, r_op, k_op, k_op2, r_un, k_un, k_false, k_true, r_chain, k_ch, k_ch2, k_ch3, r_and, r_or, r_not, r_ife, r_nil, r_cons, k_cons, k_cons2, r_lst, k_lst, r_tup, k_tup, x_mkT, x_mkF, r_call, k_call1, k_call2, k_call3, k_call4, k_call5, k_call6, k_call7, k_call8, r_bi, k_bi, r_is, k_is, r_bm, k_bmS, k_bm2, r_bm0, k_bm0S, r_sl, k_sl, k_sl2, k_sl3, r_part0, r_part, k_part, r_any, k_anyL, k_anyT, k_anyC, k_anyS, r_enumA, k_enumL, k_enumS, r_range1, k_range1, r_range2, k_range2, r_setA, k_set, k_set2, r_name, r_tnil, r_tcons, r_ttup, r_for, x_for, v_int, v_str, f_gt, f_ge, f_lt, f_le, f_sub, f_add, f_mul, f_div, f_mod, f_pow, f_eqI, f_neI, f_isN, f_notN, f_neg, f_eqS, r_lc, x_lc, x_lcR, r_yes, f_lenS, f_lenL, f_lenT, f_lenC, f_addS, List.getElem?_cons_zero, List.getElem?_cons_succ, List.set_cons_zero, List.set_cons_succ, List.map_cons, List.map_nil, List.length_cons, List.length_nil, List.cons_append, List.nil_append, List.replicate_succ, List.replicate_zero, Nat.reduceAdd, Nat.reduceSub, Nat.reduceLeDiff, Nat.reduceLT, Nat.zero_add, if_true, if_false, Bool.false_eq_true, reduceIte, Option.bind_some, sizeLine_eq, decide_true, decide_false, Int.reduceLT, Int.reduceLE, Int.reduceNeg, Int.reducePow, Int.reduceMul, Int.reduceSub, Int.reduceAdd, Int.reduceEq, Int.reduceToNat, Int.reduceNe, Nat.reduceEqDiff, decide_eq_true_eq, eq_self, and_self, true_and, and_true, not_true_eq_false, not_false_eq_true, g1, g2, f_inC, inOut, in_letters, in_figures, hc, hk']
      · have hk' : ¬ (k : Int) = 0 := by omega
        have hd : ¬ (48 ≤ c ∧ c ≤ 57) := by intro z; simp [hk, z] at h
        simp (disch := first | omega | (simp only [List.length_cons, List.length_nil, List.length_map, List.length_append, sizeLine_eq] <;> omega)) only [B, x_bok, x_bex, x_tok, x_tex, x_tt, x_tst, x_tex2, x_tex3, x_args, x_argx, x_nx, x_ret, x_brk, x_cnt, x_exc, x_lift, x_optS, x_getV, r_run, x_eret, x_enx, x_eexc, r_seq, r_asg, k_asg, r_ret, k_ret, r_drop, k_drop, r_if, r_var, r_c, r_op, k_op, k_op2, r_un, k_un, k_false, k_true, r_chain, k_ch, k_ch2, k_ch3, r_and, r_or, r_not, r_ife, r_nil, r_cons, k_cons, k_cons2, r_lst, k_lst, r_tup, k_tup, x_mkT, x_mkF, r_call, k_call1, k_call2, k_call3, k_call4, k_call5, k_call6, k_call7, k_call8, r_bi, k_bi, r_is, k_is, r_bm, k_bmS, k_bm2, r_bm0, k_bm0S, r_sl, k_sl, k_sl2, k_sl3, r_part0, r_part, k_part, r_any, k_anyL, k_anyT, k_anyC, k_anyS, r_enumA, k_enumL, k_enumS, r_range1, k_range1, r_range2, k_range2, r_setA, k_set, k_set2, r_name, r_tnil, r_tcons, r_ttup, r_for, x_for, v_int, v_str, f_gt, f_ge, f_lt, f_le, f_sub, f_add, f_mul, f_div, f_mod, f_pow, f_eqI, f_neI, f_isN, f_notN, f_neg, f_eqS, r_lc, x_lc, x_lcR, r_yes, f_lenS, f_lenL, f_lenT, f_lenC, f_addS, List.getElem?_cons_zero, List.getElem?_cons_succ, List.set_cons_zero, List.set_cons_succ, List.map_cons, List.map_nil, List.length_cons, List.length_nil, List.cons_append, List.nil_append, List.replicate_succ, List.replicate_zero, Nat.reduceAdd, Nat.reduceSub, Nat.reduceLeDiff, Nat.reduceLT, Nat.zero_add, if_true, if_false, Bool.false_eq_true, reduceIte, Option.bind_some, sizeLine_eq, decide_true, decide_false, Int.reduceLT, Int.reduceLE, Int.reduceNeg, Int.reducePow, Int.reduceMul, Int.reduceSub, Int.reduceAdd, Int.reduceEq, Int.reduceToNat, Int.reduceNe, Nat.reduceEqDiff, decide_eq_true_eq, eq_self, and_self, true_and, and_true, not_true_eq_false, not_false_eq_true, g1, g2, f_inC, inOut, in_letters, in_figures, hc, hk', hd, Bool.not_false]
    have eok : ok = ((decide (97 ≤ c ∧ c ≤ 122) || (decide (k ≠ 0) && decide (48 ≤ c ∧ c ≤ 57))) && (cs.zipIdx (k + 1)).all fun p => decide (97 ≤ p.1 ∧ p.1 ≤ 122) || (decide (p.2 ≠ 0) && decide (48 ≤ p.1 ∧ p.1 ≤ 57))) := rfl
    cases hb : (decide (97 ≤ c ∧ c ≤ 122) || (decide (k ≠ 0) && decide (48 ≤ c ∧ c ≤ 57))) with
    | true =>
      have ef : ∀ r, forD (tgTup 2 (tgCons (tgName 1) (tgCons (tgName 2) tgNil))) B (((c, k) :: r).map fun p : Nat × Nat => D.tup [.int (p.2 : Nat), .str ⟨#[p.1]⟩]) sd ah = forD (tgTup 2 (tgCons (tgName 1) (tgCons (tgName 2) tgNil))) B (r.map fun p : Nat × Nat => D.tup [.int (p.2 : Nat), .str ⟨#[p.1]⟩]) sd1 ah := fun r => by
        rcases good hb with z | z
        · exact for_nx tg z
        · exact for_cnt tg z
      rw [List.zipIdx_cons, ef, eok, hb, Bool.true_and]
      exact ih
    | false =>
      refine .inr ⟨by rw [eok, hb, Bool.false_and], ?_⟩
      rw [List.zipIdx_cons]
      exact for_ret tg (bad hb)
theorem zip_pos (cs : List Nat) : ∀ k, 0 < k → ((cs.zipIdx k).all fun p => decide (97 ≤ p.1 ∧ p.1 ≤ 122) || (decide (p.2 ≠ 0) && decide (48 ≤ p.1 ∧ p.1 ≤ 57))) = cs.all fun c => decide (c ∈ alnum.cps.toList) := by
  induction cs with
  | nil => intro k _; rfl
  | cons c cs ih =>
    intro k hk
    rw [List.zipIdx_cons, List.all_cons, List.all_cons, ih (k + 1) (by omega)]
    have e : decide (c ∈ alnum.cps.toList) = (decide (97 ≤ c ∧ c ≤ 122) || decide (48 ≤ c ∧ c ≤ 57)) := by
      rw [decide_eq_decide.mpr (in_alnum c), Bool.decide_or]
    have : k ≠ 0 := by omega
    simp only [this, ne_eq, not_false_eq_true, decide_true, Bool.true_and, e]
theorem enum_signs (x : Str) : enumOf (signsOf x) = (x.cps.toList.zipIdx 0).map fun p => D.tup [.int (p.2 : Nat), .str ⟨#[p.1]⟩] := by
  simp only [enumOf, signsOf, List.zipIdx_map, List.map_map]
  rfl
theorem lis_str {x : Str} (hx : x.length ≤ 100) (ah : AH) : g__law_is [.str x] ah = .ok (.bl (nameB x.cps.toList)) ah := by
  unfold g__law_is m__law_is
  have hl := f_lenS (x := x) (ah := ah) (by omega)
  have it : fIs ["str"] (.str x) ah = some (.bl true, ah) := by simp [fIs, view, tyN, subTy]
  have el := str_len x
  have key := lis_loop ah x.cps.toList 0 [some (.str x), none, none] rfl
  rw [← enum_signs] at key
  dsimp only at key
  cases hcs : x.cps.toList with
  | nil =>
    rw [hcs] at el
    have h1 : (x.length : Int) < 1 := by simp at el; omega
    simp (disch := first | omega | (simp only [List.length_cons, List.length_nil, List.length_map, List.length_append, sizeLine_eq] <;> omega)) only [x_bok, x_bex, x_tok, x_tex, x_tt, x_tst, x_tex2, x_tex3, x_args, x_argx, x_nx, x_ret, x_brk, x_cnt, x_exc, x_lift, x_optS, x_getV, r_run, x_eret, x_enx, x_eexc, r_seq, r_asg, k_asg, r_ret, k_ret, r_drop, k_drop, r_if, r_var, r_c, r_op, k_op, k_op2, r_un, k_un, k_false, k_true, r_chain, k_ch, k_ch2, k_ch3, r_and, r_or, r_not, r_ife, r_nil, r_cons, k_cons, k_cons2, r_lst, k_lst, r_tup, k_tup, x_mkT, x_mkF, r_call, k_call1, k_call2, k_call3, k_call4, k_call5, k_call6, k_call7, k_call8, r_bi, k_bi, r_is, k_is, r_bm, k_bmS, k_bm2, r_bm0, k_bm0S, r_sl, k_sl, k_sl2, k_sl3, r_part0, r_part, k_part, r_any, k_anyL, k_anyT, k_anyC, k_anyS, r_enumA, k_enumL, k_enumS, r_range1, k_range1, r_range2, k_range2, r_setA, k_set, k_set2, r_name, r_tnil, r_tcons, r_ttup, r_for, x_for, v_int, v_str, f_gt, f_ge, f_lt, f_le, f_sub, f_add, f_mul, f_div, f_mod, f_pow, f_eqI, f_neI, f_isN, f_notN, f_neg, f_eqS, r_lc, x_lc, x_lcR, r_yes, f_lenS, f_lenL, f_lenT, f_lenC, f_addS, List.getElem?_cons_zero, List.getElem?_cons_succ, List.set_cons_zero, List.set_cons_succ, List.map_cons, List.map_nil, List.length_cons, List.length_nil, List.cons_append, List.nil_append, List.replicate_succ, List.replicate_zero, Nat.reduceAdd, Nat.reduceSub, Nat.reduceLeDiff, Nat.reduceLT, Nat.zero_add, if_true, if_false, Bool.false_eq_true, reduceIte, Option.bind_some, sizeLine_eq, decide_true, decide_false, Int.reduceLT, Int.reduceLE, Int.reduceNeg, Int.reducePow, Int.reduceMul, Int.reduceSub, Int.reduceAdd, Int.reduceEq, Int.reduceToNat, Int.reduceNe, Nat.reduceEqDiff, decide_eq_true_eq, eq_self, and_self, true_and, and_true, not_true_eq_false, not_false_eq_true, it, hl, h1, nameB]
  | cons c r =>
    rw [hcs] at el key
    have h1 : ¬ (x.length : Int) < 1 := by simp at el; omega
    by_cases h8 : 8 < (x.length : Int)
    · have h8' : ¬ (c :: r).length ≤ 8 := by omega
      simp (disch := first | omega | (simp only [List.length_cons, List.length_nil, List.length_map, List.length_append, sizeLine_eq] <;> omega)) only [x_bok, x_bex, x_tok, x_tex, x_tt, x_tst, x_tex2, x_tex3, x_args, x_argx, x_nx, x_ret, x_brk, x_cnt, x_exc, x_lift, x_optS, x_getV, r_run, x_eret, x_enx, x_eexc, r_seq, r_asg, k_asg, r_ret, k_ret, r_drop, k_drop, r_if, r_var, r_c, r_op, k_op, k_op2, r_un, k_un, k_false, k_true, r_chain, k_ch, k_ch2, k_ch3, r_and, r_or, r_not, r_ife, r_nil, r_cons, k_cons, k_cons2, r_lst, k_lst, r_tup, k_tup, x_mkT, x_mkF, r_call, k_call1, k_call2, k_call3, k_call4, k_call5, k_call6, k_call7, k_call8, r_bi, k_bi, r_is, k_is, r_bm, k_bmS, k_bm2, r_bm0, k_bm0S, r_sl, k_sl, k_sl2, k_sl3, r_part0, r_part, k_part, r_any, k_anyL, k_anyT, k_anyC, k_anyS, r_enumA, k_enumL, k_enumS, r_range1, k_range1, r_range2, k_range2, r_setA, k_set, k_set2, r_name, r_tnil, r_tcons, r_ttup, r_for, x_for, v_int, v_str, f_gt, f_ge, f_lt, f_le, f_sub, f_add, f_mul, f_div, f_mod, f_pow, f_eqI, f_neI, f_isN, f_notN, f_neg, f_eqS, r_lc, x_lc, x_lcR, r_yes, f_lenS, f_lenL, f_lenT, f_lenC, f_addS, List.getElem?_cons_zero, List.getElem?_cons_succ, List.set_cons_zero, List.set_cons_succ, List.map_cons, List.map_nil, List.length_cons, List.length_nil, List.cons_append, List.nil_append, List.replicate_succ, List.replicate_zero, Nat.reduceAdd, Nat.reduceSub, Nat.reduceLeDiff, Nat.reduceLT, Nat.zero_add, if_true, if_false, Bool.false_eq_true, reduceIte, Option.bind_some, sizeLine_eq, decide_true, decide_false, Int.reduceLT, Int.reduceLE, Int.reduceNeg, Int.reducePow, Int.reduceMul, Int.reduceSub, Int.reduceAdd, Int.reduceEq, Int.reduceToNat, Int.reduceNe, Nat.reduceEqDiff, decide_eq_true_eq, eq_self, and_self, true_and, and_true, not_true_eq_false, not_false_eq_true, it, hl, h1, h8]
      simp only [nameB, h8', decide_false, Bool.false_and]
    · have h8' : (c :: r).length ≤ 8 := by omega
      have e : nameB (c :: r) = ((c :: r).zipIdx 0).all fun p => decide (97 ≤ p.1 ∧ p.1 ≤ 122) || (decide (p.2 ≠ 0) && decide (48 ≤ p.1 ∧ p.1 ≤ 57)) := by
        rw [List.zipIdx_cons, List.all_cons, zip_pos r (0 + 1) (by omega)]
        simp only [nameB, h8', decide_true, Bool.true_and, List.all_cons, ne_eq, not_true_eq_false, decide_false, Bool.false_and, Bool.or_false]
        have e2 : decide (c ∈ alnum.cps.toList) = (decide (97 ≤ c ∧ c ≤ 122) || decide (48 ≤ c ∧ c ≤ 57)) := by
          rw [decide_eq_decide.mpr (in_alnum c), Bool.decide_or]
        rw [e2, Bool.decide_and, Bool.decide_and]
        cases decide (97 ≤ c) <;> cases decide (c ≤ 122) <;> simp
      rw [e]
      rcases key with ⟨k1, s', k2⟩ | ⟨k1, k2⟩
      · rw [k1]
        simp (disch := first | omega | (simp only [List.length_cons, List.length_nil, List.length_map, List.length_append, sizeLine_eq] <;> omega)) only [x_bok, x_bex, x_tok, x_tex, x_tt, x_tst, x_tex2, x_tex3, x_args, x_argx, x_nx, x_ret, x_brk, x_cnt, x_exc, x_lift, x_optS, x_getV, r_run, x_eret, x_enx, x_eexc, r_seq, r_asg, k_asg, r_ret, k_ret, r_drop, k_drop, r_if, r_var, r_c, r_op, k_op, k_op2, r_un, k_un, k_false, k_true, r_chain, k_ch, k_ch2, k_ch3, r_and, r_or, r_not, r_ife, r_nil, r_cons, k_cons, k_cons2, r_lst, k_lst, r_tup, k_tup, x_mkT, x_mkF, r_call, k_call1, k_call2, k_call3, k_call4, k_call5, k_call6, k_call7, k_call8, r_bi, k_bi, r_is, k_is, r_bm, k_bmS, k_bm2, r_bm0, k_bm0S, r_sl, k_sl, k_sl2, k_sl3, r_part0, r_part, k_part, r_any, k_anyL, k_anyT, k_anyC, k_anyS, r_enumA, k_enumL, k_enumS, r_range1, k_range1, r_range2, k_range2, r_setA, k_set, k_set2, r_name, r_tnil, r_tcons, r_ttup, r_for, x_for, v_int, v_str, f_gt, f_ge, f_lt, f_le, f_sub, f_add, f_mul, f_div, f_mod, f_pow, f_eqI, f_neI, f_isN, f_notN, f_neg, f_eqS, r_lc, x_lc, x_lcR, r_yes, f_lenS, f_lenL, f_lenT, f_lenC, f_addS, List.getElem?_cons_zero, List.getElem?_cons_succ, List.set_cons_zero, List.set_cons_succ, List.map_cons, List.map_nil, List.length_cons, List.length_nil, List.cons_append, List.nil_append, List.replicate_succ, List.replicate_zero, Nat.reduceAdd, Nat.reduceSub, Nat.reduceLeDiff, Nat.reduceLT, Nat.zero_add, if_true, if_false, Bool.false_eq_true, reduceIte, Option.bind_some, sizeLine_eq, decide_true, decide_false, Int.reduceLT, Int.reduceLE, Int.reduceNeg, Int.reducePow, Int.reduceMul, Int.reduceSub, Int.reduceAdd, Int.reduceEq, Int.reduceToNat, Int.reduceNe, Nat.reduceEqDiff, decide_eq_true_eq, eq_self, and_self, true_and, and_true, not_true_eq_false, not_false_eq_true, it, hl, h1, h8, k2]
      · rw [k1]
        simp (disch := first | omega | (simp only [List.length_cons, List.length_nil, List.length_map, List.length_append, sizeLine_eq] <;> omega)) only [x_bok, x_bex, x_tok, x_tex, x_tt, x_tst, x_tex2, x_tex3, x_args, x_argx, x_nx, x_ret, x_brk, x_cnt, x_exc, x_lift, x_optS, x_getV, r_run, x_eret, x_enx, x_eexc, r_seq, r_asg, k_asg, r_ret, k_ret, r_drop, k_drop, r_if, r_var, r_c, r_op, k_op, k_op2, r_un, k_un, k_false, k_true, r_chain, k_ch, k_ch2, k_ch3, r_and, r_or, r_not, r_ife, r_nil, r_cons, k_cons, k_cons2, r_lst, k_lst, r_tup, k_tup, x_mkT, x_mkF, r_call, k_call1, k_call2, k_call3, k_call4, k_call5, k_call6, k_call7, k_call8, r_bi, k_bi, r_is, k_is, r_bm, k_bmS, k_bm2, r_bm0, k_bm0S, r_sl, k_sl, k_sl2, k_sl3, r_part0, r_part, k_part, r_any, k_anyL, k_anyT, k_anyC, k_anyS, r_enumA, k_enumL, k_enumS, r_range1, k_range1, r_range2, k_range2, r_setA, k_set, k_set2, r_name, r_tnil, r_tcons, r_ttup, r_for, x_for, v_int, v_str, f_gt, f_ge, f_lt, f_le, f_sub, f_add, f_mul, f_div, f_mod, f_pow, f_eqI, f_neI, f_isN, f_notN, f_neg, f_eqS, r_lc, x_lc, x_lcR, r_yes, f_lenS, f_lenL, f_lenT, f_lenC, f_addS, List.getElem?_cons_zero, List.getElem?_cons_succ, List.set_cons_zero, List.set_cons_succ, List.map_cons, List.map_nil, List.length_cons, List.length_nil, List.cons_append, List.nil_append, List.replicate_succ, List.replicate_zero, Nat.reduceAdd, Nat.reduceSub, Nat.reduceLeDiff, Nat.reduceLT, Nat.zero_add, if_true, if_false, Bool.false_eq_true, reduceIte, Option.bind_some, sizeLine_eq, decide_true, decide_false, Int.reduceLT, Int.reduceLE, Int.reduceNeg, Int.reducePow, Int.reduceMul, Int.reduceSub, Int.reduceAdd, Int.reduceEq, Int.reduceToNat, Int.reduceNe, Nat.reduceEqDiff, decide_eq_true_eq, eq_self, and_self, true_and, and_true, not_true_eq_false, not_false_eq_true, it, hl, h1, h8, k2]

/-! ### numbers -/
def numOf (x : Str) : Option Int :=
  if x.cps.toList ≠ [] ∧ x.length ≤ 4 ∧ allIn x figures = true ∧ ¬ (x.cps.toList.head? = some 48 ∧ 1 < x.length) then some ((NumText.digitsVal x.cps.toList : Nat) : Int) else none
def optI : Option Int → D
  | some i => .int i
  | none => .non
theorem eq_zero (c : Nat) : decide ((⟨#[c]⟩ : Str) = Str.ofString "0") = decide (c = 48) := by
  have e : Str.ofString "0" = ⟨#[48]⟩ := by decide +kernel
  rw [e]
  by_cases h : c = 48 <;> simp [h]
theorem allIn_digits {x : Str} (h : allIn x figures = true) : NumText.AllDigits x.cps.toList := fun c hc => by
  unfold allIn at h
  rw [List.all_eq_true] at h
  exact (in_figures c).mp (of_decide_eq_true (h c hc))
theorem num_str {x : Str} (hx : x.length ≤ 100) (ah : AH) : g_number_of [.str x] ah = .ok (optI (numOf x)) ah := by
  unfold g_number_of m_number_of
  have hl := f_lenS (x := x) (ah := ah) (by omega)
  have it : fIs ["str"] (.str x) ah = some (.bl true, ah) := by simp [fIs, view, tyN, subTy]
  have el := str_len x
  cases hcs : x.cps.toList with
  | nil =>
    rw [hcs] at el
    have h1 : ¬ (1 : Int) ≤ (x.length : Int) := by simp at el; omega
    simp (disch := first | omega | (simp only [List.length_cons, List.length_nil, List.length_map, List.length_append, sizeLine_eq] <;> omega)) only [x_bok, x_bex, x_tok, x_tex, x_tt, x_tst, x_tex2, x_tex3, x_args, x_argx, x_nx, x_ret, x_brk, x_cnt, x_exc, x_lift, x_optS, x_getV, r_run, x_eret, x_enx, x_eexc, r_seq, r_asg, k_asg, r_ret, k_ret, r_drop, k_drop, r_if, r_var, r_c, r_op, k_op, k_op2, r_un, k_un, k_false, k_true, r_chain, k_ch, k_ch2, k_ch3, r_and, r_or, r_not, r_ife, r_nil, r_cons, k_cons, k_cons2, r_lst, k_lst, r_tup, k_tup, x_mkT, x_mkF, r_call, k_call1, k_call2, k_call3, k_call4, k_call5, k_call6, k_call7, k_call8, r_bi, k_bi, r_is, k_is, r_bm, k_bmS, k_bm2, r_bm0, k_bm0S, r_sl, k_sl, k_sl2, k_sl3, r_part0, r_part, k_part, r_any, k_anyL, k_anyT, k_anyC, k_anyS, r_enumA, k_enumL, k_enumS, r_range1, k_range1, r_range2, k_range2, r_setA, k_set, k_set2, r_name, r_tnil, r_tcons, r_ttup, r_for, x_for, v_int, v_str, f_gt, f_ge, f_lt, f_le, f_sub, f_add, f_mul, f_div, f_mod, f_pow, f_eqI, f_neI, f_isN, f_notN, f_neg, f_eqS, r_lc, x_lc, x_lcR, r_yes, f_lenS, f_lenL, f_lenT, f_lenC, f_addS, List.getElem?_cons_zero, List.getElem?_cons_succ, List.set_cons_zero, List.set_cons_succ, List.map_cons, List.map_nil, List.length_cons, List.length_nil, List.cons_append, List.nil_append, List.replicate_succ, List.replicate_zero, Nat.reduceAdd, Nat.reduceSub, Nat.reduceLeDiff, Nat.reduceLT, Nat.zero_add, if_true, if_false, Bool.false_eq_true, reduceIte, Option.bind_some, sizeLine_eq, decide_true, decide_false, Int.reduceLT, Int.reduceLE, Int.reduceNeg, Int.reducePow, Int.reduceMul, Int.reduceSub, Int.reduceAdd, Int.reduceEq, Int.reduceToNat, Int.reduceNe, Nat.reduceEqDiff, decide_eq_true_eq, eq_self, and_self, true_and, and_true, not_true_eq_false, not_false_eq_true, it, hl, h1, numOf, hcs, ne_eq, false_and, optI]
  | cons c r =>
    rw [hcs] at el
    have h1 : (1 : Int) ≤ (x.length : Int) := by simp at el; omega
    obtain ⟨c', q1, q2, q3⟩ := f_ixS (x := x) (i := 0) (ah := ah) (by omega) (by omega) (by omega)
    rw [hcs] at q2
    have ec : c' = c := by simpa using q2.symm
    subst ec
    by_cases h4 : (x.length : Int) ≤ 4
    · have h4' : x.length ≤ 4 := by omega
      cases ha : allIn x figures with
      | false =>
        have : numOf x = none := by unfold numOf; rw [if_neg (by simp [ha])]
        simp (disch := first | omega | (simp only [List.length_cons, List.length_nil, List.length_map, List.length_append, sizeLine_eq] <;> omega)) only [x_bok, x_bex, x_tok, x_tex, x_tt, x_tst, x_tex2, x_tex3, x_args, x_argx, x_nx, x_ret, x_brk, x_cnt, x_exc, x_lift, x_optS, x_getV, r_run, x_eret, x_enx, x_eexc, r_seq, r_asg, k_asg, r_ret, k_ret, r_drop, k_drop, r_if, r_var, r_c, r_op, k_op, k_op2, r_un, k_un, k_false, k_true, r_chain, k_ch, k_ch2, k_ch3, r_and, r_or, r_not, r_ife, r_nil, r_cons, k_cons, k_cons2, r_lst, k_lst, r_tup, k_tup, x_mkT, x_mkF, r_call, k_call1, k_call2, k_call3, k_call4, k_call5, k_call6, k_call7, k_call8, r_bi, k_bi, r_is, k_is, r_bm, k_bmS, k_bm2, r_bm0, k_bm0S, r_sl, k_sl, k_sl2, k_sl3, r_part0, r_part, k_part, r_any, k_anyL, k_anyT, k_anyC, k_anyS, r_enumA, k_enumL, k_enumS, r_range1, k_range1, r_range2, k_range2, r_setA, k_set, k_set2, r_name, r_tnil, r_tcons, r_ttup, r_for, x_for, v_int, v_str, f_gt, f_ge, f_lt, f_le, f_sub, f_add, f_mul, f_div, f_mod, f_pow, f_eqI, f_neI, f_isN, f_notN, f_neg, f_eqS, r_lc, x_lc, x_lcR, r_yes, f_lenS, f_lenL, f_lenT, f_lenC, f_addS, List.getElem?_cons_zero, List.getElem?_cons_succ, List.set_cons_zero, List.set_cons_succ, List.map_cons, List.map_nil, List.length_cons, List.length_nil, List.cons_append, List.nil_append, List.replicate_succ, List.replicate_zero, Nat.reduceAdd, Nat.reduceSub, Nat.reduceLeDiff, Nat.reduceLT, Nat.zero_add, if_true, if_false, Bool.false_eq_true, reduceIte, Option.bind_some, sizeLine_eq, decide_true, decide_false, Int.reduceLT, Int.reduceLE, Int.reduceNeg, Int.reducePow, Int.reduceMul, Int.reduceSub, Int.reduceAdd, Int.reduceEq, Int.reduceToNat, Int.reduceNe, Nat.reduceEqDiff, decide_eq_true_eq, eq_self, and_self, true_and, and_true, not_true_eq_false, not_false_eq_true, it, hl, h1, h4, are_ok, ha, this, optI]
      | true =>
        have e3 : fInt [.str x] ah = some (.int ((NumText.digitsVal x.cps.toList : Nat) : Int), ah) := by
          simp only [fInt]
          rw [intText_digits (allIn_digits ha) (by rw [hcs]; simp) (by omega)]
          dsimp only
          rw [if_pos (by omega)]
        by_cases hz : c' = 48
        · by_cases h1' : 1 < (x.length : Int)
          · have : numOf x = none := by unfold numOf; rw [if_neg (by rw [hcs]; simp [hz]; omega)]
            simp (disch := first | omega | (simp only [List.length_cons, List.length_nil, List.length_map, List.length_append, sizeLine_eq] <;> omega)) only [x_bok, x_bex, x_tok, x_tex, x_tt, x_tst, x_tex2, x_tex3, x_args, x_argx, x_nx, x_ret, x_brk, x_cnt, x_exc, x_lift, x_optS, x_getV, r_run, x_eret, x_enx, x_eexc, r_seq, r_asg, k_asg, r_ret, k_ret, r_drop, k_drop, r_if, r_var, r_c, r_op, k_op, k_op2, r_un, k_un, k_false, k_true, r_chain, k_ch, k_ch2, k_ch3, r_and, r_or, r_not, r_ife, r_nil, r_cons, k_cons, k_cons2, r_lst, k_lst, r_tup, k_tup, x_mkT, x_mkF, r_call, k_call1, k_call2, k_call3, k_call4, k_call5, k_call6, k_call7, k_call8, r_bi, k_bi, r_is, k_is, r_bm, k_bmS, k_bm2, r_bm0, k_bm0S, r_sl, k_sl, k_sl2, k_sl3, r_part0, r_part, k_part, r_any, k_anyL, k_anyT, k_anyC, k_anyS, r_enumA, k_enumL, k_enumS, r_range1, k_range1, r_range2, k_range2, r_setA, k_set, k_set2, r_name, r_tnil, r_tcons, r_ttup, r_for, x_for, v_int, v_str, f_gt, f_ge, f_lt, f_le, f_sub, f_add, f_mul, f_div, f_mod, f_pow, f_eqI, f_neI, f_isN, f_notN, f_neg, f_eqS, r_lc, x_lc, x_lcR, r_yes, f_lenS, f_lenL, f_lenT, f_lenC, f_addS, List.getElem?_cons_zero, List.getElem?_cons_succ, List.set_cons_zero, List.set_cons_succ, List.map_cons, List.map_nil, List.length_cons, List.length_nil, List.cons_append, List.nil_append, List.replicate_succ, List.replicate_zero, Nat.reduceAdd, Nat.reduceSub, Nat.reduceLeDiff, Nat.reduceLT, Nat.zero_add, if_true, if_false, Bool.false_eq_true, reduceIte, Option.bind_some, sizeLine_eq, decide_true, decide_false, Int.reduceLT, Int.reduceLE, Int.reduceNeg, Int.reducePow, Int.reduceMul, Int.reduceSub, Int.reduceAdd, Int.reduceEq, Int.reduceToNat, Int.reduceNe, Nat.reduceEqDiff, decide_eq_true_eq, eq_self, and_self, true_and, and_true, not_true_eq_false, not_false_eq_true, it, hl, h1, h4, are_ok, ha, q3, eq_zero, hz, h1', this, optI]
          · have : numOf x = some ((NumText.digitsVal x.cps.toList : Nat) : Int) := by unfold numOf; rw [if_pos ⟨by rw [hcs]; simp, h4', ha, fun z => by omega⟩]
            simp (disch := first | omega | (simp only [List.length_cons, List.length_nil, List.length_map, List.length_append, sizeLine_eq] <;> omega)) only [x_bok, x_bex, x_tok, x_tex, x_tt, x_tst, x_tex2, x_tex3, x_args, x_argx, x_nx, x_ret, x_brk, x_cnt, x_exc, x_lift, x_optS, x_getV, r_run, x_eret, x_enx, x_eexc, r_seq, r_asg, k_asg, r_ret, k_ret, r_drop, k_drop, r_if, r_var, r_c, r_op, k_op, k_op2, r_un, k_un, k_false, k_true, r_chain, k_ch, k_ch2, k_ch3, r_and, r_or, r_not, r_ife, r_nil, r_cons, k_cons, k_cons2, r_lst, k_lst, r_tup, k_tup, x_mkT, x_mkF, r_call, k_call1, k_call2, k_call3, k_call4, k_call5, k_call6, k_call7, k_call8, r_bi, k_bi, r_is, k_is, r_bm, k_bmS, k_bm2, r_bm0, k_bm0S, r_sl, k_sl, k_sl2, k_sl3, r_part0, r_part, k_part, r_any, k_anyL, k_anyT, k_anyC, k_anyS, r_enumA, k_enumL, k_enumS, r_range1, k_range1, r_range2, k_range2, r_setA, k_set, k_set2, r_name, r_tnil, r_tcons, r_ttup, r_for, x_for, v_int, v_str, f_gt, f_ge, f_lt, f_le, f_sub, f_add, f_mul, f_div, f_mod, f_pow, f_eqI, f_neI, f_isN, f_notN, f_neg, f_eqS, r_lc, x_lc, x_lcR, r_yes, f_lenS, f_lenL, f_lenT, f_lenC, f_addS, List.getElem?_cons_zero, List.getElem?_cons_succ, List.set_cons_zero, List.set_cons_succ, List.map_cons, List.map_nil, List.length_cons, List.length_nil, List.cons_append, List.nil_append, List.replicate_succ, List.replicate_zero, Nat.reduceAdd, Nat.reduceSub, Nat.reduceLeDiff, Nat.reduceLT, Nat.zero_add, if_true, if_false, Bool.false_eq_true, reduceIte, Option.bind_some, sizeLine_eq, decide_true, decide_false, Int.reduceLT, Int.reduceLE, Int.reduceNeg, Int.reducePow, Int.reduceMul, Int.reduceSub, Int.reduceAdd, Int.reduceEq, Int.reduceToNat, Int.reduceNe, Nat.reduceEqDiff, decide_eq_true_eq, eq_self, and_self, true_and, and_true, not_true_eq_false, not_false_eq_true, it, hl, h1, h4, are_ok, ha, q3, eq_zero, hz, h1', this, optI, e3]
        · have : numOf x = some ((NumText.digitsVal x.cps.toList : Nat) : Int) := by unfold numOf; rw [if_pos ⟨by rw [hcs]; simp, h4', ha, fun z => hz (by rw [hcs] at z; simpa using z.1)⟩]
          simp (disch := first | omega | (simp only [List.length_cons, List.length_nil, List.length_map, List.length_append, sizeLine_eq] <;> omega)) only [x_bok, x_bex, x_tok, x_tex, x_tt, x_tst, x_tex2, x_tex3, x_args, x_argx, x_nx, x_ret, x_brk, x_cnt, x_exc, x_lift, x_optS, x_getV, r_run, x_eret, x_enx, x_eexc, r_seq, r_asg, k_asg, r_ret, k_ret, r_drop, k_drop, r_if, r_var, r_c, r_op, k_op, k_op2, r_un, k_un, k_false, k_true, r_chain, k_ch, k_ch2, k_ch3, r_and, r_or, r_not, r_ife, r_nil, r_cons, k_cons, k_cons2, r_lst, k_lst, r_tup, k_tup, x_mkT, x_mkF, r_call, k_call1, k_call2, k_call3, k_call4, k_call5, k_call6, k_call7, k_call8, r_bi, k_bi, r_is, k_is, r_bm, k_bmS, k_bm2, r_bm0, k_bm0S, r_sl, k_sl, k_sl2, k_sl3, r_part0, r_part, k_part, r_any, k_anyL, k_anyT, k_anyC, k_anyS, r_enumA, k_enumL, k_enumS, r_range1, k_range1, r_range2, k_range2, r_setA, k_set, k_set2, r_name, r_tnil, r_tcons, r_ttup, r_for, x_for, v_int, v_str, f_gt, f_ge, f_lt, f_le, f_sub, f_add, f_mul, f_div, f_mod, f_pow, f_eqI, f_neI, f_isN, f_notN, f_neg, f_eqS, r_lc, x_lc, x_lcR, r_yes, f_lenS, f_lenL, f_lenT, f_lenC, f_addS, List.getElem?_cons_zero, List.getElem?_cons_succ, List.set_cons_zero, List.set_cons_succ, List.map_cons, List.map_nil, List.length_cons, List.length_nil, List.cons_append, List.nil_append, List.replicate_succ, List.replicate_zero, Nat.reduceAdd, Nat.reduceSub, Nat.reduceLeDiff, Nat.reduceLT, Nat.zero_add, if_true, if_false, Bool.false_eq_true, reduceIte, Option.bind_some, sizeLine_eq, decide_true, decide_false, Int.reduceLT, Int.reduceLE, Int.reduceNeg, Int.reducePow, Int.reduceMul, Int.reduceSub, Int.reduceAdd, Int.reduceEq, Int.reduceToNat, Int.reduceNe, Nat.reduceEqDiff, decide_eq_true_eq, eq_self, and_self, true_and, and_true, not_true_eq_false, not_false_eq_true, it, hl, h1, h4, are_ok, ha, q3, eq_zero, hz, this, optI, e3]
    · have : numOf x = none := by unfold numOf; rw [if_neg (fun z => by omega)]
      simp (disch := first | omega | (simp only [List.length_cons, List.length_nil, List.length_map, List.length_append, sizeLine_eq] <;> omega)) only [x_bok, x_bex, x_tok, x_tex, x_tt, x_tst, x_tex2, x_tex3, x_args, x_argx, x_nx, x_ret, x_brk, x_cnt, x_exc, x_lift, x_optS, x_getV, r_run, x_eret, x_enx, x_eexc, r_seq, r_asg, k_asg, r_ret, k_ret, r_drop, k_drop, r_if, r_var, r_c, r_op, k_op, k_op2, r_un, k_un, k_false, k_true, r_chain, k_ch, k_ch2, k_ch3, r_and, r_or, r_not, r_ife, r_nil, r_cons, k_cons, k_cons2, r_lst, k_lst, r_tup, k_tup, x_mkT, x_mkF, r_call, k_call1, k_call2, k_call3, k_call4, k_call5, k_call6, k_call7, k_call8, r_bi, k_bi, r_is, k_is, r_bm, k_bmS, k_bm2, r_bm0, k_bm0S, r_sl, k_sl, k_sl2, k_sl3, r_part0, r_part, k_part, r_any, k_anyL, k_anyT, k_anyC, k_anyS, r_enumA, k_enumL, k_enumS, r_range1, k_range1, r_range2, k_range2, r_setA, k_set, k_set2, r_name, r_tnil, r_tcons, r_ttup, r_for, x_for, v_int, v_str, f_gt, f_ge, f_lt, f_le, f_sub, f_add, f_mul, f_div, f_mod, f_pow, f_eqI, f_neI, f_isN, f_notN, f_neg, f_eqS, r_lc, x_lc, x_lcR, r_yes, f_lenS, f_lenL, f_lenT, f_lenC, f_addS, List.getElem?_cons_zero, List.getElem?_cons_succ, List.set_cons_zero, List.set_cons_succ, List.map_cons, List.map_nil, List.length_cons, List.length_nil, List.cons_append, List.nil_append, List.replicate_succ, List.replicate_zero, Nat.reduceAdd, Nat.reduceSub, Nat.reduceLeDiff, Nat.reduceLT, Nat.zero_add, if_true, if_false, Bool.false_eq_true, reduceIte, Option.bind_some, sizeLine_eq, decide_true, decide_false, Int.reduceLT, Int.reduceLE, Int.reduceNeg, Int.reducePow, Int.reduceMul, Int.reduceSub, Int.reduceAdd, Int.reduceEq, Int.reduceToNat, Int.reduceNe, Nat.reduceEqDiff, decide_eq_true_eq, eq_self, and_self, true_and, and_true, not_true_eq_false, not_false_eq_true, it, hl, h1, h4, this, optI]
abbrev figT : List D := [.str "0", .str "1", .str "2", .str "3", .str "4", .str "5", .str "6", .str "7", .str "8", .str "9"]
theorem in_tup (c : Nat) (ah : AH) : fInA true (.str ⟨#[c]⟩) (.tup figT) ah = some (.bl (!decide (48 ≤ c ∧ c ≤ 57)), ah) := by
  have e : (figT.any fun z => eqF z (.str ⟨#[c]⟩)) = decide (48 ≤ c ∧ c ≤ 57) := by
    have e2 : figT = (List.range 10).map fun i => D.str ⟨#[48 + i]⟩ := by rfl
    rw [e2, List.any_map]
    by_cases h : 48 ≤ c ∧ c ≤ 57
    · rw [decide_eq_true h, List.any_eq_true]
      refine ⟨c - 48, by simp; omega, ?_⟩
      have : 48 + (c - 48) = c := by omega
      show ((⟨#[48 + (c - 48)]⟩ : Str) == ⟨#[c]⟩) = true
      rw [this]; simp
    · rw [decide_eq_false h, List.any_eq_false]
      intro i hi
      show ¬ ((⟨#[48 + i]⟩ : Str) == ⟨#[c]⟩) = true
      have hi' : i < 10 := by simpa using hi
      have : ¬ 48 + i = c := by omega
      simp [this]
  have hf : isFlat (.str ⟨#[c]⟩) = true ∧ figT.all isFlat = true := ⟨rfl, by decide⟩
  show (if isFlat (.str ⟨#[c]⟩) = true ∧ figT.all isFlat = true then some (D.bl (inOut true (figT.any fun z => eqF z (.str ⟨#[c]⟩))), ah) else none) = _
  rw [if_pos hf, e]
  rfl
theorem find_fig {c : Nat} (h : 48 ≤ c ∧ c ≤ 57) : Txt.find figures ⟨#[c]⟩ = (c : Int) - 48 := by
  have all : ∀ i, i < 10 → Txt.find figures ⟨#[48 + i]⟩ = (i : Int) := by decide +kernel
  have e := all (c - 48) (by omega)
  have : 48 + (c - 48) = c := by omega
  rw [this] at e
  rw [e]; omega
abbrev numB : MS := (mSeq (mIfS (mOp (fInA true) (mVar 2) (mTup (aCons (mC (.str "0")) (aCons (mC (.str "1")) (aCons (mC (.str "2")) (aCons (mC (.str "3")) (aCons (mC (.str "4")) (aCons (mC (.str "5")) (aCons (mC (.str "6")) (aCons (mC (.str "7")) (aCons (mC (.str "8")) (aCons (mC (.str "9")) aNil)))))))))))) (mRet (mC .non)) .nx) (mAsg (mOp (fAdd true) (mOp fMulI (mVar 1) (mC (.int 10))) (mBm "str" fFind (mC (.str "0123456789")) (aCons (mVar 2) aNil))) (tgName 1)))
theorem num_loop (ah : AH) (d0 : D) : ∀ (cs : List Nat) (n : Nat) (tot : Nat) (y : Option D), n + cs.length ≤ 4 → tot < 10 ^ n →
    (cs.all (fun c => decide (c ∈ figures.cps.toList)) = true ∧ ∃ y', forD (tgName 2) numB (cs.map fun c => D.str ⟨#[c]⟩) [some d0, some (.int tot), y] ah = .nx [some d0, some (.int ((cs.foldl (fun acc c => acc * 10 + (c - 48)) tot : Nat) : Int)), y'] ah) ∨
    (cs.all (fun c => decide (c ∈ figures.cps.toList)) = false ∧ forD (tgName 2) numB (cs.map fun c => D.str ⟨#[c]⟩) [some d0, some (.int tot), y] ah = .ret .non ah)
  | [], n, tot, y, _, _ => .inl ⟨rfl, y, rfl⟩
  | c :: cs, n, tot, y, hn, ht => by
    have hp : 10 ^ n ≤ 10 ^ 4 := Nat.pow_le_pow_right (by decide) (by omega)
    have hp4 : (10 : Nat) ^ 4 = 10000 := by decide
    by_cases hc : 48 ≤ c ∧ c ≤ 57
    · have ff : fFind (.str figures) [.str ⟨#[c]⟩] ah = some (.int ((c : Int) - 48), ah) := by show some (D.int (Txt.find figures ⟨#[c]⟩), ah) = _; rw [find_fig hc]
      have e1 : numB [some d0, some (.int tot), some (.str ⟨#[c]⟩)] ah = .nx [some d0, some (.int ((tot * 10 + (c - 48) : Nat) : Int)), some (.str ⟨#[c]⟩)] ah := by
        have e9 : ((tot * 10 + (c - 48) : Nat) : Int) = (tot : Int) * 10 + ((c : Int) - 48) := by omega
        rw [e9]
        simp (disch := first | omega | (simp only [List.length_cons, List.length_nil, List.length_map, List.length_append, sizeLine_eq] <;> omega)) only [numB, x_bok, x_bex, x_tok, x_tex, x_tt, x_tst, x_tex2, x_tex3, x_args, x_argx, x_nx, x_ret, x_brk, x_cnt, x_exc, x_lift, x_optS, x_getV, r_run, x_eret, x_enx, x_eexc, r_seq, r_asg, k_asg, r_ret, k_ret, r_drop, k_drop, r_if, r_var, r_c, r_op, k_op, k_op2, r_un, k_un, k_false, k_true, r_chain, k_ch, k_ch2, k_ch3, r_and, r_or, r_not, r_ife, r_nil, r_cons, k_cons, k_cons2, r_lst, k_lst, r_tup, k_tup, x_mkT, x_mkF, r_call, k_call1, k_call2, k_call3, k_call4, k_call5, k_call6, k_call7, k_call8, r_bi, k_bi, r_is, k_is, r_bm, k_bmS, k_bm2, r_bm0, k_bm0S, r_sl, k_sl, k_sl2, k_sl3, r_part0, r_part, k_part, r_any, k_anyL, k_anyT, k_anyC, k_anyS, r_enumA, k_enumL, k_enumS, r_range1, k_range1, r_range2, k_range2, r_setA, k_set, k_set2, r_name, r_tnil, r_tcons, r_ttup, r_for, x_for, v_int, v_str, f_gt, f_ge, f_lt, f_le, f_sub, f_add, f_mul, f_div, f_mod, f_pow, f_eqI, f_neI, f_isN, f_notN, f_neg, f_eqS, r_lc, x_lc, x_lcR, r_yes, f_lenS, f_lenL, f_lenT, f_lenC, f_addS, List.getElem?_cons_zero, List.getElem?_cons_succ, List.set_cons_zero, List.set_cons_succ, List.map_cons, List.map_nil, List.length_cons, List.length_nil, List.cons_append, List.nil_append, List.replicate_succ, List.replicate_zero, Nat.reduceAdd, Nat.reduceSub, Nat.reduceLeDiff, Nat.reduceLT, Nat.zero_add, if_true, if_false, Bool.false_eq_true, reduceIte, Option.bind_some, sizeLine_eq, decide_true, decide_false, Int.reduceLT, Int.reduceLE, Int.reduceNeg, Int.reducePow, Int.reduceMul, Int.reduceSub, Int.reduceAdd, Int.reduceEq, Int.reduceToNat, Int.reduceNe, Nat.reduceEqDiff, decide_eq_true_eq, eq_self, and_self, true_and, and_true, not_true_eq_false, not_false_eq_true, in_tup, hc, Bool.not_true, ff]
      have ih := num_loop ah d0 cs (n + 1) (tot * 10 + (c - 48)) (some (.str ⟨#[c]⟩)) (by simp at hn; omega) (by rw [Nat.pow_succ]; omega)
      have ef : forD (tgName 2) numB ((c :: cs).map fun c => D.str ⟨#[c]⟩) [some d0, some (.int tot), y] ah = forD (tgName 2) numB (cs.map fun c => D.str ⟨#[c]⟩) [some d0, some (.int ((tot * 10 + (c - 48) : Nat) : Int)), some (.str ⟨#[c]⟩)] ah := for_nx rfl e1
      rw [ef, List.all_cons, decide_eq_true ((in_figures c).mpr hc), Bool.true_and]
      exact ih
    · refine .inr ⟨by rw [List.all_cons, decide_eq_false fun z => hc ((in_figures c).mp z), Bool.false_and], ?_⟩
      exact for_ret rfl (by simp (disch := first | omega | (simp only [List.length_cons, List.length_nil, List.length_map, List.length_append, sizeLine_eq] <;> omega)) only [numB, x_bok, x_bex, x_tok, x_tex, x_tt, x_tst, x_tex2, x_tex3, x_args, x_argx, x_nx, x_ret, x_brk, x_cnt, x_exc, x_lift, x_optS, x_getV, r_run, x_eret, x_enx, x_eexc, r_seq, r_asg, k_asg, r_ret, k_ret, r_drop, k_drop, r_if, r_var, r_c, r_op, k_op, k_op2, r_un, k_un, k_false, k_true, r_chain, k_ch, k_ch2, k_ch3, r_and, r_or, r_not, r_ife, r_nil, r_cons, k_cons, k_cons2, r_lst, k_lst, r_tup, k_tup, x_mkT, x_mkF, r_call, k_call1, k_call2, k_call3, k_call4, k_call5, k_call6, k_call7, k_call8, r_bi, k_bi, r_is, k_is, r_bm, k_bmS, k_bm2, r_bm0, k_bm0S, r_sl, k_sl, k_sl2, k_sl3, r_part0, r_part, k_part, r_any, k_anyL, k_anyT, k_anyC, k_anyS, r_enumA, k_enumL, k_enumS, r_range1, k_range1, r_range2, k_range2, r_setA, k_set, k_set2, r_name, r_tnil, r_tcons, r_ttup, r_for, x_for, v_int, v_str, f_gt, f_ge, f_lt, f_le, f_sub, f_add, f_mul, f_div, f_mod, f_pow, f_eqI, f_neI, f_isN, f_notN, f_neg, f_eqS, r_lc, x_lc, x_lcR, r_yes, f_lenS, f_lenL, f_lenT, f_lenC, f_addS, List.getElem?_cons_zero, List.getElem?_cons_succ, List.set_cons_zero, List.set_cons_succ, List.map_cons, List.map_nil, List.length_cons, List.length_nil, List.cons_append, List.nil_append, List.replicate_succ, List.replicate_zero, Nat.reduceAdd, Nat.reduceSub, Nat.reduceLeDiff, Nat.reduceLT, Nat.zero_add, if_true, if_false, Bool.false_eq_true, reduceIte, Option.bind_some, sizeLine_eq, decide_true, decide_false, Int.reduceLT, Int.reduceLE, Int.reduceNeg, Int.reducePow, Int.reduceMul, Int.reduceSub, Int.reduceAdd, Int.reduceEq, Int.reduceToNat, Int.reduceNe, Nat.reduceEqDiff, decide_eq_true_eq, eq_self, and_self, true_and, and_true, not_true_eq_false, not_false_eq_true, in_tup, hc, Bool.not_false])
theorem lnum_str {x : Str} (hx : x.length ≤ 100) (ah : AH) : g__law_number [.str x] ah = .ok (optI (numOf x)) ah := by
  unfold g__law_number m__law_number
  have hl := f_lenS (x := x) (ah := ah) (by omega)
  have it : fIs ["str"] (.str x) ah = some (.bl true, ah) := by simp [fIs, view, tyN, subTy]
  have el := str_len x
  by_cases h4 : 4 < (x.length : Int)
  · have : numOf x = none := by unfold numOf; rw [if_neg (fun z => by omega)]
    have h1 : ¬ (x.length : Int) < 1 := by omega
    simp (disch := first | omega | (simp only [List.length_cons, List.length_nil, List.length_map, List.length_append, sizeLine_eq] <;> omega)) only [x_bok, x_bex, x_tok, x_tex, x_tt, x_tst, x_tex2, x_tex3, x_args, x_argx, x_nx, x_ret, x_brk, x_cnt, x_exc, x_lift, x_optS, x_getV, r_run, x_eret, x_enx, x_eexc, r_seq, r_asg, k_asg, r_ret, k_ret, r_drop, k_drop, r_if, r_var, r_c, r_op, k_op, k_op2, r_un, k_un, k_false, k_true, r_chain, k_ch, k_ch2, k_ch3, r_and, r_or, r_not, r_ife, r_nil, r_cons, k_cons, k_cons2, r_lst, k_lst, r_tup, k_tup, x_mkT, x_mkF, r_call, k_call1, k_call2, k_call3, k_call4, k_call5, k_call6, k_call7, k_call8, r_bi, k_bi, r_is, k_is, r_bm, k_bmS, k_bm2, r_bm0, k_bm0S, r_sl, k_sl, k_sl2, k_sl3, r_part0, r_part, k_part, r_any, k_anyL, k_anyT, k_anyC, k_anyS, r_enumA, k_enumL, k_enumS, r_range1, k_range1, r_range2, k_range2, r_setA, k_set, k_set2, r_name, r_tnil, r_tcons, r_ttup, r_for, x_for, v_int, v_str, f_gt, f_ge, f_lt, f_le, f_sub, f_add, f_mul, f_div, f_mod, f_pow, f_eqI, f_neI, f_isN, f_notN, f_neg, f_eqS, r_lc, x_lc, x_lcR, r_yes, f_lenS, f_lenL, f_lenT, f_lenC, f_addS, List.getElem?_cons_zero, List.getElem?_cons_succ, List.set_cons_zero, List.set_cons_succ, List.map_cons, List.map_nil, List.length_cons, List.length_nil, List.cons_append, List.nil_append, List.replicate_succ, List.replicate_zero, Nat.reduceAdd, Nat.reduceSub, Nat.reduceLeDiff, Nat.reduceLT, Nat.zero_add, if_true, if_false, Bool.false_eq_true, reduceIte, Option.bind_some, sizeLine_eq, decide_true, decide_false, Int.reduceLT, Int.reduceLE, Int.reduceNeg, Int.reducePow, Int.reduceMul, Int.reduceSub, Int.reduceAdd, Int.reduceEq, Int.reduceToNat, Int.reduceNe, Nat.reduceEqDiff, decide_eq_true_eq, eq_self, and_self, true_and, and_true, not_true_eq_false, not_false_eq_true, it, hl, h1, h4, this, optI]
  have key := num_loop ah (.str x) x.cps.toList 0 0 none (by omega) (by decide)
  unfold numB at key
  rw [show ((0 : Nat) : Int) = 0 from rfl] at key
  cases hcs : x.cps.toList with
  | nil =>
    rw [hcs] at el
    have h1 : (x.length : Int) < 1 := by simp at el; omega
    simp (disch := first | omega | (simp only [List.length_cons, List.length_nil, List.length_map, List.length_append, sizeLine_eq] <;> omega)) only [x_bok, x_bex, x_tok, x_tex, x_tt, x_tst, x_tex2, x_tex3, x_args, x_argx, x_nx, x_ret, x_brk, x_cnt, x_exc, x_lift, x_optS, x_getV, r_run, x_eret, x_enx, x_eexc, r_seq, r_asg, k_asg, r_ret, k_ret, r_drop, k_drop, r_if, r_var, r_c, r_op, k_op, k_op2, r_un, k_un, k_false, k_true, r_chain, k_ch, k_ch2, k_ch3, r_and, r_or, r_not, r_ife, r_nil, r_cons, k_cons, k_cons2, r_lst, k_lst, r_tup, k_tup, x_mkT, x_mkF, r_call, k_call1, k_call2, k_call3, k_call4, k_call5, k_call6, k_call7, k_call8, r_bi, k_bi, r_is, k_is, r_bm, k_bmS, k_bm2, r_bm0, k_bm0S, r_sl, k_sl, k_sl2, k_sl3, r_part0, r_part, k_part, r_any, k_anyL, k_anyT, k_anyC, k_anyS, r_enumA, k_enumL, k_enumS, r_range1, k_range1, r_range2, k_range2, r_setA, k_set, k_set2, r_name, r_tnil, r_tcons, r_ttup, r_for, x_for, v_int, v_str, f_gt, f_ge, f_lt, f_le, f_sub, f_add, f_mul, f_div, f_mod, f_pow, f_eqI, f_neI, f_isN, f_notN, f_neg, f_eqS, r_lc, x_lc, x_lcR, r_yes, f_lenS, f_lenL, f_lenT, f_lenC, f_addS, List.getElem?_cons_zero, List.getElem?_cons_succ, List.set_cons_zero, List.set_cons_succ, List.map_cons, List.map_nil, List.length_cons, List.length_nil, List.cons_append, List.nil_append, List.replicate_succ, List.replicate_zero, Nat.reduceAdd, Nat.reduceSub, Nat.reduceLeDiff, Nat.reduceLT, Nat.zero_add, if_true, if_false, Bool.false_eq_true, reduceIte, Option.bind_some, sizeLine_eq, decide_true, decide_false, Int.reduceLT, Int.reduceLE, Int.reduceNeg, Int.reducePow, Int.reduceMul, Int.reduceSub, Int.reduceAdd, Int.reduceEq, Int.reduceToNat, Int.reduceNe, Nat.reduceEqDiff, decide_eq_true_eq, eq_self, and_self, true_and, and_true, not_true_eq_false, not_false_eq_true, it, hl, h1, numOf, hcs, ne_eq, false_and, optI]
  | cons c r =>
    have el' := el
    rw [hcs] at el'
    have h1 : ¬ (x.length : Int) < 1 := by simp at el'; omega
    obtain ⟨c', q1, q2, q3⟩ := f_ixS (x := x) (i := 0) (ah := ah) (by omega) (by omega) (by omega)
    rw [hcs] at q2
    have ec : c' = c := by simpa using q2.symm
    subst ec
    rcases key with ⟨k1, y', k2⟩ | ⟨k1, k2⟩
    · have ha : allIn x figures = true := k1
      by_cases hz : c' = 48
      · by_cases h1' : 1 < (x.length : Int)
        · have : numOf x = none := by unfold numOf; rw [if_neg (by rw [hcs]; simp [hz]; omega)]
          simp (disch := first | omega | (simp only [List.length_cons, List.length_nil, List.length_map, List.length_append, sizeLine_eq] <;> omega)) only [x_bok, x_bex, x_tok, x_tex, x_tt, x_tst, x_tex2, x_tex3, x_args, x_argx, x_nx, x_ret, x_brk, x_cnt, x_exc, x_lift, x_optS, x_getV, r_run, x_eret, x_enx, x_eexc, r_seq, r_asg, k_asg, r_ret, k_ret, r_drop, k_drop, r_if, r_var, r_c, r_op, k_op, k_op2, r_un, k_un, k_false, k_true, r_chain, k_ch, k_ch2, k_ch3, r_and, r_or, r_not, r_ife, r_nil, r_cons, k_cons, k_cons2, r_lst, k_lst, r_tup, k_tup, x_mkT, x_mkF, r_call, k_call1, k_call2, k_call3, k_call4, k_call5, k_call6, k_call7, k_call8, r_bi, k_bi, r_is, k_is, r_bm, k_bmS, k_bm2, r_bm0, k_bm0S, r_sl, k_sl, k_sl2, k_sl3, r_part0, r_part, k_part, r_any, k_anyL, k_anyT, k_anyC, k_anyS, r_enumA, k_enumL, k_enumS, r_range1, k_range1, r_range2, k_range2, r_setA, k_set, k_set2, r_name, r_tnil, r_tcons, r_ttup, r_for, x_for, v_int, v_str, f_gt, f_ge, f_lt, f_le, f_sub, f_add, f_mul, f_div, f_mod, f_pow, f_eqI, f_neI, f_isN, f_notN, f_neg, f_eqS, r_lc, x_lc, x_lcR, r_yes, f_lenS, f_lenL, f_lenT, f_lenC, f_addS, List.getElem?_cons_zero, List.getElem?_cons_succ, List.set_cons_zero, List.set_cons_succ, List.map_cons, List.map_nil, List.length_cons, List.length_nil, List.cons_append, List.nil_append, List.replicate_succ, List.replicate_zero, Nat.reduceAdd, Nat.reduceSub, Nat.reduceLeDiff, Nat.reduceLT, Nat.zero_add, if_true, if_false, Bool.false_eq_true, reduceIte, Option.bind_some, sizeLine_eq, decide_true, decide_false, Int.reduceLT, Int.reduceLE, Int.reduceNeg, Int.reducePow, Int.reduceMul, Int.reduceSub, Int.reduceAdd, Int.reduceEq, Int.reduceToNat, Int.reduceNe, Nat.reduceEqDiff, decide_eq_true_eq, eq_self, and_self, true_and, and_true, not_true_eq_false, not_false_eq_true, it, hl, h1, h4, signsOf, k2, q3, eq_zero, hz, h1', this, optI]
        · have : numOf x = some ((NumText.digitsVal x.cps.toList : Nat) : Int) := by unfold numOf; rw [if_pos ⟨by rw [hcs]; simp, by omega, ha, fun z => by omega⟩]
          simp (disch := first | omega | (simp only [List.length_cons, List.length_nil, List.length_map, List.length_append, sizeLine_eq] <;> omega)) only [x_bok, x_bex, x_tok, x_tex, x_tt, x_tst, x_tex2, x_tex3, x_args, x_argx, x_nx, x_ret, x_brk, x_cnt, x_exc, x_lift, x_optS, x_getV, r_run, x_eret, x_enx, x_eexc, r_seq, r_asg, k_asg, r_ret, k_ret, r_drop, k_drop, r_if, r_var, r_c, r_op, k_op, k_op2, r_un, k_un, k_false, k_true, r_chain, k_ch, k_ch2, k_ch3, r_and, r_or, r_not, r_ife, r_nil, r_cons, k_cons, k_cons2, r_lst, k_lst, r_tup, k_tup, x_mkT, x_mkF, r_call, k_call1, k_call2, k_call3, k_call4, k_call5, k_call6, k_call7, k_call8, r_bi, k_bi, r_is, k_is, r_bm, k_bmS, k_bm2, r_bm0, k_bm0S, r_sl, k_sl, k_sl2, k_sl3, r_part0, r_part, k_part, r_any, k_anyL, k_anyT, k_anyC, k_anyS, r_enumA, k_enumL, k_enumS, r_range1, k_range1, r_range2, k_range2, r_setA, k_set, k_set2, r_name, r_tnil, r_tcons, r_ttup, r_for, x_for, v_int, v_str, f_gt, f_ge, f_lt, f_le, f_sub, f_add, f_mul, f_div, f_mod, f_pow, f_eqI, f_neI, f_isN, f_notN, f_neg, f_eqS, r_lc, x_lc, x_lcR, r_yes, f_lenS, f_lenL, f_lenT, f_lenC, f_addS, List.getElem?_cons_zero, List.getElem?_cons_succ, List.set_cons_zero, List.set_cons_succ, List.map_cons, List.map_nil, List.length_cons, List.length_nil, List.cons_append, List.nil_append, List.replicate_succ, List.replicate_zero, Nat.reduceAdd, Nat.reduceSub, Nat.reduceLeDiff, Nat.reduceLT, Nat.zero_add, if_true, if_false, Bool.false_eq_true, reduceIte, Option.bind_some, sizeLine_eq, decide_true, decide_false, Int.reduceLT, Int.reduceLE, Int.reduceNeg, Int.reducePow, Int.reduceMul, Int.reduceSub, Int.reduceAdd, Int.reduceEq, Int.reduceToNat, Int.reduceNe, Nat.reduceEqDiff, decide_eq_true_eq, eq_self, and_self, true_and, and_true, not_true_eq_false, not_false_eq_true, it, hl, h1, h4, signsOf, k2, q3, eq_zero, hz, h1', this, optI, NumText.digitsVal]
      · have : numOf x = some ((NumText.digitsVal x.cps.toList : Nat) : Int) := by unfold numOf; rw [if_pos ⟨by rw [hcs]; simp, by omega, ha, fun z => hz (by rw [hcs] at z; simpa using z.1)⟩]
        simp (disch := first | omega | (simp only [List.length_cons, List.length_nil, List.length_map, List.length_append, sizeLine_eq] <;> omega)) only [x_bok, x_bex, x_tok, x_tex, x_tt, x_tst, x_tex2, x_tex3, x_args, x_argx, x_nx, x_ret, x_brk, x_cnt, x_exc, x_lift, x_optS, x_getV, r_run, x_eret, x_enx, x_eexc, r_seq, r_asg, k_asg, r_ret, k_ret, r_drop, k_drop, r_if, r_var, r_c, r_op, k_op, k_op2, r_un, k_un, k_false, k_true, r_chain, k_ch, k_ch2, k_ch3, r_and, r_or, r_not, r_ife, r_nil, r_cons, k_cons, k_cons2, r_lst, k_lst, r_tup, k_tup, x_mkT, x_mkF, r_call, k_call1, k_call2, k_call3, k_call4, k_call5, k_call6, k_call7, k_call8, r_bi, k_bi, r_is, k_is, r_bm, k_bmS, k_bm2, r_bm0, k_bm0S, r_sl, k_sl, k_sl2, k_sl3, r_part0, r_part, k_part, r_any, k_anyL, k_anyT, k_anyC, k_anyS, r_enumA, k_enumL, k_enumS, r_range1, k_range1, r_range2, k_range2, r_setA, k_set, k_set2, r_name, r_tnil, r_tcons, r_ttup, r_for, x_for, v_int, v_str, f_gt, f_ge, f_lt, f_le, f_sub, f_add, f_mul, f_div, f_mod, f_pow, f_eqI, f_neI, f_isN, f_notN, f_neg, f_eqS, r_lc, x_lc, x_lcR, r_yes, f_lenS, f_lenL, f_lenT, f_lenC, f_addS, List.getElem?_cons_zero, List.getElem?_cons_succ, List.set_cons_zero, List.set_cons_succ, List.map_cons, List.map_nil, List.length_cons, List.length_nil, List.cons_append, List.nil_append, List.replicate_succ, List.replicate_zero, Nat.reduceAdd, Nat.reduceSub, Nat.reduceLeDiff, Nat.reduceLT, Nat.zero_add, if_true, if_false, Bool.false_eq_true, reduceIte, Option.bind_some, sizeLine_eq, decide_true, decide_false, Int.reduceLT, Int.reduceLE, Int.reduceNeg, Int.reducePow, Int.reduceMul, Int.reduceSub, Int.reduceAdd, Int.reduceEq, Int.reduceToNat, Int.reduceNe, Nat.reduceEqDiff, decide_eq_true_eq, eq_self, and_self, true_and, and_true, not_true_eq_false, not_false_eq_true, it, hl, h1, h4, signsOf, k2, q3, eq_zero, hz, this, optI, NumText.digitsVal]
    · have ha : allIn x figures = false := k1
      have : numOf x = none := by unfold numOf; rw [if_neg (by simp [ha])]
      simp (disch := first | omega | (simp only [List.length_cons, List.length_nil, List.length_map, List.length_append, sizeLine_eq] <;> omega)) only [x_bok, x_bex, x_tok, x_tex, x_tt, x_tst, x_tex2, x_tex3, x_args, x_argx, x_nx, x_ret, x_brk, x_cnt, x_exc, x_lift, x_optS, x_getV, r_run, x_eret, x_enx, x_eexc, r_seq, r_asg, k_asg, r_ret, k_ret, r_drop, k_drop, r_if, r_var, r_c, r_op, k_op, k_op2, r_un, k_un, k_false, k_true, r_chain, k_ch, k_ch2, k_ch3, r_and, r_or, r_not, r_ife, r_nil, r_cons, k_cons, k_cons2, r_lst, k_lst, r_tup, k_tup, x_mkT, x_mkF, r_call, k_call1, k_call2, k_call3, k_call4, k_call5, k_call6, k_call7, k_call8, r_bi, k_bi, r_is, k_is, r_bm, k_bmS, k_bm2, r_bm0, k_bm0S, r_sl, k_sl, k_sl2, k_sl3, r_part0, r_part, k_part, r_any, k_anyL, k_anyT, k_anyC, k_anyS, r_enumA, k_enumL, k_enumS, r_range1, k_range1, r_range2, k_range2, r_setA, k_set, k_set2, r_name, r_tnil, r_tcons, r_ttup, r_for, x_for, v_int, v_str, f_gt, f_ge, f_lt, f_le, f_sub, f_add, f_mul, f_div, f_mod, f_pow, f_eqI, f_neI, f_isN, f_notN, f_neg, f_eqS, r_lc, x_lc, x_lcR, r_yes, f_lenS, f_lenL, f_lenT, f_lenC, f_addS, List.getElem?_cons_zero, List.getElem?_cons_succ, List.set_cons_zero, List.set_cons_succ, List.map_cons, List.map_nil, List.length_cons, List.length_nil, List.cons_append, List.nil_append, List.replicate_succ, List.replicate_zero, Nat.reduceAdd, Nat.reduceSub, Nat.reduceLeDiff, Nat.reduceLT, Nat.zero_add, if_true, if_false, Bool.false_eq_true, reduceIte, Option.bind_some, sizeLine_eq, decide_true, decide_false, Int.reduceLT, Int.reduceLE, Int.reduceNeg, Int.reducePow, Int.reduceMul, Int.reduceSub, Int.reduceAdd, Int.reduceEq, Int.reduceToNat, Int.reduceNe, Nat.reduceEqDiff, decide_eq_true_eq, eq_self, and_self, true_and, and_true, not_true_eq_false, not_false_eq_true, it, hl, h1, h4, signsOf, k2, this, optI]

/-! ### one thing -/
theorem same_ok {a b : Bool} (ah : AH) : g__law_same [.bl a, .bl b] ah = .ok (.bl (decide (a = b))) ah := by
  unfold g__law_same m__law_same
  have e : fEq (.bl a) (.bl b) ah = some (.bl (decide (a = b)), ah) := by cases a <;> cases b <;> rfl
  have it : fIs ["bool"] (.bl a) ah = some (.bl true, ah) := by simp [fIs, view, tyN, subTy]
  simp (disch := first | omega | (simp only [List.length_cons, List.length_nil, List.length_map, List.length_append, sizeLine_eq] <;> omega)) only [x_bok, x_bex, x_tok, x_tex, x_tt, x_tst, x_tex2, x_tex3, x_args, x_argx, x_nx, x_ret, x_brk, x_cnt, x_exc, x_lift, x_optS, x_getV, r_run, x_eret, x_enx, x_eexc, r_seq, r_asg, k_asg, r_ret, k_ret, r_drop, k_drop, r_if, r_var, r_c, r_op, k_op, k_op2, r_un, k_un, k_false, k_true, r_chain, k_ch, k_ch2, k_ch3, r_and, r_or, r_not, r_ife, r_nil, r_cons, k_cons, k_cons2, r_lst, k_lst, r_tup, k_tup, x_mkT, x_mkF, r_call, k_call1, k_call2, k_call3, k_call4, k_call5, k_call6, k_call7, k_call8, r_bi, k_bi, r_is, k_is, r_bm, k_bmS, k_bm2, r_bm0, k_bm0S, r_sl, k_sl, k_sl2, k_sl3, r_part0, r_part, k_part, r_any, k_anyL, k_anyT, k_anyC, k_anyS, r_enumA, k_enumL, k_enumS, r_range1, k_range1, r_range2, k_range2, r_setA, k_set, k_set2, r_name, r_tnil, r_tcons, r_ttup, r_for, x_for, v_int, v_str, f_gt, f_ge, f_lt, f_le, f_sub, f_add, f_mul, f_div, f_mod, f_pow, f_eqI, f_neI, f_isN, f_notN, f_neg, f_eqS, r_lc, x_lc, x_lcR, r_yes, f_lenS, f_lenL, f_lenT, f_lenC, f_addS, List.getElem?_cons_zero, List.getElem?_cons_succ, List.set_cons_zero, List.set_cons_succ, List.map_cons, List.map_nil, List.length_cons, List.length_nil, List.cons_append, List.nil_append, List.replicate_succ, List.replicate_zero, Nat.reduceAdd, Nat.reduceSub, Nat.reduceLeDiff, Nat.reduceLT, Nat.zero_add, if_true, if_false, Bool.false_eq_true, reduceIte, Option.bind_some, sizeLine_eq, decide_true, decide_false, Int.reduceLT, Int.reduceLE, Int.reduceNeg, Int.reducePow, Int.reduceMul, Int.reduceSub, Int.reduceAdd, Int.reduceEq, Int.reduceToNat, Int.reduceNe, Nat.reduceEqDiff, decide_eq_true_eq, eq_self, and_self, true_and, and_true, not_true_eq_false, not_false_eq_true, it, e]
def inB (lo hi : Int) : D → Bool
  | .int i => decide (lo ≤ i) && decide (i ≤ hi)
  | _ => false
theorem within_ok {d : D} (h : Thing d) (lo hi : Int) (ah : AH) : g_is_within [d, .int lo, .int hi] ah = .ok (.bl (inB lo hi d)) ah := by
  unfold g_is_within m_is_within
  have w := whole_ok h ah
  cases h with
  | int i =>
    by_cases c : lo ≤ i
    · by_cases c2 : i ≤ hi <;> simp (disch := first | omega | (simp only [List.length_cons, List.length_nil, List.length_map, List.length_append, sizeLine_eq] <;> omega)) only [x_bok, x_bex, x_tok, x_tex, x_tt, x_tst, x_tex2, x_tex3, x_args, x_argx, x_nx, x_ret, x_brk, x_cnt, x_exc, x_lift, x_optS, x_getV, r_run, x_eret, x_enx, x_eexc, r_seq, r_asg, k_asg, r_ret, k_ret, r_drop, k_drop, r_if, r_var, r_c, r_op, k_op, k_op2, r_un, k_un, k_false, k_true, r_chain, k_ch, k_ch2, k_ch3, r_and, r_or, r_not, r_ife, r_nil, r_cons, k_cons, k_cons2, r_lst, k_lst, r_tup, k_tup, x_mkT, x_mkF, r_call, k_call1, k_call2, k_call3, k_call4, k_call5, k_call6, k_call7, k_call8, r_bi, k_bi, r_is, k_is, r_bm, k_bmS, k_bm2, r_bm0, k_bm0S, r_sl, k_sl, k_sl2, k_sl3, r_part0, r_part, k_part, r_any, k_anyL, k_anyT, k_anyC, k_anyS, r_enumA, k_enumL, k_enumS, r_range1, k_range1, r_range2, k_range2, r_setA, k_set, k_set2, r_name, r_tnil, r_tcons, r_ttup, r_for, x_for, v_int, v_str, f_gt, f_ge, f_lt, f_le, f_sub, f_add, f_mul, f_div, f_mod, f_pow, f_eqI, f_neI, f_isN, f_notN, f_neg, f_eqS, r_lc, x_lc, x_lcR, r_yes, f_lenS, f_lenL, f_lenT, f_lenC, f_addS, List.getElem?_cons_zero, List.getElem?_cons_succ, List.set_cons_zero, List.set_cons_succ, List.map_cons, List.map_nil, List.length_cons, List.length_nil, List.cons_append, List.nil_append, List.replicate_succ, List.replicate_zero, Nat.reduceAdd, Nat.reduceSub, Nat.reduceLeDiff, Nat.reduceLT, Nat.zero_add, if_true, if_false, Bool.false_eq_true, reduceIte, Option.bind_some, sizeLine_eq, decide_true, decide_false, Int.reduceLT, Int.reduceLE, Int.reduceNeg, Int.reducePow, Int.reduceMul, Int.reduceSub, Int.reduceAdd, Int.reduceEq, Int.reduceToNat, Int.reduceNe, Nat.reduceEqDiff, decide_eq_true_eq, eq_self, and_self, true_and, and_true, not_true_eq_false, not_false_eq_true, w, isI, inB, c, c2, Bool.and_self, Bool.and_true, Bool.and_false]
    · simp (disch := first | omega | (simp only [List.length_cons, List.length_nil, List.length_map, List.length_append, sizeLine_eq] <;> omega)) only [x_bok, x_bex, x_tok, x_tex, x_tt, x_tst, x_tex2, x_tex3, x_args, x_argx, x_nx, x_ret, x_brk, x_cnt, x_exc, x_lift, x_optS, x_getV, r_run, x_eret, x_enx, x_eexc, r_seq, r_asg, k_asg, r_ret, k_ret, r_drop, k_drop, r_if, r_var, r_c, r_op, k_op, k_op2, r_un, k_un, k_false, k_true, r_chain, k_ch, k_ch2, k_ch3, r_and, r_or, r_not, r_ife, r_nil, r_cons, k_cons, k_cons2, r_lst, k_lst, r_tup, k_tup, x_mkT, x_mkF, r_call, k_call1, k_call2, k_call3, k_call4, k_call5, k_call6, k_call7, k_call8, r_bi, k_bi, r_is, k_is, r_bm, k_bmS, k_bm2, r_bm0, k_bm0S, r_sl, k_sl, k_sl2, k_sl3, r_part0, r_part, k_part, r_any, k_anyL, k_anyT, k_anyC, k_anyS, r_enumA, k_enumL, k_enumS, r_range1, k_range1, r_range2, k_range2, r_setA, k_set, k_set2, r_name, r_tnil, r_tcons, r_ttup, r_for, x_for, v_int, v_str, f_gt, f_ge, f_lt, f_le, f_sub, f_add, f_mul, f_div, f_mod, f_pow, f_eqI, f_neI, f_isN, f_notN, f_neg, f_eqS, r_lc, x_lc, x_lcR, r_yes, f_lenS, f_lenL, f_lenT, f_lenC, f_addS, List.getElem?_cons_zero, List.getElem?_cons_succ, List.set_cons_zero, List.set_cons_succ, List.map_cons, List.map_nil, List.length_cons, List.length_nil, List.cons_append, List.nil_append, List.replicate_succ, List.replicate_zero, Nat.reduceAdd, Nat.reduceSub, Nat.reduceLeDiff, Nat.reduceLT, Nat.zero_add, if_true, if_false, Bool.false_eq_true, reduceIte, Option.bind_some, sizeLine_eq, decide_true, decide_false, Int.reduceLT, Int.reduceLE, Int.reduceNeg, Int.reducePow, Int.reduceMul, Int.reduceSub, Int.reduceAdd, Int.reduceEq, Int.reduceToNat, Int.reduceNe, Nat.reduceEqDiff, decide_eq_true_eq, eq_self, and_self, true_and, and_true, not_true_eq_false, not_false_eq_true, w, isI, inB, c, Bool.false_and]
  | _ => simp (disch := first | omega | (simp only [List.length_cons, List.length_nil, List.length_map, List.length_append, sizeLine_eq] <;> omega)) only [x_bok, x_bex, x_tok, x_tex, x_tt, x_tst, x_tex2, x_tex3, x_args, x_argx, x_nx, x_ret, x_brk, x_cnt, x_exc, x_lift, x_optS, x_getV, r_run, x_eret, x_enx, x_eexc, r_seq, r_asg, k_asg, r_ret, k_ret, r_drop, k_drop, r_if, r_var, r_c, r_op, k_op, k_op2, r_un, k_un, k_false, k_true, r_chain, k_ch, k_ch2, k_ch3, r_and, r_or, r_not, r_ife, r_nil, r_cons, k_cons, k_cons2, r_lst, k_lst, r_tup, k_tup, x_mkT, x_mkF, r_call, k_call1, k_call2, k_call3, k_call4, k_call5, k_call6, k_call7, k_call8, r_bi, k_bi, r_is, k_is, r_bm, k_bmS, k_bm2, r_bm0, k_bm0S, r_sl, k_sl, k_sl2, k_sl3, r_part0, r_part, k_part, r_any, k_anyL, k_anyT, k_anyC, k_anyS, r_enumA, k_enumL, k_enumS, r_range1, k_range1, r_range2, k_range2, r_setA, k_set, k_set2, r_name, r_tnil, r_tcons, r_ttup, r_for, x_for, v_int, v_str, f_gt, f_ge, f_lt, f_le, f_sub, f_add, f_mul, f_div, f_mod, f_pow, f_eqI, f_neI, f_isN, f_notN, f_neg, f_eqS, r_lc, x_lc, x_lcR, r_yes, f_lenS, f_lenL, f_lenT, f_lenC, f_addS, List.getElem?_cons_zero, List.getElem?_cons_succ, List.set_cons_zero, List.set_cons_succ, List.map_cons, List.map_nil, List.length_cons, List.length_nil, List.cons_append, List.nil_append, List.replicate_succ, List.replicate_zero, Nat.reduceAdd, Nat.reduceSub, Nat.reduceLeDiff, Nat.reduceLT, Nat.zero_add, if_true, if_false, Bool.false_eq_true, reduceIte, Option.bind_some, sizeLine_eq, decide_true, decide_false, Int.reduceLT, Int.reduceLE, Int.reduceNeg, Int.reducePow, Int.reduceMul, Int.reduceSub, Int.reduceAdd, Int.reduceEq, Int.reduceToNat, Int.reduceNe, Nat.reduceEqDiff, decide_eq_true_eq, eq_self, and_self, true_and, and_true, not_true_eq_false, not_false_eq_true, w, isI, inB]
theorem thing_num {d : D} (h : Thing d) (ah : AH) : ∃ o, g_number_of [d] ah = .ok (optI o) ah ∧ g__law_number [d] ah = .ok (optI o) ah := by
  cases hs : isSt d with
  | false => exact ⟨none, num_no h hs ah, lnum_no h hs ah⟩
  | true =>
    cases h with
    | str x hx => exact ⟨numOf x, num_str hx ah, lnum_str hx ah⟩
    | _ => cases hs
theorem thing_name {d : D} (h : Thing d) (ah : AH) : ∃ b, g_is_name [d] ah = .ok (.bl b) ah ∧ g__law_is [d] ah = .ok (.bl b) ah := by
  cases hs : isSt d with
  | false => exact ⟨false, name_no h hs ah, lis_no h hs ah⟩
  | true =>
    cases h with
    | str x hx => exact ⟨nameB x.cps.toList, name_str hx ah, lis_str hx ah⟩
    | _ => cases hs
theorem right_ok {d : D} (h : Thing d) (lo hi : Int) (ah : AH) : g__law_right [d, .int lo, .int hi] ah = .ok (.bl true) ah := by
  unfold g__law_right m__law_right
  have w := whole_ok h ah
  have lw := lwhole_ok h ah
  have wi := within_ok h lo hi ah
  obtain ⟨o, n1, n2⟩ := thing_num h ah
  obtain ⟨b, b1, b2⟩ := thing_name h ah
  have mid : mAnd (mVar 3) (mAnd (mOp fLe (mVar 1) (mVar 0)) (mOp fLe (mVar 0) (mVar 2))) [some d, some (.int lo), some (.int hi), some (.bl (isI d)), none, none] ah = .ok (.bl (inB lo hi d)) ah := by
    cases h with
    | int i =>
      by_cases c : lo ≤ i
      · by_cases c2 : i ≤ hi <;> simp (disch := first | omega | (simp only [List.length_cons, List.length_nil, List.length_map, List.length_append, sizeLine_eq] <;> omega)) only [x_bok, x_bex, x_tok, x_tex, x_tt, x_tst, x_tex2, x_tex3, x_args, x_argx, x_nx, x_ret, x_brk, x_cnt, x_exc, x_lift, x_optS, x_getV, r_run, x_eret, x_enx, x_eexc, r_seq, r_asg, k_asg, r_ret, k_ret, r_drop, k_drop, r_if, r_var, r_c, r_op, k_op, k_op2, r_un, k_un, k_false, k_true, r_chain, k_ch, k_ch2, k_ch3, r_and, r_or, r_not, r_ife, r_nil, r_cons, k_cons, k_cons2, r_lst, k_lst, r_tup, k_tup, x_mkT, x_mkF, r_call, k_call1, k_call2, k_call3, k_call4, k_call5, k_call6, k_call7, k_call8, r_bi, k_bi, r_is, k_is, r_bm, k_bmS, k_bm2, r_bm0, k_bm0S, r_sl, k_sl, k_sl2, k_sl3, r_part0, r_part, k_part, r_any, k_anyL, k_anyT, k_anyC, k_anyS, r_enumA, k_enumL, k_enumS, r_range1, k_range1, r_range2, k_range2, r_setA, k_set, k_set2, r_name, r_tnil, r_tcons, r_ttup, r_for, x_for, v_int, v_str, f_gt, f_ge, f_lt, f_le, f_sub, f_add, f_mul, f_div, f_mod, f_pow, f_eqI, f_neI, f_isN, f_notN, f_neg, f_eqS, r_lc, x_lc, x_lcR, r_yes, f_lenS, f_lenL, f_lenT, f_lenC, f_addS, List.getElem?_cons_zero, List.getElem?_cons_succ, List.set_cons_zero, List.set_cons_succ, List.map_cons, List.map_nil, List.length_cons, List.length_nil, List.cons_append, List.nil_append, List.replicate_succ, List.replicate_zero, Nat.reduceAdd, Nat.reduceSub, Nat.reduceLeDiff, Nat.reduceLT, Nat.zero_add, if_true, if_false, Bool.false_eq_true, reduceIte, Option.bind_some, sizeLine_eq, decide_true, decide_false, Int.reduceLT, Int.reduceLE, Int.reduceNeg, Int.reducePow, Int.reduceMul, Int.reduceSub, Int.reduceAdd, Int.reduceEq, Int.reduceToNat, Int.reduceNe, Nat.reduceEqDiff, decide_eq_true_eq, eq_self, and_self, true_and, and_true, not_true_eq_false, not_false_eq_true, isI, inB, c, c2, Bool.and_self, Bool.and_true, Bool.and_false]
      · simp (disch := first | omega | (simp only [List.length_cons, List.length_nil, List.length_map, List.length_append, sizeLine_eq] <;> omega)) only [x_bok, x_bex, x_tok, x_tex, x_tt, x_tst, x_tex2, x_tex3, x_args, x_argx, x_nx, x_ret, x_brk, x_cnt, x_exc, x_lift, x_optS, x_getV, r_run, x_eret, x_enx, x_eexc, r_seq, r_asg, k_asg, r_ret, k_ret, r_drop, k_drop, r_if, r_var, r_c, r_op, k_op, k_op2, r_un, k_un, k_false, k_true, r_chain, k_ch, k_ch2, k_ch3, r_and, r_or, r_not, r_ife, r_nil, r_cons, k_cons, k_cons2, r_lst, k_lst, r_tup, k_tup, x_mkT, x_mkF, r_call, k_call1, k_call2, k_call3, k_call4, k_call5, k_call6, k_call7, k_call8, r_bi, k_bi, r_is, k_is, r_bm, k_bmS, k_bm2, r_bm0, k_bm0S, r_sl, k_sl, k_sl2, k_sl3, r_part0, r_part, k_part, r_any, k_anyL, k_anyT, k_anyC, k_anyS, r_enumA, k_enumL, k_enumS, r_range1, k_range1, r_range2, k_range2, r_setA, k_set, k_set2, r_name, r_tnil, r_tcons, r_ttup, r_for, x_for, v_int, v_str, f_gt, f_ge, f_lt, f_le, f_sub, f_add, f_mul, f_div, f_mod, f_pow, f_eqI, f_neI, f_isN, f_notN, f_neg, f_eqS, r_lc, x_lc, x_lcR, r_yes, f_lenS, f_lenL, f_lenT, f_lenC, f_addS, List.getElem?_cons_zero, List.getElem?_cons_succ, List.set_cons_zero, List.set_cons_succ, List.map_cons, List.map_nil, List.length_cons, List.length_nil, List.cons_append, List.nil_append, List.replicate_succ, List.replicate_zero, Nat.reduceAdd, Nat.reduceSub, Nat.reduceLeDiff, Nat.reduceLT, Nat.zero_add, if_true, if_false, Bool.false_eq_true, reduceIte, Option.bind_some, sizeLine_eq, decide_true, decide_false, Int.reduceLT, Int.reduceLE, Int.reduceNeg, Int.reducePow, Int.reduceMul, Int.reduceSub, Int.reduceAdd, Int.reduceEq, Int.reduceToNat, Int.reduceNe, Nat.reduceEqDiff, decide_eq_true_eq, eq_self, and_self, true_and, and_true, not_true_eq_false, not_false_eq_true, isI, inB, c, Bool.false_and]
    | _ => simp (disch := first | omega | (simp only [List.length_cons, List.length_nil, List.length_map, List.length_append, sizeLine_eq] <;> omega)) only [x_bok, x_bex, x_tok, x_tex, x_tt, x_tst, x_tex2, x_tex3, x_args, x_argx, x_nx, x_ret, x_brk, x_cnt, x_exc, x_lift, x_optS, x_getV, r_run, x_eret, x_enx, x_eexc, r_seq, r_asg, k_asg, r_ret, k_ret, r_drop, k_drop, r_if, r_var, r_c, r_op, k_op, k_op2, r_un, k_un, k_false, k_true, r_chain, k_ch, k_ch2, k_ch3, r_and, r_or, r_not, r_ife, r_nil, r_cons, k_cons, k_cons2, r_lst, k_lst, r_tup, k_tup, x_mkT, x_mkF, r_call, k_call1, k_call2, k_call3, k_call4, k_call5, k_call6, k_call7, k_call8, r_bi, k_bi, r_is, k_is, r_bm, k_bmS, k_bm2, r_bm0, k_bm0S, r_sl, k_sl, k_sl2, k_sl3, r_part0, r_part, k_part, r_any, k_anyL, k_anyT, k_anyC, k_anyS, r_enumA, k_enumL, k_enumS, r_range1, k_range1, r_range2, k_range2, r_setA, k_set, k_set2, r_name, r_tnil, r_tcons, r_ttup, r_for, x_for, v_int, v_str, f_gt, f_ge, f_lt, f_le, f_sub, f_add, f_mul, f_div, f_mod, f_pow, f_eqI, f_neI, f_isN, f_notN, f_neg, f_eqS, r_lc, x_lc, x_lcR, r_yes, f_lenS, f_lenL, f_lenT, f_lenC, f_addS, List.getElem?_cons_zero, List.getElem?_cons_succ, List.set_cons_zero, List.set_cons_succ, List.map_cons, List.map_nil, List.length_cons, List.length_nil, List.cons_append, List.nil_append, List.replicate_succ, List.replicate_zero, Nat.reduceAdd, Nat.reduceSub, Nat.reduceLeDiff, Nat.reduceLT, Nat.zero_add, if_true, if_false, Bool.false_eq_true, reduceIte, Option.bind_some, sizeLine_eq, decide_true, decide_false, Int.reduceLT, Int.reduceLE, Int.reduceNeg, Int.reducePow, Int.reduceMul, Int.reduceSub, Int.reduceAdd, Int.reduceEq, Int.reduceToNat, Int.reduceNe, Nat.reduceEqDiff, decide_eq_true_eq, eq_self, and_self, true_and, and_true, not_true_eq_false, not_false_eq_true, isI, inB]
  have fin : mOr (mAnd (mOp fIsN (mVar 4) (mC .non)) (mOp fIsN (mVar 5) (mC .non))) (mAnd (mOp fNotN (mVar 5) (mC .non)) (mAnd (mCall 1 g__law_whole (aCons (mVar 4) aNil)) (mOp fEq (mVar 4) (mVar 5)))) [some d, some (.int lo), some (.int hi), some (.bl (isI d)), some (optI o), some (optI o)] ah = .ok (.bl true) ah := by
    cases o with
    | none => simp (disch := first | omega | (simp only [List.length_cons, List.length_nil, List.length_map, List.length_append, sizeLine_eq] <;> omega)) only [x_bok, x_bex, x_tok, x_tex, x_tt, x_tst, x_tex2, x_tex3, x_args, x_argx, x_nx, x_ret, x_brk, x_cnt, x_exc, x_lift, x_optS, x_getV, r_run, x_eret, x_enx, x_eexc, r_seq, r_asg, k_asg, r_ret, k_ret, r_drop, k_drop, r_if, r_var, r_c, r_op, k_op, k_op2, r_un, k_un, k_false, k_true, r_chain, k_ch, k_ch2, k_ch3, r_and, r_or, r_not, r_ife, r_nil, r_cons, k_cons, k_cons2, r_lst, k_lst, r_tup, k_tup, x_mkT, x_mkF, r_call, k_call1, k_call2, k_call3, k_call4, k_call5, k_call6, k_call7, k_call8, r_bi, k_bi, r_is, k_is, r_bm, k_bmS, k_bm2, r_bm0, k_bm0S, r_sl, k_sl, k_sl2, k_sl3, r_part0, r_part, k_part, r_any, k_anyL, k_anyT, k_anyC, k_anyS, r_enumA, k_enumL, k_enumS, r_range1, k_range1, r_range2, k_range2, r_setA, k_set, k_set2, r_name, r_tnil, r_tcons, r_ttup, r_for, x_for, v_int, v_str, f_gt, f_ge, f_lt, f_le, f_sub, f_add, f_mul, f_div, f_mod, f_pow, f_eqI, f_neI, f_isN, f_notN, f_neg, f_eqS, r_lc, x_lc, x_lcR, r_yes, f_lenS, f_lenL, f_lenT, f_lenC, f_addS, List.getElem?_cons_zero, List.getElem?_cons_succ, List.set_cons_zero, List.set_cons_succ, List.map_cons, List.map_nil, List.length_cons, List.length_nil, List.cons_append, List.nil_append, List.replicate_succ, List.replicate_zero, Nat.reduceAdd, Nat.reduceSub, Nat.reduceLeDiff, Nat.reduceLT, Nat.zero_add, if_true, if_false, Bool.false_eq_true, reduceIte, Option.bind_some, sizeLine_eq, decide_true, decide_false, Int.reduceLT, Int.reduceLE, Int.reduceNeg, Int.reducePow, Int.reduceMul, Int.reduceSub, Int.reduceAdd, Int.reduceEq, Int.reduceToNat, Int.reduceNe, Nat.reduceEqDiff, decide_eq_true_eq, eq_self, and_self, true_and, and_true, not_true_eq_false, not_false_eq_true, optI, fIsN, LD.isNon]
    | some i => simp (disch := first | omega | (simp only [List.length_cons, List.length_nil, List.length_map, List.length_append, sizeLine_eq] <;> omega)) only [x_bok, x_bex, x_tok, x_tex, x_tt, x_tst, x_tex2, x_tex3, x_args, x_argx, x_nx, x_ret, x_brk, x_cnt, x_exc, x_lift, x_optS, x_getV, r_run, x_eret, x_enx, x_eexc, r_seq, r_asg, k_asg, r_ret, k_ret, r_drop, k_drop, r_if, r_var, r_c, r_op, k_op, k_op2, r_un, k_un, k_false, k_true, r_chain, k_ch, k_ch2, k_ch3, r_and, r_or, r_not, r_ife, r_nil, r_cons, k_cons, k_cons2, r_lst, k_lst, r_tup, k_tup, x_mkT, x_mkF, r_call, k_call1, k_call2, k_call3, k_call4, k_call5, k_call6, k_call7, k_call8, r_bi, k_bi, r_is, k_is, r_bm, k_bmS, k_bm2, r_bm0, k_bm0S, r_sl, k_sl, k_sl2, k_sl3, r_part0, r_part, k_part, r_any, k_anyL, k_anyT, k_anyC, k_anyS, r_enumA, k_enumL, k_enumS, r_range1, k_range1, r_range2, k_range2, r_setA, k_set, k_set2, r_name, r_tnil, r_tcons, r_ttup, r_for, x_for, v_int, v_str, f_gt, f_ge, f_lt, f_le, f_sub, f_add, f_mul, f_div, f_mod, f_pow, f_eqI, f_neI, f_isN, f_notN, f_neg, f_eqS, r_lc, x_lc, x_lcR, r_yes, f_lenS, f_lenL, f_lenT, f_lenC, f_addS, List.getElem?_cons_zero, List.getElem?_cons_succ, List.set_cons_zero, List.set_cons_succ, List.map_cons, List.map_nil, List.length_cons, List.length_nil, List.cons_append, List.nil_append, List.replicate_succ, List.replicate_zero, Nat.reduceAdd, Nat.reduceSub, Nat.reduceLeDiff, Nat.reduceLT, Nat.zero_add, if_true, if_false, Bool.false_eq_true, reduceIte, Option.bind_some, sizeLine_eq, decide_true, decide_false, Int.reduceLT, Int.reduceLE, Int.reduceNeg, Int.reducePow, Int.reduceMul, Int.reduceSub, Int.reduceAdd, Int.reduceEq, Int.reduceToNat, Int.reduceNe, Nat.reduceEqDiff, decide_eq_true_eq, eq_self, and_self, true_and, and_true, not_true_eq_false, not_false_eq_true, optI, fIsN, fNotN, LD.isNon, lwhole_ok (.int i), isI, Bool.not_false]
  simp (disch := first | omega | (simp only [List.length_cons, List.length_nil, List.length_map, List.length_append, sizeLine_eq] <;> omega)) only [r_run, r_seq, r_asg, r_if, r_ret, r_not, r_call, r_cons, r_nil, r_var, x_getV, x_bok, x_args, k_cons, k_cons2, k_call1, k_call2, k_call3, x_tok, k_asg, r_name, x_optS, x_nx, x_tt, x_tst, k_false, k_true, x_eret, k_ret, List.map_cons, List.map_nil, List.cons_append, List.nil_append, List.length_cons, List.length_nil, Nat.reduceAdd, Nat.reduceSub, List.replicate_succ, List.replicate_zero, Nat.zero_add, List.getElem?_cons_zero, List.getElem?_cons_succ, List.set_cons_zero, List.set_cons_succ, lw, w, wi, mid, fin, same_ok, n1, n2, b1, b2, decide_true, if_true, reduceIte, Bool.false_eq_true]
/-! ### the things of a box -/
theorem smalls : ∀ i : Nat, i < 24 → ((-12 + (i : Int)).natAbs.log2 < 1920 ∧ PySem.PyData.strOk (Str.ofString (toString (-12 + (i : Int)))) = true ∧ (Str.ofString (toString (-12 + (i : Int)))).length ≤ 100) := by decide +kernel

theorem box_ok (v : Int) (ah : AH) : ∃ c, Box 0 c ∧ g__law_box [.int v] ah = .ok (.cell ah.length) (ah ++ [some c]) := by
  refine ⟨.lst [.int (if v - 10 ^ 18 > 0 then v - 10 ^ 18 else 0), .int (v % 2147483647), .int 0], ⟨_, _, _, rfl, by split <;> omega, Int.emod_nonneg _ (by omega), Int.emod_lt_of_pos _ (by omega), by omega, by simp⟩, ?_⟩
  unfold g__law_box m__law_box
  simp (disch := first | omega | (simp only [List.length_cons, List.length_nil, List.length_map, List.length_append, sizeLine_eq] <;> omega)) only [x_bok, x_bex, x_tok, x_tex, x_tt, x_tst, x_tex2, x_tex3, x_args, x_argx, x_nx, x_ret, x_brk, x_cnt, x_exc, x_lift, x_optS, x_getV, r_run, x_eret, x_enx, x_eexc, r_seq, r_asg, k_asg, r_ret, k_ret, r_drop, k_drop, r_if, r_var, r_c, r_op, k_op, k_op2, r_un, k_un, k_false, k_true, r_chain, k_ch, k_ch2, k_ch3, r_and, r_or, r_not, r_ife, r_nil, r_cons, k_cons, k_cons2, r_lst, k_lst, r_tup, k_tup, x_mkT, x_mkF, r_call, k_call1, k_call2, k_call3, k_call4, k_call5, k_call6, k_call7, k_call8, r_bi, k_bi, r_is, k_is, r_bm, k_bmS, k_bm2, r_bm0, k_bm0S, r_sl, k_sl, k_sl2, k_sl3, r_part0, r_part, k_part, r_any, k_anyL, k_anyT, k_anyC, k_anyS, r_enumA, k_enumL, k_enumS, r_range1, k_range1, r_range2, k_range2, r_setA, k_set, k_set2, r_name, r_tnil, r_tcons, r_ttup, r_for, x_for, v_int, v_str, f_gt, f_ge, f_lt, f_le, f_sub, f_add, f_mul, f_div, f_mod, f_pow, f_eqI, f_neI, f_isN, f_notN, f_neg, f_eqS, r_lc, x_lc, x_lcR, r_yes, f_lenS, f_lenL, f_lenT, f_lenC, f_addS, List.getElem?_cons_zero, List.getElem?_cons_succ, List.set_cons_zero, List.set_cons_succ, List.map_cons, List.map_nil, List.length_cons, List.length_nil, List.cons_append, List.nil_append, List.replicate_succ, List.replicate_zero, Nat.reduceAdd, Nat.reduceSub, Nat.reduceLeDiff, Nat.reduceLT, Nat.zero_add, if_true, if_false, Bool.false_eq_true, reduceIte, Option.bind_some, sizeLine_eq, decide_true, decide_false, Int.reduceLT, Int.reduceLE, Int.reduceNeg, Int.reducePow, Int.reduceMul, Int.reduceSub, Int.reduceAdd, Int.reduceEq, Int.reduceToNat, Int.reduceNe, Nat.reduceEqDiff, decide_eq_true_eq, eq_self, and_self, true_and, and_true, not_true_eq_false, not_false_eq_true, fMax2]
def thingsOf (y z : Str) (N s : Int) : List D := [.str y, .int N, .int s, .bl true, .bl false, .non, .lst [.str y], .tup [.str y], .dic [.str y] [.int s], .lst [], .str z]
theorem things_thing {y z : Str} {N s : Int} (hy : y.length ≤ 100) (hz : z.length ≤ 100) : ∀ d ∈ thingsOf y z N s, Thing d := fun d hd => by
  simp only [thingsOf, List.mem_cons, List.not_mem_nil, or_false] at hd
  rcases hd with rfl | rfl | rfl | rfl | rfl | rfl | rfl | rfl | rfl | rfl | rfl
  · exact .str _ hy
  · exact .int _
  · exact .int _
  · exact .bl _
  · exact .bl _
  · exact .non
  · exact .lst _
  · exact .tup _
  · exact .dic _ _
  · exact .lst _
  · exact .str _ hz
theorem things_ok {ah a : AH} {n t : Nat} {y : Str} (hn : n < ah.length) (L : Left ah n t a) (ht : t < 2 ^ 40) :
    ∃ z N s a', z.length ≤ 100 ∧ Left ah n (t + 2) a' ∧ g__law_things [.cell n, .str y] a = .ok (.lst (thingsOf y z N s)) a' := by
  unfold g__law_things m__law_things
  obtain ⟨N, a1, N0, N1, L1, e1⟩ := takeL hn L (by omega) (m := 2 * 10 ^ 30 - 1) (by omega) (by omega)
  obtain ⟨s, a2, s0, s1, L2, e2⟩ := takeL hn L1 (by omega) (m := 24) (by omega) (by omega)
  obtain ⟨h1, h2, h3⟩ := smalls s.toNat (by omega)
  have es : -12 + (s.toNat : Int) = s - 12 := by omega
  rw [es] at h1 h2 h3
  refine ⟨Str.ofString (toString (s - 12)), N - (10 ^ 30 - 1), s - 12, a2, h3, L2, ?_⟩
  have st : fStr [.int (s - 12)] a2 = some (.str (Str.ofString (toString (s - 12))), a2) := by
    show (if (s - 12).natAbs.log2 < 1920 ∧ PySem.PyData.strOk (Str.ofString (toString (s - 12))) = true then some (D.str (Str.ofString (toString (s - 12))), a2) else none) = _
    rw [if_pos ⟨h1, h2⟩]
  have dd : mDict true [(mVar 1, mVar 3)] [some (.cell n), some (.str y), some (.int (N - 999999999999999999999999999999)), some (.int (s - 12))] a2 = .ok (.dic [.str y] [.int (s - 12)]) a2 := rfl
  have e1' : g__law_take [.cell n, .int 1999999999999999999999999999999] a = .ok (.int N) a1 := e1
  simp (disch := first | omega | (simp only [List.length_cons, List.length_nil, List.length_map, List.length_append, sizeLine_eq] <;> omega)) only [x_bok, x_bex, x_tok, x_tex, x_tt, x_tst, x_tex2, x_tex3, x_args, x_argx, x_nx, x_ret, x_brk, x_cnt, x_exc, x_lift, x_optS, x_getV, r_run, x_eret, x_enx, x_eexc, r_seq, r_asg, k_asg, r_ret, k_ret, r_drop, k_drop, r_if, r_var, r_c, r_op, k_op, k_op2, r_un, k_un, k_false, k_true, r_chain, k_ch, k_ch2, k_ch3, r_and, r_or, r_not, r_ife, r_nil, r_cons, k_cons, k_cons2, r_lst, k_lst, r_tup, k_tup, x_mkT, x_mkF, r_call, k_call1, k_call2, k_call3, k_call4, k_call5, k_call6, k_call7, k_call8, r_bi, k_bi, r_is, k_is, r_bm, k_bmS, k_bm2, r_bm0, k_bm0S, r_sl, k_sl, k_sl2, k_sl3, r_part0, r_part, k_part, r_any, k_anyL, k_anyT, k_anyC, k_anyS, r_enumA, k_enumL, k_enumS, r_range1, k_range1, r_range2, k_range2, r_setA, k_set, k_set2, r_name, r_tnil, r_tcons, r_ttup, r_for, x_for, v_int, v_str, f_gt, f_ge, f_lt, f_le, f_sub, f_add, f_mul, f_div, f_mod, f_pow, f_eqI, f_neI, f_isN, f_notN, f_neg, f_eqS, r_lc, x_lc, x_lcR, r_yes, f_lenS, f_lenL, f_lenT, f_lenC, f_addS, List.getElem?_cons_zero, List.getElem?_cons_succ, List.set_cons_zero, List.set_cons_succ, List.map_cons, List.map_nil, List.length_cons, List.length_nil, List.cons_append, List.nil_append, List.replicate_succ, List.replicate_zero, Nat.reduceAdd, Nat.reduceSub, Nat.reduceLeDiff, Nat.reduceLT, Nat.zero_add, if_true, if_false, Bool.false_eq_true, reduceIte, Option.bind_some, sizeLine_eq, decide_true, decide_false, Int.reduceLT, Int.reduceLE, Int.reduceNeg, Int.reducePow, Int.reduceMul, Int.reduceSub, Int.reduceAdd, Int.reduceEq, Int.reduceToNat, Int.reduceNe, Nat.reduceEqDiff, decide_eq_true_eq, eq_self, and_self, true_and, and_true, not_true_eq_false, not_false_eq_true, e1', e2, st, dd, thingsOf]
theorem twelve : ∀ k : Nat, k < 12 → ((k : Int) * 911).natAbs.log2 < 1920 ∧ PySem.PyData.strOk (Str.ofString (toString ((k : Int) * 911))) = true ∧ (Str.ofString (toString ((k : Int) * 911))).length ≤ 100 ∧
    numOf (Str.ofString (toString ((k : Int) * 911))) = (if (k : Int) * 911 > 9999 then none else some ((k : Int) * 911)) := by decide +kernel
theorem ends3 : numOf (Str.ofString "10000") = none ∧ numOf (Str.ofString "9999") = some 9999 ∧ numOf (Str.ofString "0") = some 0 ∧ (Str.ofString "10000").length ≤ 100 ∧ (Str.ofString "9999").length ≤ 100 ∧ (Str.ofString "0").length ≤ 100 := by decide +kernel

/-! ### the law -/
abbrev mostI : Int := 10 ^ 30 - 1
abbrev inB1 : MS := (mSeq (mAsg (mOp fIxD (mVar 6) (mCall 2 g__law_take (aCons (mVar 4) (aCons (mC (.int 6)) aNil)))) (tgTup 2 (tgCons (tgName 8) (tgCons (tgName 9) tgNil)))) (mIfS (mNot (mCall 3 g__law_right (aCons (mVar 7) (aCons (mVar 8) (aCons (mVar 9) aNil))))) (mRet (mC (.bl false))) .nx))
theorem inner_ok {ah : AH} {n t : Nat} {a : AH} (hn : n < ah.length) (L : Left ah n t a) (ht : t < 2 ^ 40) {ns : List Int} {v : Int} {o3 o7 o8 o9 : Option D} {N M : Int} (items : List D) (hi : ∀ d ∈ items, Thing d) (hlen : items.length < 100) (d5 : D) :
    ∃ s' a', forD (tgName 7) inB1 items [some (.scr ns), some (.int mostI), some (.int v), o3, some (.cell n), some d5, some (.lst [.tup [.int (-12), .int 11], .tup [.int 0, .int 0], .tup [.int 1, .int 50], .tup [.int 5, .int 4], .tup [.int N, .int N], .tup [.int M, .int mostI]]), o7, o8, o9] a = .nx s' a' ∧
      ∃ o3 o4 o5 o6 o7 o8 o9, s' = [some (.scr ns), some (.int mostI), some (.int v), o3, o4, o5, o6, o7, o8, o9] := by
  obtain ⟨s', a', e, q⟩ := for_idx (g := tgName 7) (mb := inB1) (fun k sd a => ∃ o7 o8 o9, sd = [some (.scr ns), some (.int mostI), some (.int v), o3, some (.cell n), some d5, some (.lst [.tup [.int (-12), .int 11], .tup [.int 0, .int 0], .tup [.int 1, .int 50], .tup [.int 5, .int 4], .tup [.int N, .int N], .tup [.int M, .int mostI]]), o7, o8, o9] ∧ Left ah n (t + k) a) items 0 _ a ⟨o7, o8, o9, rfl, L⟩
    (fun j d hd sd a ⟨o7, o8, o9, es, L⟩ => by
      subst es
      have hj : j < items.length := (List.getElem?_eq_some_iff.mp hd).1
      have hm : d ∈ items := List.mem_of_getElem? hd
      obtain ⟨w, a1, w0, w1, L1, e1⟩ := takeL hn L (by omega) (m := 6) (by omega) (by omega)
      obtain ⟨b, b1, b2, b3⟩ := f_ixL (xs := [.tup [.int (-12), .int 11], .tup [.int 0, .int 0], .tup [.int 1, .int 50], .tup [.int 5, .int 4], .tup [.int N, .int N], .tup [.int M, .int mostI]]) (i := w) (ah := a1) w0 (by simpa using w1)
      obtain ⟨lo, hi', eb⟩ : ∃ lo hi' : Int, b = .tup [.int lo, .int hi'] := by
        simp only [List.mem_cons, List.not_mem_nil, or_false] at b1
        rcases b1 with rfl | rfl | rfl | rfl | rfl | rfl <;> exact ⟨_, _, rfl⟩
      subst eb
      have r := right_ok (hi d hm) lo hi' a1
      refine ⟨_, [some (.scr ns), some (.int mostI), some (.int v), o3, some (.cell n), some d5, some (.lst [.tup [.int (-12), .int 11], .tup [.int 0, .int 0], .tup [.int 1, .int 50], .tup [.int 5, .int 4], .tup [.int N, .int N], .tup [.int M, .int mostI]]), some d, some (.int lo), some (.int hi')], a1, rfl, .inl ?_, _, _, _, rfl, L1⟩
      simp (disch := first | omega | (simp only [List.length_cons, List.length_nil, List.length_map, List.length_append, sizeLine_eq] <;> omega)) only [inB1, x_bok, x_bex, x_tok, x_tex, x_tt, x_tst, x_tex2, x_tex3, x_args, x_argx, x_nx, x_ret, x_brk, x_cnt, x_exc, x_lift, x_optS, x_getV, r_run, x_eret, x_enx, x_eexc, r_seq, r_asg, k_asg, r_ret, k_ret, r_drop, k_drop, r_if, r_var, r_c, r_op, k_op, k_op2, r_un, k_un, k_false, k_true, r_chain, k_ch, k_ch2, k_ch3, r_and, r_or, r_not, r_ife, r_nil, r_cons, k_cons, k_cons2, r_lst, k_lst, r_tup, k_tup, x_mkT, x_mkF, r_call, k_call1, k_call2, k_call3, k_call4, k_call5, k_call6, k_call7, k_call8, r_bi, k_bi, r_is, k_is, r_bm, k_bmS, k_bm2, r_bm0, k_bm0S, r_sl, k_sl, k_sl2, k_sl3, r_part0, r_part, k_part, r_any, k_anyL, k_anyT, k_anyC, k_anyS, r_enumA, k_enumL, k_enumS, r_range1, k_range1, r_range2, k_range2, r_setA, k_set, k_set2, r_name, r_tnil, r_tcons, r_ttup, r_for, x_for, v_int, v_str, f_gt, f_ge, f_lt, f_le, f_sub, f_add, f_mul, f_div, f_mod, f_pow, f_eqI, f_neI, f_isN, f_notN, f_neg, f_eqS, r_lc, x_lc, x_lcR, r_yes, f_lenS, f_lenL, f_lenT, f_lenC, f_addS, List.getElem?_cons_zero, List.getElem?_cons_succ, List.set_cons_zero, List.set_cons_succ, List.map_cons, List.map_nil, List.length_cons, List.length_nil, List.cons_append, List.nil_append, List.replicate_succ, List.replicate_zero, Nat.reduceAdd, Nat.reduceSub, Nat.reduceLeDiff, Nat.reduceLT, Nat.zero_add, if_true, if_false, Bool.false_eq_true, reduceIte, Option.bind_some, sizeLine_eq, decide_true, decide_false, Int.reduceLT, Int.reduceLE, Int.reduceNeg, Int.reducePow, Int.reduceMul, Int.reduceSub, Int.reduceAdd, Int.reduceEq, Int.reduceToNat, Int.reduceNe, Nat.reduceEqDiff, decide_eq_true_eq, eq_self, and_self, true_and, and_true, not_true_eq_false, not_false_eq_true, e1, b3, r])
  obtain ⟨o7, o8, o9, es, _⟩ := q
  exact ⟨s', a', e, _, _, _, _, _, _, _, es⟩
theorem outer_items (ns : List Int) : ∀ d ∈ (LD.cutD (ns.map D.int) none (some 60) ++ [D.int 2, .int 3, .int 5, .int 7, .int 11]), ∃ v, d = .int v := fun d hd => by
  rcases List.mem_append.mp hd with h | h
  · have := cut_sub h
    simp only [List.mem_map] at this
    obtain ⟨v, _, rfl⟩ := this
    exact ⟨v, rfl⟩
  · simp only [List.mem_cons, List.not_mem_nil, or_false] at h
    rcases h with rfl | rfl | rfl | rfl | rfl <;> exact ⟨_, rfl⟩
theorem plain (ns : List Int) (hl : ns.length ≤ 63) (hb : ∀ z ∈ ns, PySem.Builtin.Int.intBits z ≤ 1048576) : ∃ ah, g_law [.scr ns] [] = .ok (.bl true) ah := by
  unfold g_law m_law
  have sl : fSl true (.scr ns) none (some 60) [] = some (.lst (LD.cutD (ns.map D.int) none (some 60)), []) := rfl
  have clen : (LD.cutD (ns.map D.int) none (some 60)).length ≤ 63 := by
    simp only [LD.cutD, List.length_take, List.length_drop, List.length_map]; omega
  have ad : fAdd true (.lst (LD.cutD (ns.map D.int) none (some 60))) (.lst [D.int 2, .int 3, .int 5, .int 7, .int 11]) [] = some (.lst (LD.cutD (ns.map D.int) none (some 60) ++ [D.int 2, .int 3, .int 5, .int 7, .int 11]), []) := by
    simp only [fAdd, view]
    rw [if_pos (by rw [sizeLine_eq]; simp; omega)]
    rfl
  obtain ⟨s1, a1, e1, o2, o3, o4, o5, o6, o7, o8, o9, es1⟩ := for_inv (g := tgName 2) (mb := (mSeq (mAsg (mCall 1 g__law_box (aCons (mVar 2) aNil)) (tgName 4)) (mSeq (mAsg (mCall 2 g__law_things (aCons (mVar 4) (aCons (mCall 1 g__law_text (aCons (mVar 4) aNil)) aNil))) (tgName 5)) (mSeq (mAsg (mLst true (aCons (mTup (aCons (mUn fNeg (mC (.int 12))) (aCons (mC (.int 11)) aNil))) (aCons (mTup (aCons (mC (.int 0)) (aCons (mC (.int 0)) aNil))) (aCons (mTup (aCons (mC (.int 1)) (aCons (mC (.int 50)) aNil))) (aCons (mTup (aCons (mC (.int 5)) (aCons (mC (.int 4)) aNil))) (aCons (mTup (aCons (mOp fIxD (mVar 5) (mC (.int 1))) (aCons (mOp fIxD (mVar 5) (mC (.int 1))) aNil))) (aCons (mTup (aCons (mBi fMin2 (aCons (mOp (fAdd true) (mOp fIxD (mVar 5) (mC (.int 1))) (mC (.int 1))) (aCons (mVar 1) aNil))) (aCons (mVar 1) aNil))) aNil))))))) (tgName 6)) (mFor (iAny (mVar 5)) (tgName 7) inB1)))))
    (fun sd a => ∃ o2 o3 o4 o5 o6 o7 o8 o9, sd = [some (.scr ns), some (.int mostI), o2, o3, o4, o5, o6, o7, o8, o9]) (LD.cutD (ns.map D.int) none (some 60) ++ [D.int 2, .int 3, .int 5, .int 7, .int 11]) [some (.scr ns), some (.int mostI), none, none, none, none, none, none, none, none] [] ⟨_, _, _, _, _, _, _, _, rfl⟩
    (fun d hd sd a ⟨o2, o3, o4, o5, o6, o7, o8, o9, es⟩ => by
      subst es
      obtain ⟨v, rfl⟩ := outer_items ns d hd
      obtain ⟨c, B, e1⟩ := box_ok v a
      have hn : a.length < (a ++ [some c]).length := by simp
      have L0 : Left (a ++ [some c]) a.length 0 (a ++ [some c]) := .refl (by simp) B
      obtain ⟨y, a2, hy, L2, e2⟩ := text_ok hn L0 (by omega)
      obtain ⟨z, N, s, a3, hz, L3, e3⟩ := things_ok (y := y) hn L2 (by omega)
      obtain ⟨s', a', e4, q⟩ := inner_ok hn L3 (by omega) (ns := ns) (v := v) (o3 := o3) (o7 := o7) (o8 := o8) (o9 := o9) (N := N) (M := if mostI < N + 1 then mostI else N + 1) (thingsOf y z N s) (things_thing hy hz) (by simp [thingsOf]) (.lst (thingsOf y z N s))
      obtain ⟨p3, p4, p5, p6, p7, p8, p9, es'⟩ := q
      have ix : fIxD (.lst (thingsOf y z N s)) (.int 1) a3 = some (.int N, a3) := rfl
      refine ⟨_, s', a', rfl, .inl ?_, _, _, _, _, _, _, _, _, es'⟩
      simp (disch := first | omega | (simp only [List.length_cons, List.length_nil, List.length_map, List.length_append, sizeLine_eq] <;> omega)) only [x_bok, x_bex, x_tok, x_tex, x_tt, x_tst, x_tex2, x_tex3, x_args, x_argx, x_nx, x_ret, x_brk, x_cnt, x_exc, x_lift, x_optS, x_getV, r_run, x_eret, x_enx, x_eexc, r_seq, r_asg, k_asg, r_ret, k_ret, r_drop, k_drop, r_if, r_var, r_c, r_op, k_op, k_op2, r_un, k_un, k_false, k_true, r_chain, k_ch, k_ch2, k_ch3, r_and, r_or, r_not, r_ife, r_nil, r_cons, k_cons, k_cons2, r_lst, k_lst, r_tup, k_tup, x_mkT, x_mkF, r_call, k_call1, k_call2, k_call3, k_call4, k_call5, k_call6, k_call7, k_call8, r_bi, k_bi, r_is, k_is, r_bm, k_bmS, k_bm2, r_bm0, k_bm0S, r_sl, k_sl, k_sl2, k_sl3, r_part0, r_part, k_part, r_any, k_anyL, k_anyT, k_anyC, k_anyS, r_enumA, k_enumL, k_enumS, r_range1, k_range1, r_range2, k_range2, r_setA, k_set, k_set2, r_name, r_tnil, r_tcons, r_ttup, r_for, x_for, v_int, v_str, f_gt, f_ge, f_lt, f_le, f_sub, f_add, f_mul, f_div, f_mod, f_pow, f_eqI, f_neI, f_isN, f_notN, f_neg, f_eqS, r_lc, x_lc, x_lcR, r_yes, f_lenS, f_lenL, f_lenT, f_lenC, f_addS, List.getElem?_cons_zero, List.getElem?_cons_succ, List.set_cons_zero, List.set_cons_succ, List.map_cons, List.map_nil, List.length_cons, List.length_nil, List.cons_append, List.nil_append, List.replicate_succ, List.replicate_zero, Nat.reduceAdd, Nat.reduceSub, Nat.reduceLeDiff, Nat.reduceLT, Nat.zero_add, if_true, if_false, Bool.false_eq_true, reduceIte, Option.bind_some, sizeLine_eq, decide_true, decide_false, Int.reduceLT, Int.reduceLE, Int.reduceNeg, Int.reducePow, Int.reduceMul, Int.reduceSub, Int.reduceAdd, Int.reduceEq, Int.reduceToNat, Int.reduceNe, Nat.reduceEqDiff, decide_eq_true_eq, eq_self, and_self, true_and, and_true, not_true_eq_false, not_false_eq_true, e1, e2, e3, ix, fMin2, e4])
  subst es1
  obtain ⟨s2, a2, e2, p3, es2⟩ := for_inv (g := tgName 3) (mb := (mIfS (mOp fNe (mCall 1 g_number_of (aCons (mBi fStr (aCons (mOp fMulI (mVar 3) (mC (.int 911))) aNil)) aNil)) (mOp fIxD (mLst true (aCons (mOp fMulI (mVar 3) (mC (.int 911))) (aCons (mC .non) aNil))) (mBi fInt (aCons (mOp fGt (mOp fMulI (mVar 3) (mC (.int 911))) (mC (.int 9999))) aNil)))) (mRet (mC (.bl false))) .nx))
    (fun sd a => ∃ o3, sd = [some (.scr ns), some (.int mostI), o2, o3, o4, o5, o6, o7, o8, o9]) (LD.intsFrom 0 12) [some (.scr ns), some (.int mostI), o2, o3, o4, o5, o6, o7, o8, o9] a1 ⟨_, rfl⟩
    (fun d hd sd a ⟨o3, es⟩ => by
      subst es
      obtain ⟨k, hk, rfl⟩ := ints_mem hd
      obtain ⟨h1, h2, h3, h4⟩ := twelve k hk
      rw [show (0 : Int) + (k : Int) = k by omega]
      have st : fStr [.int ((k : Int) * 911)] a = some (.str (Str.ofString (toString ((k : Int) * 911))), a) := by
        show (if ((k : Int) * 911).natAbs.log2 < 1920 ∧ PySem.PyData.strOk (Str.ofString (toString ((k : Int) * 911))) = true then some (D.str (Str.ofString (toString ((k : Int) * 911))), a) else none) = _
        rw [if_pos ⟨h1, h2⟩]
      have en := num_str h3 a
      rw [h4] at en
      refine ⟨_, [some (.scr ns), some (.int mostI), o2, some (.int k), o4, o5, o6, o7, o8, o9], a, rfl, .inl ?_, _, rfl⟩
      by_cases c : 9999 < (k : Int) * 911
      · have ix : fIxD (.lst [.int ((k : Int) * 911), .non]) (.int 1) a = some (.non, a) := rfl
        have ne : fNe .non .non a = some (.bl false, a) := rfl
        rw [if_pos c] at en
        simp (disch := first | omega | (simp only [List.length_cons, List.length_nil, List.length_map, List.length_append, sizeLine_eq] <;> omega)) only [x_bok, x_bex, x_tok, x_tex, x_tt, x_tst, x_tex2, x_tex3, x_args, x_argx, x_nx, x_ret, x_brk, x_cnt, x_exc, x_lift, x_optS, x_getV, r_run, x_eret, x_enx, x_eexc, r_seq, r_asg, k_asg, r_ret, k_ret, r_drop, k_drop, r_if, r_var, r_c, r_op, k_op, k_op2, r_un, k_un, k_false, k_true, r_chain, k_ch, k_ch2, k_ch3, r_and, r_or, r_not, r_ife, r_nil, r_cons, k_cons, k_cons2, r_lst, k_lst, r_tup, k_tup, x_mkT, x_mkF, r_call, k_call1, k_call2, k_call3, k_call4, k_call5, k_call6, k_call7, k_call8, r_bi, k_bi, r_is, k_is, r_bm, k_bmS, k_bm2, r_bm0, k_bm0S, r_sl, k_sl, k_sl2, k_sl3, r_part0, r_part, k_part, r_any, k_anyL, k_anyT, k_anyC, k_anyS, r_enumA, k_enumL, k_enumS, r_range1, k_range1, r_range2, k_range2, r_setA, k_set, k_set2, r_name, r_tnil, r_tcons, r_ttup, r_for, x_for, v_int, v_str, f_gt, f_ge, f_lt, f_le, f_sub, f_add, f_mul, f_div, f_mod, f_pow, f_eqI, f_neI, f_isN, f_notN, f_neg, f_eqS, r_lc, x_lc, x_lcR, r_yes, f_lenS, f_lenL, f_lenT, f_lenC, f_addS, List.getElem?_cons_zero, List.getElem?_cons_succ, List.set_cons_zero, List.set_cons_succ, List.map_cons, List.map_nil, List.length_cons, List.length_nil, List.cons_append, List.nil_append, List.replicate_succ, List.replicate_zero, Nat.reduceAdd, Nat.reduceSub, Nat.reduceLeDiff, Nat.reduceLT, Nat.zero_add, if_true, if_false, Bool.false_eq_true, reduceIte, Option.bind_some, sizeLine_eq, decide_true, decide_false, Int.reduceLT, Int.reduceLE, Int.reduceNeg, Int.reducePow, Int.reduceMul, Int.reduceSub, Int.reduceAdd, Int.reduceEq, Int.reduceToNat, Int.reduceNe, Nat.reduceEqDiff, decide_eq_true_eq, eq_self, and_self, true_and, and_true, not_true_eq_false, not_false_eq_true, st, en, fInt, c, ix, optI, ne]
      · have ix : fIxD (.lst [.int ((k : Int) * 911), .non]) (.int 0) a = some (.int ((k : Int) * 911), a) := rfl
        rw [if_neg c] at en
        simp (disch := first | omega | (simp only [List.length_cons, List.length_nil, List.length_map, List.length_append, sizeLine_eq] <;> omega)) only [x_bok, x_bex, x_tok, x_tex, x_tt, x_tst, x_tex2, x_tex3, x_args, x_argx, x_nx, x_ret, x_brk, x_cnt, x_exc, x_lift, x_optS, x_getV, r_run, x_eret, x_enx, x_eexc, r_seq, r_asg, k_asg, r_ret, k_ret, r_drop, k_drop, r_if, r_var, r_c, r_op, k_op, k_op2, r_un, k_un, k_false, k_true, r_chain, k_ch, k_ch2, k_ch3, r_and, r_or, r_not, r_ife, r_nil, r_cons, k_cons, k_cons2, r_lst, k_lst, r_tup, k_tup, x_mkT, x_mkF, r_call, k_call1, k_call2, k_call3, k_call4, k_call5, k_call6, k_call7, k_call8, r_bi, k_bi, r_is, k_is, r_bm, k_bmS, k_bm2, r_bm0, k_bm0S, r_sl, k_sl, k_sl2, k_sl3, r_part0, r_part, k_part, r_any, k_anyL, k_anyT, k_anyC, k_anyS, r_enumA, k_enumL, k_enumS, r_range1, k_range1, r_range2, k_range2, r_setA, k_set, k_set2, r_name, r_tnil, r_tcons, r_ttup, r_for, x_for, v_int, v_str, f_gt, f_ge, f_lt, f_le, f_sub, f_add, f_mul, f_div, f_mod, f_pow, f_eqI, f_neI, f_isN, f_notN, f_neg, f_eqS, r_lc, x_lc, x_lcR, r_yes, f_lenS, f_lenL, f_lenT, f_lenC, f_addS, List.getElem?_cons_zero, List.getElem?_cons_succ, List.set_cons_zero, List.set_cons_succ, List.map_cons, List.map_nil, List.length_cons, List.length_nil, List.cons_append, List.nil_append, List.replicate_succ, List.replicate_zero, Nat.reduceAdd, Nat.reduceSub, Nat.reduceLeDiff, Nat.reduceLT, Nat.zero_add, if_true, if_false, Bool.false_eq_true, reduceIte, Option.bind_some, sizeLine_eq, decide_true, decide_false, Int.reduceLT, Int.reduceLE, Int.reduceNeg, Int.reducePow, Int.reduceMul, Int.reduceSub, Int.reduceAdd, Int.reduceEq, Int.reduceToNat, Int.reduceNe, Nat.reduceEqDiff, decide_eq_true_eq, eq_self, and_self, true_and, and_true, not_true_eq_false, not_false_eq_true, st, en, fInt, c, ix, optI, Bool.not_true])
  subst es2
  obtain ⟨z1, z2, z3, l1, l2, l3⟩ := ends3
  have n1 := num_str l1 a2
  have n2 := num_str l2 a2
  have n3 := num_str l3 a2
  rw [z1] at n1
  rw [z2] at n2
  rw [z3] at n3
  refine ⟨a2, ?_⟩
  simp only [mostI, inB1, Int.reducePow, Int.reduceSub] at e1 e2
  simp (disch := first | omega | (simp only [List.length_cons, List.length_nil, List.length_map, List.length_append, sizeLine_eq] <;> omega)) only [x_bok, x_bex, x_tok, x_tex, x_tt, x_tst, x_tex2, x_tex3, x_args, x_argx, x_nx, x_ret, x_brk, x_cnt, x_exc, x_lift, x_optS, x_getV, r_run, x_eret, x_enx, x_eexc, r_seq, r_asg, k_asg, r_ret, k_ret, r_drop, k_drop, r_if, r_var, r_c, r_op, k_op, k_op2, r_un, k_un, k_false, k_true, r_chain, k_ch, k_ch2, k_ch3, r_and, r_or, r_not, r_ife, r_nil, r_cons, k_cons, k_cons2, r_lst, k_lst, r_tup, k_tup, x_mkT, x_mkF, r_call, k_call1, k_call2, k_call3, k_call4, k_call5, k_call6, k_call7, k_call8, r_bi, k_bi, r_is, k_is, r_bm, k_bmS, k_bm2, r_bm0, k_bm0S, r_sl, k_sl, k_sl2, k_sl3, r_part0, r_part, k_part, r_any, k_anyL, k_anyT, k_anyC, k_anyS, r_enumA, k_enumL, k_enumS, r_range1, k_range1, r_range2, k_range2, r_setA, k_set, k_set2, r_name, r_tnil, r_tcons, r_ttup, r_for, x_for, v_int, v_str, f_gt, f_ge, f_lt, f_le, f_sub, f_add, f_mul, f_div, f_mod, f_pow, f_eqI, f_neI, f_isN, f_notN, f_neg, f_eqS, r_lc, x_lc, x_lcR, r_yes, f_lenS, f_lenL, f_lenT, f_lenC, f_addS, List.getElem?_cons_zero, List.getElem?_cons_succ, List.set_cons_zero, List.set_cons_succ, List.map_cons, List.map_nil, List.length_cons, List.length_nil, List.cons_append, List.nil_append, List.replicate_succ, List.replicate_zero, Nat.reduceAdd, Nat.reduceSub, Nat.reduceLeDiff, Nat.reduceLT, Nat.zero_add, if_true, if_false, Bool.false_eq_true, reduceIte, Option.bind_some, sizeLine_eq, decide_true, decide_false, Int.reduceLT, Int.reduceLE, Int.reduceNeg, Int.reducePow, Int.reduceMul, Int.reduceSub, Int.reduceAdd, Int.reduceEq, Int.reduceToNat, Int.reduceNe, Nat.reduceEqDiff, decide_eq_true_eq, eq_self, and_self, true_and, and_true, not_true_eq_false, not_false_eq_true, sl, ad, e1, e2, n1, n2, n3, optI, LD.isNon, Bool.not_true]
end LW

open PySem PySem.W PySem.Calls PyProof.Rows
theorem PySem.Challenge.cw_mostlike_k01_names_and_numbers_holds : PySem.Challenge.rw_mostlike_k01_names_and_numbers.Holds := by
  w_on; o_law
  refine HandSHeadRun.head_any (r := OpenLaw.row PySem.Challenge.rw_mostlike_k01_names_and_numbers) (q := view (OpenLaw.row PySem.Challenge.rw_mostlike_k01_names_and_numbers).prog [18]) (H := Hd.hk) (ob := Hd.ob) (M := 4000) (loose := Hd.loose) (d := HandSHeadRun.topDef (OpenLaw.row PySem.Challenge.rw_mostlike_k01_names_and_numbers).prog 18) (kwd := []) Hd.ob_eq
    (by kernel_rfl) (fun s => by kernel_rfl) Hd.run (by kernel_rfl) (by kernel_rfl) (by kernel_rfl) (by rfl) (by first | assumption | decide +kernel) (by decide +kernel) ⟨rfl, rfl, rfl, rfl, rfl, by decide +kernel⟩ ?hw ?hc
  case hw => w_witness2
  case hc =>
    refine LD.walk_end (l := PySem.Challenge.rw_mostlike_k01_names_and_numbers) (n := 63) (k := 4) (x := "_law_script") rfl (by decide) (by kernel_rfl) ⟨rfl, by decide, by decide⟩ ?F
    case F =>
      intro w mg fa h Y G hmg0
      obtain ⟨K, KX, c⟩ := Y
      have hmg : mg ("law" : PySem.Str) = some (.ref fa) := by
        have e : (HandSHeadRun.topDef (OpenLaw.row PySem.Challenge.rw_mostlike_k01_names_and_numbers).prog 18).name = ("law" : PySem.Str) := by kernel_rfl
        rw [← e]
        exact hmg0
      obtain ⟨fd, hb, hF⟩ := LW.facts (P := (PySem.Challenge.rw_mostlike_k01_names_and_numbers).prog) (w := w) KX G hmg c
      exact ⟨K, fd, _, KX, hb, fun H a ns hl hbt hS => LD.spd_law (LW.plain ns hl hbt) hS, hF⟩
