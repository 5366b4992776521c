import PyProof.Rows.All
import Wide.All
import OpenK.AllK
import Wide.FinOn
import HandS.Comp
import HandS.Dict
import HandS.Iter
import HandS.Text
import HandS.Words
import HandS.WordsList
import HandS.WordsDict
import HandS.Exc
import HandS.WordsExc
import HandS.CallSlots
import HandS.TupAny
import HandS.TupMul
import HandS.Defaults
import HandS.IsInst
import HandS.StrMore
import HandS.Replace
import HandS.TupLe
import HandS.Head0
import HandS.Head1
import HandS.Head2
import HandS.HeadEnd
import HandS.HeadHook1
import HandS.HeadHook2
import PySem.Challenge.RW_avoidwords_k25_whole_images
set_option Elab.async false
set_option linter.all false
set_option maxRecDepth 100000
set_option maxHeartbeats 4000000
namespace DL
open PySem PySem.Spec PyProof.Rows L2

/-- a text by its code points -/
abbrev tx (w : List Nat) : Str := ⟨w.toArray⟩
/-- plain data -/
inductive D where
  | non
  | bl (b : Bool)
  | int (i : Int)
  | str (w : List Nat)
  | lst (xs : List D)
  | tup (xs : List D)
  | scr (ns : List Int)
  | ref (a : Addr)
  | ty (n : String)

mutual
/-- v stands for d, what it reaches stands in H -/
def Is (K : PySem.W.Frag) (H : Hp) : D → V → Prop
  | .non, v => v = .non
  | .bl b, v => v = .bl b
  | .int i, v => v = .int i
  | .str w, v => v = .str (tx w)
  | .lst xs, v => ∃ a vs, v = .ref a ∧ H a = some (.lst vs) ∧ Iss K H xs vs
  | .tup xs, v => ∃ a vs, v = .ref a ∧ SqT K H a vs ∧ Iss K H xs vs
  | .scr ns, v => ∃ a, v = .ref a ∧ SqL K H a (ns.map V.int)
  | .ref a, v => v = .ref a
  | .ty n, v => v = .ty n
def Iss (K : PySem.W.Frag) (H : Hp) : List D → List V → Prop
  | [], vs => vs = []
  | d :: ds, vs => ∃ v r, vs = v :: r ∧ Is K H d v ∧ Iss K H ds r
end

section
variable {K : PySem.W.Frag} {H H' : Hp}
theorem rd_mono (e : Same H H') {a : Addr} {u : HO} (h : Rd H a u) : Rd H' a u := by
  rcases h with h | ⟨o, h⟩
  · exact .inl (e _ _ h)
  · exact .inr ⟨o, e _ _ h⟩
theorem sqt_mono (e : Same H H') {a : Addr} {xs : List V} (h : SqT K H a xs) : SqT K H' a xs := by
  rcases h with h | h
  · exact .inl (rd_mono e h)
  · exact .inr h
mutual
theorem Is.mono (e : Same H H') : ∀ (d : D) (v : V), Is K H d v → Is K H' d v
  | .non, v, h => by unfold Is at h ⊢; exact h
  | .bl b, v, h => by unfold Is at h ⊢; exact h
  | .int i, v, h => by unfold Is at h ⊢; exact h
  | .str w, v, h => by unfold Is at h ⊢; exact h
  | .lst xs, v, h => by
    unfold Is at h ⊢
    obtain ⟨a, vs, e1, h1, h2⟩ := h
    exact ⟨a, vs, e1, e _ _ h1, Iss.mono e xs vs h2⟩
  | .tup xs, v, h => by
    unfold Is at h ⊢
    obtain ⟨a, vs, e1, h1, h2⟩ := h
    exact ⟨a, vs, e1, sqt_mono e h1, Iss.mono e xs vs h2⟩
  | .scr ns, v, h => by
    unfold Is at h ⊢
    obtain ⟨a, e1, h1⟩ := h
    exact ⟨a, e1, e.seq h1⟩
  | .ref a, v, h => by unfold Is at h ⊢; exact h
  | .ty n, v, h => by unfold Is at h ⊢; exact h
theorem Iss.mono (e : Same H H') : ∀ (ds : List D) (vs : List V), Iss K H ds vs → Iss K H' ds vs
  | [], vs, h => by unfold Iss at h ⊢; exact h
  | d :: ds, vs, h => by
    unfold Iss at h ⊢
    obtain ⟨v, r, e1, h1, h2⟩ := h
    exact ⟨v, r, e1, Is.mono e d v h1, Iss.mono e ds r h2⟩
end
theorem iss_nil {vs : List V} : Iss K H [] vs ↔ vs = [] := by unfold Iss; exact Iff.rfl
theorem iss_cons {d : D} {ds : List D} {vs : List V} : Iss K H (d :: ds) vs ↔ ∃ v r, vs = v :: r ∧ Is K H d v ∧ Iss K H ds r := by
  constructor
  · intro h; unfold Iss at h; exact h
  · intro h; unfold Iss; exact h
theorem iss_len : ∀ {ds : List D} {vs : List V}, Iss K H ds vs → vs.length = ds.length
  | [], vs, h => by rw [iss_nil.mp h]; rfl
  | d :: ds, vs, h => by
    obtain ⟨v, r, rfl, _, h2⟩ := iss_cons.mp h
    rw [List.length_cons, List.length_cons, iss_len h2]
theorem iss_get : ∀ {ds : List D} {vs : List V} {i : Nat} {d : D}, Iss K H ds vs → ds[i]? = some d → ∃ v, vs[i]? = some v ∧ Is K H d v
  | [], _, _, _, _, e => by simp at e
  | x :: ds, vs, i, d, h, e => by
    obtain ⟨v, r, rfl, h1, h2⟩ := iss_cons.mp h
    cases i with
    | zero =>
      have e' : x = d := by simpa using e
      subst e'
      exact ⟨v, rfl, h1⟩
    | succ i =>
      obtain ⟨u, hu, hd⟩ := iss_get (i := i) h2 (by simpa using e)
      exact ⟨u, by simpa using hu, hd⟩
theorem iss_get' {ds : List D} {vs : List V} {i : Nat} {v : V} (h : Iss K H ds vs) (e : vs[i]? = some v) : ∃ d, ds[i]? = some d ∧ Is K H d v := by
  have hl := iss_len h
  have hi : i < vs.length := (List.getElem?_eq_some_iff.mp e).1
  have hi' : i < ds.length := by omega
  obtain ⟨u, hu, hd⟩ := iss_get h (List.getElem?_eq_getElem hi')
  rw [e] at hu
  cases hu
  exact ⟨_, List.getElem?_eq_getElem hi', hd⟩
theorem iss_app : ∀ {ds es : List D} {vs us : List V}, Iss K H ds vs → Iss K H es us → Iss K H (ds ++ es) (vs ++ us)
  | [], es, vs, us, h, h' => by rw [iss_nil.mp h]; exact h'
  | d :: ds, es, vs, us, h, h' => by
    obtain ⟨v, r, rfl, h1, h2⟩ := iss_cons.mp h
    exact iss_cons.mpr ⟨v, r ++ us, rfl, h1, iss_app h2 h'⟩
theorem iss_one {d : D} {v : V} (h : Is K H d v) : Iss K H [d] [v] := iss_cons.mpr ⟨v, [], rfl, h, iss_nil.mpr rfl⟩
theorem iss_set : ∀ {ds : List D} {vs : List V} {d : D} {v : V} (i : Nat), Iss K H ds vs → Is K H d v → Iss K H (ds.set i d) (vs.set i v)
  | [], vs, d, v, i, h, _ => by rw [iss_nil.mp h]; exact iss_nil.mpr rfl
  | x :: ds, vs, d, v, i, h, hd => by
    obtain ⟨u, r, rfl, h1, h2⟩ := iss_cons.mp h
    cases i with
    | zero => exact iss_cons.mpr ⟨v, r, rfl, hd, h2⟩
    | succ i => exact iss_cons.mpr ⟨u, r.set i v, rfl, h1, iss_set i h2 hd⟩
theorem iss_take : ∀ {ds : List D} {vs : List V} (n : Nat), Iss K H ds vs → Iss K H (ds.take n) (vs.take n)
  | ds, vs, 0, h => by rw [List.take_zero, List.take_zero]; exact iss_nil.mpr rfl
  | [], vs, n + 1, h => by rw [iss_nil.mp h]; exact iss_nil.mpr rfl
  | x :: ds, vs, n + 1, h => by
    obtain ⟨u, r, rfl, h1, h2⟩ := iss_cons.mp h
    exact iss_cons.mpr ⟨u, r.take n, rfl, h1, iss_take n h2⟩
theorem iss_drop : ∀ {ds : List D} {vs : List V} (n : Nat), Iss K H ds vs → Iss K H (ds.drop n) (vs.drop n)
  | ds, vs, 0, h => h
  | [], vs, n + 1, h => by rw [iss_nil.mp h]; exact iss_nil.mpr rfl
  | x :: ds, vs, n + 1, h => by
    obtain ⟨u, r, rfl, h1, h2⟩ := iss_cons.mp h
    exact iss_drop n h2
theorem iss_ints : ∀ {ns : List Int} {vs : List V}, Iss K H (ns.map D.int) vs ↔ vs = ns.map V.int
  | [], vs => iss_nil
  | n :: ns, vs => by
    rw [List.map_cons, List.map_cons, iss_cons]
    constructor
    · rintro ⟨v, r, rfl, h1, h2⟩
      unfold Is at h1
      rw [h1, iss_ints.mp h2]
    · rintro rfl
      exact ⟨_, _, rfl, by unfold Is; rfl, iss_ints.mpr rfl⟩
theorem iss_strs : ∀ {ns : List (List Nat)} {vs : List V}, Iss K H (ns.map D.str) vs ↔ vs = (ns.map tx).map V.str
  | [], vs => iss_nil
  | n :: ns, vs => by
    rw [List.map_cons, List.map_cons, List.map_cons, iss_cons]
    constructor
    · rintro ⟨v, r, rfl, h1, h2⟩
      unfold Is at h1
      rw [h1, iss_strs.mp h2]
    · rintro rfl
      exact ⟨_, _, rfl, by unfold Is; rfl, iss_strs.mpr rfl⟩
theorem iss_bools : ∀ {ns : List Bool} {vs : List V}, Iss K H (ns.map D.bl) vs ↔ vs = ns.map V.bl
  | [], vs => iss_nil
  | n :: ns, vs => by
    rw [List.map_cons, List.map_cons, iss_cons]
    constructor
    · rintro ⟨v, r, rfl, h1, h2⟩
      unfold Is at h1
      rw [h1, iss_bools.mp h2]
    · rintro rfl
      exact ⟨_, _, rfl, by unfold Is; rfl, iss_bools.mpr rfl⟩
theorem is_non {v : V} : Is K H .non v ↔ v = .non := by unfold Is; exact Iff.rfl
theorem is_bl {v : V} {b : Bool} : Is K H (.bl b) v ↔ v = .bl b := by unfold Is; exact Iff.rfl
theorem is_int {v : V} {i : Int} : Is K H (.int i) v ↔ v = .int i := by unfold Is; exact Iff.rfl
theorem is_str {v : V} {w : List Nat} : Is K H (.str w) v ↔ v = .str (tx w) := by unfold Is; exact Iff.rfl
theorem is_ref {v : V} {a : Addr} : Is K H (.ref a) v ↔ v = .ref a := by unfold Is; exact Iff.rfl
theorem is_ty {v : V} {n : String} : Is K H (.ty n) v ↔ v = .ty n := by unfold Is; exact Iff.rfl
theorem is_lst {v : V} {xs : List D} : Is K H (.lst xs) v ↔ ∃ a vs, v = .ref a ∧ H a = some (.lst vs) ∧ Iss K H xs vs := by
  constructor
  · intro h; unfold Is at h; exact h
  · intro h; unfold Is; exact h
theorem is_tup {v : V} {xs : List D} : Is K H (.tup xs) v ↔ ∃ a vs, v = .ref a ∧ SqT K H a vs ∧ Iss K H xs vs := by
  constructor
  · intro h; unfold Is at h; exact h
  · intro h; unfold Is; exact h
theorem is_scr {v : V} {ns : List Int} : Is K H (.scr ns) v ↔ ∃ a, v = .ref a ∧ SqL K H a (ns.map V.int) := by
  constructor
  · intro h; unfold Is at h; exact h
  · intro h; unfold Is; exact h
theorem same_upd {p : Addr} {o : HO} (h : H p = none) : Same H (upd H p o) := fun b x e => by
  rw [upd_ne (ne_of_none e h)]
  exact e
end

/-- a local: shared data (never changed), or a list of one's own (borrowed from the caller: true) -/
inductive Sl where
  | sh (d : D)
  | own (b : Bool) (ds : List D)
def Sl.isOwn : Sl → Bool
  | .sh _ => false
  | .own _ _ => true
abbrev Lo := List (Option Sl)

def SlOk (K : PySem.W.Frag) (B : Option Addr) (Hs H : Hp) : Sl → V → Prop
  | .sh d, v => Is K Hs d v
  | .own b ds, v => ∃ a vs, v = .ref a ∧ H a = some (.lst vs) ∧ Hs a = none ∧ Iss K Hs ds vs ∧ (b = true → B = some a)

structure EnvOk (K : PySem.W.Frag) (B : Option Addr) (Fr : Addr → HO → Prop) (ρ : Lo) (σ : L2.St) (Hs H : Hp) : Prop where
  sub : Same Hs H
  len : σ.length = ρ.length
  sl : ∀ (i : Nat) (s : Sl), ρ[i]? = some (some s) → ∃ v, σ[i]? = some (some v) ∧ SlOk K B Hs H s v
  dis : ∀ (i j : Nat) (s s' : Sl) (v : V), ρ[i]? = some (some s) → ρ[j]? = some (some s') → s.isOwn = true → s'.isOwn = true → σ[i]? = some (some v) → σ[j]? = some (some v) → i = j
  frm : ∀ p : Addr × HO, Fr p.1 p.2 → H p.1 = some p.2 ∧ Hs p.1 = none ∧ ∀ (i : Nat) (s : Sl), ρ[i]? = some (some s) → s.isOwn = true → σ[i]? ≠ some (some (.ref p.1))

section
variable {K : PySem.W.Frag} {B : Option Addr} {Fr : Addr → HO → Prop} {ρ : Lo} {σ : L2.St} {Hs H Hs' H' : Hp}

theorem SlOk.mono {s : Sl} {v : V} (h : SlOk K B Hs H s v) (e : Same Hs Hs') (k : ∀ a vs, s.isOwn = true → v = .ref a → H a = some (.lst vs) → Hs a = none → H' a = some (.lst vs) ∧ Hs' a = none) : SlOk K B Hs' H' s v := by
  cases s with
  | sh d => exact Is.mono e d v h
  | own b ds =>
    obtain ⟨a, vs, rfl, h1, h2, h3, h4⟩ := h
    obtain ⟨k1, k2⟩ := k a vs rfl rfl h1 h2
    exact ⟨a, vs, rfl, k1, k2, Iss.mono e ds vs h3, h4⟩

/-- a new shared object -/
theorem EnvOk.alloc (E : EnvOk K B Fr ρ σ Hs H) {p : Addr} {o : HO} (hp : H p = none) : EnvOk K B Fr ρ σ (upd Hs p o) (upd H p o) := by
  have hps : Hs p = none := by
    cases q : Hs p with
    | none => rfl
    | some u => rw [E.sub _ _ q] at hp; cases hp
  refine ⟨fun a u e => ?_, E.len, fun i s e => ?_, E.dis, fun q hq => ?_⟩
  · by_cases h : a = p
    · subst h; rw [upd_same] at e ⊢; exact e
    · rw [upd_ne h] at e ⊢; exact E.sub _ _ e
  · obtain ⟨v, h1, h2⟩ := E.sl i s e
    refine ⟨v, h1, h2.mono (same_upd hps) fun a vs _ _ k1 k2 => ?_⟩
    have hne : a ≠ p := ne_of_none k1 hp
    rw [upd_ne hne, upd_ne hne]
    exact ⟨k1, k2⟩
  · obtain ⟨h1, h2, h3⟩ := E.frm q hq
    have hne : q.1 ≠ p := ne_of_none h1 hp
    rw [upd_ne hne, upd_ne hne]
    exact ⟨h1, h2, h3⟩
/-- a new object that nobody knows of -/
theorem EnvOk.allocOwn (E : EnvOk K B Fr ρ σ Hs H) {p : Addr} {o : HO} (hp : H p = none) : EnvOk K B Fr ρ σ Hs (upd H p o) ∧ Hs p = none := by
  have hps : Hs p = none := by
    cases q : Hs p with
    | none => rfl
    | some u => rw [E.sub _ _ q] at hp; cases hp
  refine ⟨⟨fun a u e => ?_, E.len, fun i s e => ?_, E.dis, fun q hq => ?_⟩, hps⟩
  · rw [upd_ne (ne_of_none (E.sub _ _ e) hp)]; exact E.sub _ _ e
  · obtain ⟨v, h1, h2⟩ := E.sl i s e
    refine ⟨v, h1, h2.mono (Same.refl _) fun a vs _ _ k1 k2 => ?_⟩
    rw [upd_ne (ne_of_none k1 hp)]
    exact ⟨k1, k2⟩
  · obtain ⟨h1, h2, h3⟩ := E.frm q hq
    rw [upd_ne (ne_of_none h1 hp)]
    exact ⟨h1, h2, h3⟩
/-- an object outside becomes shared -/
theorem EnvOk.freeze (E : EnvOk K B Fr ρ σ Hs H) {p : Addr} {o : HO} (hp : H p = some o) (hps : Hs p = none)
    (h1 : ∀ (i : Nat) (s : Sl), ρ[i]? = some (some s) → s.isOwn = true → σ[i]? ≠ some (some (.ref p))) (h2 : ∀ q : Addr × HO, Fr q.1 q.2 → q.1 ≠ p) : EnvOk K B Fr ρ σ (upd Hs p o) H := by
  refine ⟨fun a u e => ?_, E.len, fun i s e => ?_, E.dis, fun q hq => ?_⟩
  · by_cases h : a = p
    · subst h; rw [upd_same] at e; cases e; exact hp
    · rw [upd_ne h] at e; exact E.sub _ _ e
  · obtain ⟨v, k1, k2⟩ := E.sl i s e
    refine ⟨v, k1, k2.mono (same_upd hps) fun a vs ho ev k3 k4 => ?_⟩
    have hne : a ≠ p := fun z => h1 i s e ho (by rw [k1, ev, z])
    rw [upd_ne hne]
    exact ⟨k3, k4⟩
  · obtain ⟨k1, k2, k3⟩ := E.frm q hq
    rw [upd_ne (h2 q hq)]
    exact ⟨k1, k2, k3⟩
theorem EnvOk.get (E : EnvOk K B Fr ρ σ Hs H) {i : Nat} {s : Sl} (h : ρ[i]? = some (some s)) : ∃ v, σ[i]? = some (some v) ∧ SlOk K B Hs H s v := E.sl i s h
/-- a slot is stored anew: shared data -/
theorem EnvOk.set (E : EnvOk K B Fr ρ σ Hs H) {i : Nat} {v : V} {d : D} (hd : Is K Hs d v) : EnvOk K B Fr (ρ.set i (some (.sh d))) (σ.set i (some v)) Hs H := by
  refine ⟨E.sub, by simp [E.len], fun j s e => ?_, fun j k s s' u e1 e2 o1 o2 f1 f2 => ?_, fun q hq => ?_⟩
  · by_cases hj : j = i
    · subst hj
      obtain ⟨hlt, _⟩ := List.getElem?_eq_some_iff.mp e
      have hlt' : j < ρ.length := by simpa using hlt
      rw [List.getElem?_set_self hlt'] at e
      cases e
      exact ⟨v, List.getElem?_set_self (by rw [E.len]; exact hlt'), hd⟩
    · rw [List.getElem?_set_ne (Ne.symm hj)] at e
      obtain ⟨u, h1, h2⟩ := E.sl j s e
      exact ⟨u, by rw [List.getElem?_set_ne (Ne.symm hj)]; exact h1, h2⟩
  · have nj : j ≠ i := fun z => by
      subst z
      obtain ⟨hlt, _⟩ := List.getElem?_eq_some_iff.mp e1
      rw [List.getElem?_set_self (by simpa using hlt)] at e1
      cases e1; cases o1
    have nk : k ≠ i := fun z => by
      subst z
      obtain ⟨hlt, _⟩ := List.getElem?_eq_some_iff.mp e2
      rw [List.getElem?_set_self (by simpa using hlt)] at e2
      cases e2; cases o2
    rw [List.getElem?_set_ne (Ne.symm nj)] at e1 f1
    rw [List.getElem?_set_ne (Ne.symm nk)] at e2 f2
    exact E.dis j k s s' u e1 e2 o1 o2 f1 f2
  · obtain ⟨h1, h2, h3⟩ := E.frm q hq
    refine ⟨h1, h2, fun j s e o => ?_⟩
    have nj : j ≠ i := fun z => by
      subst z
      obtain ⟨hlt, _⟩ := List.getElem?_eq_some_iff.mp e
      rw [List.getElem?_set_self (by simpa using hlt)] at e
      cases e; cases o
    rw [List.getElem?_set_ne (Ne.symm nj)] at e ⊢
    exact h3 j s e o
/-- .. a list of one's own -/
theorem EnvOk.setOwn (E : EnvOk K B Fr ρ σ Hs H) {i : Nat} {a : Addr} {vs : List V} {ds : List D} (h : H a = some (.lst vs)) (hs : Hs a = none) (hd : Iss K Hs ds vs)
    (h1 : ∀ (i : Nat) (s : Sl), ρ[i]? = some (some s) → s.isOwn = true → σ[i]? ≠ some (some (.ref a))) (h2 : ∀ q : Addr × HO, Fr q.1 q.2 → q.1 ≠ a) :
    EnvOk K B Fr (ρ.set i (some (.own false ds))) (σ.set i (some (.ref a))) Hs H := by
  have old : ∀ (j : Nat) (s : Sl), j ≠ i → (ρ.set i (some (.own false ds)))[j]? = some (some s) → ρ[j]? = some (some s) := fun j s hj e => by
    rw [List.getElem?_set_ne (Ne.symm hj)] at e; exact e
  refine ⟨E.sub, by simp [E.len], fun j s e => ?_, fun j k s s' u e1 e2 o1 o2 f1 f2 => ?_, fun q hq => ?_⟩
  · by_cases hj : j = i
    · subst hj
      obtain ⟨hlt, _⟩ := List.getElem?_eq_some_iff.mp e
      have hlt' : j < ρ.length := by simpa using hlt
      rw [List.getElem?_set_self hlt'] at e
      cases e
      exact ⟨.ref a, List.getElem?_set_self (by rw [E.len]; exact hlt'), a, vs, rfl, h, hs, hd, fun z => nomatch z⟩
    · obtain ⟨u, k1, k2⟩ := E.sl j s (old j s hj e)
      exact ⟨u, by rw [List.getElem?_set_ne (Ne.symm hj)]; exact k1, k2⟩
  · by_cases hj : j = i
    · by_cases hk : k = i
      · rw [hj, hk]
      · exfalso
        subst hj
        obtain ⟨hlt, _⟩ := List.getElem?_eq_some_iff.mp e1
        rw [List.getElem?_set_self (by rw [E.len]; simpa using hlt)] at f1
        cases f1
        rw [List.getElem?_set_ne (Ne.symm hk)] at f2
        exact h1 k s' (old k s' hk e2) o2 f2
    · by_cases hk : k = i
      · exfalso
        subst hk
        obtain ⟨hlt, _⟩ := List.getElem?_eq_some_iff.mp e2
        rw [List.getElem?_set_self (by rw [E.len]; simpa using hlt)] at f2
        cases f2
        rw [List.getElem?_set_ne (Ne.symm hj)] at f1
        exact h1 j s (old j s hj e1) o1 f1
      · rw [List.getElem?_set_ne (Ne.symm hj)] at f1
        rw [List.getElem?_set_ne (Ne.symm hk)] at f2
        exact E.dis j k s s' u (old j s hj e1) (old k s' hk e2) o1 o2 f1 f2
  · obtain ⟨k1, k2, k3⟩ := E.frm q hq
    refine ⟨k1, k2, fun j s e o => ?_⟩
    by_cases hj : j = i
    · subst hj
      obtain ⟨hlt, _⟩ := List.getElem?_eq_some_iff.mp e
      rw [List.getElem?_set_self (by rw [E.len]; simpa using hlt)]
      intro z
      cases z
      exact h2 q hq rfl
    · rw [List.getElem?_set_ne (Ne.symm hj)]
      exact k3 j s (old j s hj e) o
/-- the own list of a slot is changed in place -/
theorem EnvOk.write (E : EnvOk K B Fr ρ σ Hs H) {i : Nat} {b : Bool} {ds ds' : List D} {a : Addr} {vs' : List V} (hi : ρ[i]? = some (some (.own b ds))) (hv : σ[i]? = some (some (.ref a))) (hd : Iss K Hs ds' vs') :
    EnvOk K B Fr (ρ.set i (some (.own b ds'))) σ Hs (upd H a (.lst vs')) := by
  obtain ⟨v, e1, e2⟩ := E.sl i _ hi
  rw [hv] at e1
  cases e1
  obtain ⟨a', vs, e3, h1, h2, h3, h4⟩ := e2
  cases e3
  have own' : ∀ (j : Nat) (s : Sl), (ρ.set i (some (.own b ds')))[j]? = some (some s) → s.isOwn = true → ∃ s0 : Sl, ρ[j]? = some (some s0) ∧ s0.isOwn = true := fun j s e o => by
    by_cases hj : j = i
    · subst hj; exact ⟨_, hi, rfl⟩
    · rw [List.getElem?_set_ne (Ne.symm hj)] at e; exact ⟨s, e, o⟩
  refine ⟨fun c u e => ?_, by simp [E.len], fun j s e => ?_, fun j k s s' u e1 e2 o1 o2 f1 f2 => ?_, fun q hq => ?_⟩
  · have hne : c ≠ a := fun z => by subst z; rw [h2] at e; cases e
    rw [upd_ne hne]; exact E.sub _ _ e
  · by_cases hj : j = i
    · subst hj
      obtain ⟨hlt, _⟩ := List.getElem?_eq_some_iff.mp hi
      rw [List.getElem?_set_self hlt] at e
      cases e
      exact ⟨.ref a, hv, a, vs', rfl, upd_same, h2, hd, h4⟩
    · rw [List.getElem?_set_ne (Ne.symm hj)] at e
      obtain ⟨u, k1, k2⟩ := E.sl j s e
      refine ⟨u, k1, k2.mono (Same.refl _) fun c us ho ev k3 k4 => ?_⟩
      have hne : c ≠ a := fun z => hj (E.dis j i s _ u e hi ho rfl k1 (by rw [hv, ev, z]))
      rw [upd_ne hne]
      exact ⟨k3, k4⟩
  · obtain ⟨s0, g1, g2⟩ := own' j s e1 o1
    obtain ⟨s1, g3, g4⟩ := own' k s' e2 o2
    exact E.dis j k s0 s1 u g1 g3 g2 g4 f1 f2
  · obtain ⟨k1, k2, k3⟩ := E.frm q hq
    have hne : q.1 ≠ a := fun z => k3 i _ hi rfl (by rw [hv, z])
    rw [upd_ne hne]
    refine ⟨k1, k2, fun j s e o => ?_⟩
    obtain ⟨s0, g1, g2⟩ := own' j s e o
    exact k3 j s0 g1 g2
/-- the own list of a slot becomes shared -/
theorem EnvOk.share (E : EnvOk K B Fr ρ σ Hs H) {i : Nat} {ds : List D} (hi : ρ[i]? = some (some (.own false ds))) :
    ∃ a vs, σ[i]? = some (some (.ref a)) ∧ H a = some (.lst vs) ∧ Hs a = none ∧ Iss K Hs ds vs ∧ EnvOk K B Fr (ρ.set i (some (.sh (.lst ds)))) σ (upd Hs a (.lst vs)) H := by
  obtain ⟨v, e1, a, vs, rfl, h1, h2, h3, _⟩ := E.sl i _ hi
  refine ⟨a, vs, e1, h1, h2, h3, fun c u e => ?_, by simp [E.len], fun j s e => ?_, fun j k s s' u f1 f2 o1 o2 g1 g2 => ?_, fun q hq => ?_⟩
  · by_cases h : c = a
    · subst h; rw [upd_same] at e; cases e; exact h1
    · rw [upd_ne h] at e; exact E.sub _ _ e
  · by_cases hj : j = i
    · subst hj
      obtain ⟨hlt, _⟩ := List.getElem?_eq_some_iff.mp hi
      rw [List.getElem?_set_self hlt] at e
      cases e
      exact ⟨.ref a, e1, is_lst.mpr ⟨a, vs, rfl, upd_same, Iss.mono (same_upd h2) _ _ h3⟩⟩
    · rw [List.getElem?_set_ne (Ne.symm hj)] at e
      obtain ⟨u, k1, k2⟩ := E.sl j s e
      refine ⟨u, k1, k2.mono (same_upd h2) fun c us ho ev k3 k4 => ?_⟩
      have hne : c ≠ a := fun z => hj (E.dis j i s _ u e hi ho rfl k1 (by rw [e1, ev, z]))
      rw [upd_ne hne]
      exact ⟨k3, k4⟩
  · have nx : ∀ (j : Nat) (s : Sl), (ρ.set i (some (.sh (.lst ds))))[j]? = some (some s) → s.isOwn = true → ρ[j]? = some (some s) := fun j s e o => by
      by_cases hj : j = i
      · subst hj
        obtain ⟨hlt, _⟩ := List.getElem?_eq_some_iff.mp hi
        rw [List.getElem?_set_self hlt] at e
        cases e; cases o
      · rw [List.getElem?_set_ne (Ne.symm hj)] at e; exact e
    exact E.dis j k s s' u (nx j s f1 o1) (nx k s' f2 o2) o1 o2 g1 g2
  · obtain ⟨k1, k2, k3⟩ := E.frm q hq
    have hne : q.1 ≠ a := fun z => k3 i _ hi rfl (by rw [e1, z])
    rw [upd_ne hne]
    refine ⟨k1, k2, fun j s e o => ?_⟩
    by_cases hj : j = i
    · subst hj
      obtain ⟨hlt, _⟩ := List.getElem?_eq_some_iff.mp hi
      rw [List.getElem?_set_self hlt] at e
      cases e; cases o
    · rw [List.getElem?_set_ne (Ne.symm hj)] at e; exact k3 j s e o
/-- a slot is forgotten -/
theorem EnvOk.forget (E : EnvOk K B Fr ρ σ Hs H) {ρ' : Lo} (hl : ρ'.length = ρ.length) (h : ∀ (i : Nat) (s : Sl), ρ'[i]? = some (some s) → ρ[i]? = some (some s)) : EnvOk K B Fr ρ' σ Hs H :=
  ⟨E.sub, by rw [hl]; exact E.len, fun i s e => E.sl i s (h i s e), fun i j s s' v e1 e2 o1 o2 => E.dis i j s s' v (h i s e1) (h j s' e2) o1 o2, fun q hq => ⟨(E.frm q hq).1, (E.frm q hq).2.1, fun i s e o => (E.frm q hq).2.2 i s (h i s e) o⟩⟩
end
end DL
namespace DL
open PySem PySem.Spec PyProof.Rows L2

/-! ### what must hold so that .. -/
def wE (X : Cx) (e : Expr) : TE := fun σ H Q => ∀ pins s, Inv X pins σ H s → wpAny (model X.prog X.w) X.A (eval e X.env) (EP X pins σ Q) X.xe s
def wT (X : Cx) (e : Expr) : TT := fun σ H Q => ∀ pins s, Inv X pins σ H s → wpAny (model X.prog X.w) X.A (isTrue e X.env (eval e X.env)) (TP X pins σ Q) X.xe s
def wA (X : Cx) (es : List Expr) : TA := fun σ H Q => ∀ pos pins s, Inv X pins σ H s → wpAny (model X.prog X.w) X.A (spliced (backTo pos (starEach es X.env))) (AP X pins σ Q) X.xe s
def wS (X : Cx) (st : Stmt) : TS := fun D σ H => ∀ pins s, Inv X pins σ H s → wpAny (model X.prog X.w) X.A (exec st X.env) (SP X pins D) X.xe s
def wSs (X : Cx) (sts : List Stmt) : TS := fun D σ H => ∀ pins s, Inv X pins σ H s → wpAny (model X.prog X.w) X.A (execs sts X.env) (SP X pins D) X.xe s
def wG (X : Cx) (tg : Expr) : TG := fun v σ H Q => ∀ pins s u, Inv X pins σ H s → RelV v u → wpAny (model X.prog X.w) X.A (assign tg X.env u) (fun _ s' => ∃ σ' H', Inv X pins σ' H' s' ∧ Q σ' H') X.xe s
def wI (X : Cx) (tg it : Expr) : TI := fun σ H R => ∀ pins s, Inv X pins σ H s → wpAny (model X.prog X.w) X.A (eval it X.env) (fun v s1 => wpAny (model X.prog X.w) X.A (pyIter v) (PIE X pins σ tg R) X.xe s1) X.xe s
section
variable {X : Cx} {e tg it : Expr} {es : List Expr} {st : Stmt} {sts : List Stmt}
theorem pe_w : PE X e (wE X e) := ⟨fun pins s σ H Q I h => h pins s I⟩
theorem pt_w : PT X e (wT X e) := ⟨fun pins s σ H Q I h => h pins s I⟩
theorem pa_w : PA X es (wA X es) := ⟨fun pos pins s σ H Q I h => h pos pins s I⟩
theorem ps_w : PS X st (wS X st) := ⟨fun pins s σ H D I h => h pins s I⟩
theorem pss_w : PSs X sts (wSs X sts) := ⟨fun pins s σ H D I h => h pins s I⟩
theorem pg_w : PG X tg (wG X tg) := ⟨fun pins s σ H v u Q I r h => h pins s u I r⟩
theorem pi_w : PI X tg it (wI X tg it) := ⟨fun pins s σ H R I h => h pins s I⟩
theorem w_pe {t : TE} (h : PE X e t) {σ : L2.St} {H : Hp} {Q : VK} (q : t σ H Q) : wE X e σ H Q := fun pins s I => h.run pins s σ H Q I q
theorem w_pt {t : TT} (h : PT X e t) {σ : L2.St} {H : Hp} {Q : Bool → Hp → Prop} (q : t σ H Q) : wT X e σ H Q := fun pins s I => h.run pins s σ H Q I q
theorem w_pa {t : TA} (h : PA X es t) {σ : L2.St} {H : Hp} {Q : List V → Hp → Prop} (q : t σ H Q) : wA X es σ H Q := fun pos pins s I => h.run pos pins s σ H Q I q
theorem w_ps {t : TS} (h : PS X st t) {σ : L2.St} {H : Hp} {D : Ends} (q : t D σ H) : wS X st D σ H := fun pins s I => h.run pins s σ H D I q
theorem w_pss {t : TS} (h : PSs X sts t) {σ : L2.St} {H : Hp} {D : Ends} (q : t D σ H) : wSs X sts D σ H := fun pins s I => h.run pins s σ H D I q
theorem w_pg {t : TG} (h : PG X tg t) {v : V} {σ : L2.St} {H : Hp} {Q : L2.St → Hp → Prop} (q : t v σ H Q) : wG X tg v σ H Q := fun pins s u I r => h.run pins s σ H v u Q I r q
theorem w_pi {t : TI} (h : PI X tg it t) {σ : L2.St} {H : Hp} {R : It → Hp → Prop} (q : t σ H R) : wI X tg it σ H R := fun pins s I => h.run pins s σ H R I q
end

/-! ### the judgements over data -/
/-- an exception's post: the locals where it was raised, its class, its field -/
abbrev XP := Lo → Value → Option (Str × D) → Prop
def NoX : XP := fun _ _ _ => False
def FldOk (K : PySem.W.Frag) (Hs H : Hp) (d : Option Addr) : Option (Str × D) → Prop
  | none => True
  | some (f, x) => ∃ a v, d = some a ∧ H a = some (.xd [(f, v)]) ∧ Is K Hs x v
def KX (K : PySem.W.Frag) (B : Option Addr) (Fr : Addr → HO → Prop) (Hs : Hp) (PX : XP) (Wx : WX) : Prop :=
  ∀ cls d fd ρ' σ' Hs' H', PX ρ' cls fd → EnvOk K B Fr ρ' σ' Hs' H' → Same Hs Hs' → FldOk K Hs' H' d fd → Wx cls d σ' H'
theorem KX.up {K : PySem.W.Frag} {B : Option Addr} {Fr : Addr → HO → Prop} {Hs Hs' : Hp} {PX : XP} {Wx : WX} (k : KX K B Fr Hs PX Wx) (s : Same Hs Hs') : KX K B Fr Hs' PX Wx :=
  fun cls d fd ρ' σ' Hs2 H2 p E s2 f => k cls d fd ρ' σ' Hs2 H2 p E (s.trans s2) f
theorem KX.no {K : PySem.W.Frag} {B : Option Addr} {Fr : Addr → HO → Prop} {Hs : Hp} {Wx : WX} : KX K B Fr Hs NoX Wx := fun _ _ _ _ _ _ _ p => p.elim

@[irreducible] def DE (X : Cx) (PX : XP) (ρ : Lo) (e : Expr) (W : Lo → D → Prop) : Prop :=
  ∀ (B : Option Addr) (Fr : Addr → HO → Prop) (Wx : WX) (σ : L2.St) (Hs H : Hp) (Q : VK), EnvOk X.K B Fr ρ σ Hs H → Takes X Wx → KX X.K B Fr Hs PX Wx →
    (∀ v ρ' d Hs' H', W ρ' d → EnvOk X.K B Fr ρ' σ Hs' H' → Same Hs Hs' → Is X.K Hs' d v → Q v H') → wE X e σ H Q
@[irreducible] def DT (X : Cx) (PX : XP) (ρ : Lo) (e : Expr) (W : Lo → Bool → Prop) : Prop :=
  ∀ (B : Option Addr) (Fr : Addr → HO → Prop) (Wx : WX) (σ : L2.St) (Hs H : Hp) (Q : Bool → Hp → Prop), EnvOk X.K B Fr ρ σ Hs H → Takes X Wx → KX X.K B Fr Hs PX Wx →
    (∀ b ρ' Hs' H', W ρ' b → EnvOk X.K B Fr ρ' σ Hs' H' → Same Hs Hs' → Q b H') → wT X e σ H Q
@[irreducible] def DA (X : Cx) (PX : XP) (ρ : Lo) (es : List Expr) (W : Lo → List D → Prop) : Prop :=
  ∀ (B : Option Addr) (Fr : Addr → HO → Prop) (Wx : WX) (σ : L2.St) (Hs H : Hp) (Q : List V → Hp → Prop), EnvOk X.K B Fr ρ σ Hs H → Takes X Wx → KX X.K B Fr Hs PX Wx →
    (∀ vs ρ' ds Hs' H', W ρ' ds → EnvOk X.K B Fr ρ' σ Hs' H' → Same Hs Hs' → Iss X.K Hs' ds vs → Q vs H') → wA X es σ H Q
/-- a new list that nobody else has -/
@[irreducible] def DF (X : Cx) (PX : XP) (ρ : Lo) (e : Expr) (W : Lo → List D → Prop) : Prop :=
  ∀ (B : Option Addr) (Fr : Addr → HO → Prop) (Wx : WX) (σ : L2.St) (Hs H : Hp) (Q : VK), EnvOk X.K B Fr ρ σ Hs H → Takes X Wx → KX X.K B Fr Hs PX Wx →
    (∀ a vs ρ' ds Hs' H', W ρ' ds → EnvOk X.K B Fr ρ' σ Hs' H' → Same Hs Hs' → H' a = some (.lst vs) → Hs' a = none → Iss X.K Hs' ds vs →
      (∀ (i : Nat) (s : Sl), ρ'[i]? = some (some s) → s.isOwn = true → σ[i]? ≠ some (some (.ref a))) → (∀ q : Addr × HO, Fr q.1 q.2 → q.1 ≠ a) → Q (.ref a) H') → wE X e σ H Q
/-- a handle: shared data, or the own list of a slot -/
inductive Hn where
  | sh (d : D)
  | own (i : Nat)
def Hn.get (ρ : Lo) : Hn → D → Prop
  | .sh d, d' => d' = d
  | .own i, d' => ∃ b ds, ρ[i]? = some (some (.own b ds)) ∧ d' = .lst ds
def HnOk (K : PySem.W.Frag) (σ : L2.St) (Hs : Hp) : Hn → V → Prop
  | .sh d, v => Is K Hs d v
  | .own i, v => σ[i]? = some (some v)
@[irreducible] def DH (X : Cx) (PX : XP) (ρ : Lo) (e : Expr) (W : Lo → Hn → Prop) : Prop :=
  ∀ (B : Option Addr) (Fr : Addr → HO → Prop) (Wx : WX) (σ : L2.St) (Hs H : Hp) (Q : VK), EnvOk X.K B Fr ρ σ Hs H → Takes X Wx → KX X.K B Fr Hs PX Wx →
    (∀ v ρ' h Hs' H', W ρ' h → EnvOk X.K B Fr ρ' σ Hs' H' → Same Hs Hs' → HnOk X.K σ Hs' h v → Q v H') → wE X e σ H Q
/-- to be read: shared, or a list that stands in H -/
def IsH (K : PySem.W.Frag) (Hs H : Hp) (d : D) (v : V) : Prop := Is K Hs d v ∨ ∃ ds a vs, d = .lst ds ∧ v = .ref a ∧ H a = some (.lst vs) ∧ Iss K Hs ds vs
section
variable {K : PySem.W.Frag} {B : Option Addr} {Fr : Addr → HO → Prop} {ρ : Lo} {σ : L2.St} {Hs H Hs' H' : Hp} {d : D} {v : V}
theorem HnOk.mono {h : Hn} (e : Same Hs Hs') (k : HnOk K σ Hs h v) : HnOk K σ Hs' h v := by
  cases h with
  | sh d => exact Is.mono e d v k
  | own i => exact k
theorem hn_is {h : Hn} (E : EnvOk K B Fr ρ σ Hs H) (k : HnOk K σ Hs h v) (g : h.get ρ d) : IsH K Hs H d v := by
  cases h with
  | sh d' => cases g; exact .inl k
  | own i =>
    obtain ⟨b, ds, e, rfl⟩ := g
    obtain ⟨u, e1, a, vs, rfl, h1, h2, h3, _⟩ := E.sl i _ e
    have k' : σ[i]? = some (some v) := k
    rw [k'] at e1
    cases e1
    exact .inr ⟨ds, a, vs, rfl, rfl, h1, h3⟩
theorem ish_lst {ds : List D} (E : EnvOk K B Fr ρ σ Hs H) (h : IsH K Hs H (.lst ds) v) : ∃ a vs, v = .ref a ∧ H a = some (.lst vs) ∧ Iss K Hs ds vs := by
  rcases h with h | ⟨ds', a, vs, e, rfl, h1, h2⟩
  · obtain ⟨a, vs, rfl, h1, h2⟩ := is_lst.mp h
    exact ⟨a, vs, rfl, E.sub _ _ h1, h2⟩
  · cases e
    exact ⟨a, vs, rfl, h1, h2⟩
theorem ish_tup {ds : List D} (E : EnvOk K B Fr ρ σ Hs H) (h : IsH K Hs H (.tup ds) v) : ∃ a vs, v = .ref a ∧ SqT K H a vs ∧ Iss K Hs ds vs := by
  rcases h with h | ⟨ds', a, vs, e, rfl, h1, h2⟩
  · obtain ⟨a, vs, rfl, h1, h2⟩ := is_tup.mp h
    exact ⟨a, vs, rfl, sqt_mono E.sub h1, h2⟩
  · cases e
theorem ish_str {w : List Nat} (h : IsH K Hs H (.str w) v) : v = .str (tx w) := by
  rcases h with h | ⟨ds', a, vs, e, rfl, h1, h2⟩
  · exact is_str.mp h
  · cases e
theorem ish_int {i : Int} (h : IsH K Hs H (.int i) v) : v = .int i := by
  rcases h with h | ⟨ds', a, vs, e, rfl, h1, h2⟩
  · exact is_int.mp h
  · cases e
theorem ish_bl {b : Bool} (h : IsH K Hs H (.bl b) v) : v = .bl b := by
  rcases h with h | ⟨ds', a, vs, e, rfl, h1, h2⟩
  · exact is_bl.mp h
  · cases e
theorem ish_non (h : IsH K Hs H .non v) : v = .non := by
  rcases h with h | ⟨ds', a, vs, e, rfl, h1, h2⟩
  · exact is_non.mp h
  · cases e
theorem ish_scr {ns : List Int} (E : EnvOk K B Fr ρ σ Hs H) (h : IsH K Hs H (.scr ns) v) : ∃ a, v = .ref a ∧ SqL K H a (ns.map V.int) := by
  rcases h with h | ⟨ds', a, vs, e, rfl, h1, h2⟩
  · obtain ⟨a, rfl, h1⟩ := is_scr.mp h
    exact ⟨a, rfl, E.sub.seq h1⟩
  · cases e
end

section
variable {X : Cx} {PX : XP} {ρ : Lo} {e a b c : Expr} {es : List Expr} {pos : Pos} {W : Lo → D → Prop}
theorem DE.imp {W' : Lo → D → Prop} (h : DE X PX ρ e W) (k : ∀ ρ d, W ρ d → W' ρ d) : DE X PX ρ e W' := by
 with_unfolding_all
 exact fun B Fr Wx σ Hs H Q E tk kx q => h B Fr Wx σ Hs H Q E tk kx fun v ρ' d Hs' H' w => q v ρ' d Hs' H' (k _ _ w)
/-- a name's shared data -/
theorem de_var (i : Nat) {x : Str} {d : D} (h : ρ[i]? = some (some (.sh d))) (k : W ρ d) (hN : X.N[i]? = some x := by rfl) (hv : Vis X.env.scope x := by first | exact Or.inl rfl | exact Or.inr (Or.inl rfl) | exact Or.inr (Or.inr rfl))
    (hd : (x == ("__debug__" : Str)) = false := by decide) (hcd : (x == ("__classdict__" : Str)) = false := by decide) : DE X PX ρ (.Name x pos) W := by
 with_unfolding_all
 exact fun B Fr Wx σ Hs H Q E tk kx q => by
  refine w_pe (pe_var hN hv hd hcd) ?_
  obtain ⟨v, h1, h2⟩ := E.sl i _ h
  exact ⟨v, h1, q v ρ d Hs H k E (Same.refl _) h2⟩
/-- .. an own list, shared from here on -/
theorem de_varF (i : Nat) {x : Str} {ds : List D} (h : ρ[i]? = some (some (.own false ds))) (k : W (ρ.set i (some (.sh (.lst ds)))) (.lst ds)) (hN : X.N[i]? = some x := by rfl)
    (hv : Vis X.env.scope x := by first | exact Or.inl rfl | exact Or.inr (Or.inl rfl) | exact Or.inr (Or.inr rfl))
    (hd : (x == ("__debug__" : Str)) = false := by decide) (hcd : (x == ("__classdict__" : Str)) = false := by decide) : DE X PX ρ (.Name x pos) W := by
 with_unfolding_all
 exact fun B Fr Wx σ Hs H Q E tk kx q => by
  refine w_pe (pe_var hN hv hd hcd) ?_
  obtain ⟨a, vs, e1, h1, h2, h3, E'⟩ := E.share h
  exact ⟨.ref a, e1, q _ _ _ _ _ k E' (same_upd h2) (is_lst.mpr ⟨a, vs, rfl, upd_same, Iss.mono (same_upd h2) _ _ h3⟩)⟩
/-- a constant of the module -/
theorem de_glob {x : Str} {u : Value} {d : D} {v : V} (hm : X.mg x = some u) (r : RelV v u) (i : ∀ Hs : Hp, Is X.K Hs d v) (k : W ρ d) (hg : Gl X x := by rfl) (hd : (x == ("__debug__" : Str)) = false := by decide) : DE X PX ρ (.Name x pos) W := by
 with_unfolding_all
 exact fun B Fr Wx σ Hs H Q E tk kx q =>
  w_pe (pe_glob hg hm r hd) (q v ρ d Hs H k E (Same.refl _) (i Hs))
theorem de_int {i : Int} {j} (k : W ρ (.int i)) : DE X PX ρ (.Constant (.int i) j pos) W := by
 with_unfolding_all
 exact fun B Fr Wx σ Hs H Q E tk kx q => w_pe pe_int (q _ _ _ _ _ k E (Same.refl _) (is_int.mpr rfl))
theorem de_bl {i : Bool} {j} (k : W ρ (.bl i)) : DE X PX ρ (.Constant (.bool i) j pos) W := by
 with_unfolding_all
 exact fun B Fr Wx σ Hs H Q E tk kx q => w_pe pe_bl (q _ _ _ _ _ k E (Same.refl _) (is_bl.mpr rfl))
theorem de_non {j} (k : W ρ .non) : DE X PX ρ (.Constant .none j pos) W := by
 with_unfolding_all
 exact fun B Fr Wx σ Hs H Q E tk kx q => w_pe pe_non (q _ _ _ _ _ k E (Same.refl _) (is_non.mpr rfl))
theorem de_str {x : Str} {j} (w : List Nat) (e : x = tx w) (k : W ρ (.str w)) : DE X PX ρ (.Constant (.str x) j pos) W := by
 with_unfolding_all
 exact fun B Fr Wx σ Hs H Q E tk kx q => by
  subst e
  exact w_pe pe_str (q _ _ _ _ _ k E (Same.refl _) (is_str.mpr rfl))
/-- a handle -/
theorem dh_own (i : Nat) {x : Str} {b : Bool} {ds : List D} {W : Lo → Hn → Prop} (h : ρ[i]? = some (some (.own b ds))) (k : W ρ (.own i)) (hN : X.N[i]? = some x := by rfl)
    (hv : Vis X.env.scope x := by first | exact Or.inl rfl | exact Or.inr (Or.inl rfl) | exact Or.inr (Or.inr rfl))
    (hd : (x == ("__debug__" : Str)) = false := by decide) (hcd : (x == ("__classdict__" : Str)) = false := by decide) : DH X PX ρ (.Name x pos) W := by
 with_unfolding_all
 exact fun B Fr Wx σ Hs H Q E tk kx q => by
  refine w_pe (pe_var hN hv hd hcd) ?_
  obtain ⟨v, h1, h2⟩ := E.sl i _ h
  exact ⟨v, h1, q v ρ _ Hs H k E (Same.refl _) h1⟩
theorem dh_de {W : Lo → Hn → Prop} (h : DE X PX ρ e fun ρ' d => W ρ' (.sh d)) : DH X PX ρ e W := by
 with_unfolding_all
 exact fun B Fr Wx σ Hs H Q E tk kx q =>
  h B Fr Wx σ Hs H Q E tk kx fun v ρ' d Hs' H' w E' s' i' => q v ρ' (.sh d) Hs' H' w E' s' i'
/-- a new list given away -/
theorem de_df (h : DF X PX ρ e fun ρ' ds => W ρ' (.lst ds)) : DE X PX ρ e W := by
 with_unfolding_all
 exact fun B Fr Wx σ Hs H Q E tk kx q =>
  h B Fr Wx σ Hs H Q E tk kx fun a vs ρ' ds Hs' H' w E' s' h1 h2 h3 h4 h5 =>
    q (.ref a) ρ' (.lst ds) (upd Hs' a (.lst vs)) H' w (E'.freeze h1 h2 h4 h5) (s'.trans (same_upd h2)) (is_lst.mpr ⟨a, vs, rfl, upd_same, Iss.mono (same_upd h2) _ _ h3⟩)

/-! ### operators -/
/-- by a rule r over values: from data x, y data that P has -/
@[irreducible] def RK (K : PySem.W.Frag) (r : R2) (x y : D) (P : D → Prop) : Prop := ∀ (B : Option Addr) (Fr : Addr → HO → Prop) (ρ : Lo) (σ : L2.St) (Hs H : Hp) (u v : V) (Q : VK), EnvOk K B Fr ρ σ Hs H → IsH K Hs H x u → IsH K Hs H y v →
  (∀ w d Hs' H', P d → EnvOk K B Fr ρ σ Hs' H' → Same Hs Hs' → Is K Hs' d w → Q w H') → r u v H Q
/-- .. a new list -/
@[irreducible] def RF (K : PySem.W.Frag) (r : R2) (x y : D) (P : List D → Prop) : Prop := ∀ (B : Option Addr) (Fr : Addr → HO → Prop) (ρ : Lo) (σ : L2.St) (Hs H : Hp) (u v : V) (Q : VK), EnvOk K B Fr ρ σ Hs H → IsH K Hs H x u → IsH K Hs H y v →
  (∀ a vs ds H', P ds → EnvOk K B Fr ρ σ Hs H' → H' a = some (.lst vs) → Hs a = none → Iss K Hs ds vs → (∀ (i : Nat) (s : Sl), ρ[i]? = some (some s) → s.isOwn = true → σ[i]? ≠ some (some (.ref a))) → (∀ q : Addr × HO, Fr q.1 q.2 → q.1 ≠ a) → Q (.ref a) H') → r u v H Q
/-- .. a truth value -/
@[irreducible] def RB (K : PySem.W.Frag) (r : R2) (x y : D) (b : Bool) : Prop := ∀ (B : Option Addr) (Fr : Addr → HO → Prop) (ρ : Lo) (σ : L2.St) (Hs H : Hp) (u v : V) (Q : VK), EnvOk K B Fr ρ σ Hs H → IsH K Hs H x u → IsH K Hs H y v → Q (.bl b) H → r u v H Q
/-- what a new object at p stands for, ahead of any sharing -/
theorem new_facts {K : PySem.W.Frag} {B : Option Addr} {Fr : Addr → HO → Prop} {σ : L2.St} {Hs H : Hp} (E : EnvOk K B Fr ρ σ Hs H) {p : Addr} (hp : H p = none) :
    (∀ (i : Nat) (s : Sl), ρ[i]? = some (some s) → s.isOwn = true → σ[i]? ≠ some (some (.ref p))) ∧ (∀ q : Addr × HO, Fr q.1 q.2 → q.1 ≠ p) := by
  refine ⟨fun i s e o z => ?_, fun q hq => ne_of_none (E.frm q hq).1 hp⟩
  obtain ⟨v, h1, h2⟩ := E.sl i s e
  rw [z] at h1
  cases h1
  cases s with
  | sh d => cases o
  | own b ds =>
    obtain ⟨a, vs, ea, h3, _⟩ := h2
    cases ea
    rw [hp] at h3; cases h3

theorem two {ha : Expr} {hb : Expr} {R : Lo → D → D → Prop} (h : DH X PX ρ a fun ρ1 x => DH X PX ρ1 b fun ρ2 y => ∃ d d', x.get ρ2 d ∧ y.get ρ2 d' ∧ R ρ2 d d')
    {B : Option Addr} {Fr : Addr → HO → Prop} {Wx : WX} {σ : L2.St} {Hs H : Hp} {Q : V → V → Hp → Prop} (E : EnvOk X.K B Fr ρ σ Hs H) (tk : Takes X Wx) (kx : KX X.K B Fr Hs PX Wx)
    (k : ∀ u v ρ' d d' Hs' H', R ρ' d d' → EnvOk X.K B Fr ρ' σ Hs' H' → Same Hs Hs' → IsH X.K Hs' H' d u → IsH X.K Hs' H' d' v → Q u v H') :
    wE X a σ H fun x H1 => wE X b σ H1 fun y H2 => Q x y H2 := by
 with_unfolding_all
  refine h B Fr Wx σ Hs H _ E tk kx fun u ρ1 x Hs1 H1 h1 E1 s1 i1 => ?_
  refine h1 B Fr Wx σ Hs1 H1 _ E1 tk (kx.up s1) fun v ρ2 y Hs2 H2 h2 E2 s2 i2 => ?_
  obtain ⟨d, d', g1, g2, r⟩ := h2
  exact k u v ρ2 d d' Hs2 H2 r E2 (s1.trans s2) (hn_is E2 (i1.mono s2) g1) (hn_is E2 i2 g2)
theorem de_op {op : Operator} {r : R2} (ho : OpR X (binaryOp op) r) (h : DH X PX ρ a fun ρ1 x => DH X PX ρ1 b fun ρ2 y => ∃ d d', x.get ρ2 d ∧ y.get ρ2 d' ∧ RK X.K r d d' (W ρ2)) : DE X PX ρ (.BinOp a op b pos) W := by
 with_unfolding_all
 exact fun B Fr Wx σ Hs H Q E tk kx q => by
  refine w_pe (pe_op ho pe_w pe_w) ?_
  exact two (ha := a) (hb := b) h E tk kx fun u v ρ' d d' Hs' H' r' E' s' i1 i2 => r' B Fr ρ' σ Hs' H' u v Q E' i1 i2 fun w d Hs2 H2 p E2 s2 i3 => q w ρ' d Hs2 H2 p E2 (s'.trans s2) i3
theorem df_op {op : Operator} {r : R2} {W : Lo → List D → Prop} (ho : OpR X (binaryOp op) r) (h : DH X PX ρ a fun ρ1 x => DH X PX ρ1 b fun ρ2 y => ∃ d d', x.get ρ2 d ∧ y.get ρ2 d' ∧ RF X.K r d d' (W ρ2)) : DF X PX ρ (.BinOp a op b pos) W := by
 with_unfolding_all
 exact fun B Fr Wx σ Hs H Q E tk kx q => by
  refine w_pe (pe_op ho pe_w pe_w) ?_
  exact two (ha := a) (hb := b) h E tk kx fun u v ρ' d d' Hs' H' r' E' s' i1 i2 => r' B Fr ρ' σ Hs' H' u v Q E' i1 i2 fun a vs ds H2 p E2 h1 h2 h3 h4 h5 => q a vs ρ' ds Hs' H2 p E2 s' h1 h2 h3 h4 h5
theorem de_un {op : UnaryOp} {r : V → Hp → VK → Prop} (ho : UnR X (unaryOp op) r) (h : DH X PX ρ a fun ρ1 x => ∃ d, x.get ρ1 d ∧ RK X.K (fun x _ => r x) d .non (W ρ1)) : DE X PX ρ (.UnaryOp op a pos) W := by
 with_unfolding_all
 exact fun B Fr Wx σ Hs H Q E tk kx q => by
  refine w_pe (pe_un ho pe_w) ?_
  refine h B Fr Wx σ Hs H _ E tk kx fun u ρ1 x Hs1 H1 h1 E1 s1 i1 => ?_
  obtain ⟨d, g, r'⟩ := h1
  exact r' B Fr ρ1 σ Hs1 H1 u .non Q E1 (hn_is E1 i1 g) (.inl (is_non.mpr rfl)) fun w d Hs2 H2 p E2 s2 i3 => q w ρ1 d Hs2 H2 p E2 (s1.trans s2) i3
theorem de_ix {r : R2} (hr : IxR X r) (hs : PlainIx b) (h : DH X PX ρ a fun ρ1 x => DH X PX ρ1 b fun ρ2 y => ∃ d d', x.get ρ2 d ∧ y.get ρ2 d' ∧ RK X.K r d d' (W ρ2)) : DE X PX ρ (.Subscript a b pos) W := by
 with_unfolding_all
 exact fun B Fr Wx σ Hs H Q E tk kx q => by
  refine w_pe (pe_ix hr pe_w pe_w hs) ?_
  exact two (ha := a) (hb := b) h E tk kx fun u v ρ' d d' Hs' H' r' E' s' i1 i2 => r' B Fr ρ' σ Hs' H' u v Q E' i1 i2 fun w d Hs2 H2 p E2 s2 i3 => q w ρ' d Hs2 H2 p E2 (s'.trans s2) i3
/-! comparisons -/
theorem de_cmp {op : CmpOp} {r : R2} (ho : OpR X (compareOp op) r) (hm : behindInMarks op b = false) (h : DH X PX ρ a fun ρ1 x => DH X PX ρ1 b fun ρ2 y => ∃ d d', x.get ρ2 d ∧ y.get ρ2 d' ∧ ∃ c, RB X.K r d d' c ∧ W ρ2 (.bl c)) : DE X PX ρ (.Compare a [op] [b] pos) W := by
 with_unfolding_all
 exact fun B Fr Wx σ Hs H Q E tk kx q => by
  refine w_pe (pe_cmpR ho pe_w pe_w hm) ?_
  exact two (ha := a) (hb := b) h E tk kx fun u v ρ' d d' Hs' H' ⟨c, r', w⟩ E' s' i1 i2 => r' B Fr ρ' σ Hs' H' u v Q E' i1 i2 (q _ ρ' _ Hs' H' w E' s' (is_bl.mpr rfl))
theorem dt_cmp {op : CmpOp} {r : R2} {W : Lo → Bool → Prop} (ho : OpR X (compareOp op) r) (hm : behindInMarks op b = false) (h : DH X PX ρ a fun ρ1 x => DH X PX ρ1 b fun ρ2 y => ∃ d d', x.get ρ2 d ∧ y.get ρ2 d' ∧ ∃ c, RB X.K r d d' c ∧ W ρ2 c) : DT X PX ρ (.Compare a [op] [b] pos) W := by
 with_unfolding_all
 exact fun B Fr Wx σ Hs H Q E tk kx q => by
  refine w_pt (pt_cmpR ho pe_w pe_w hm) ?_
  exact two (ha := a) (hb := b) h E tk kx fun u v ρ' d d' Hs' H' ⟨c, r', w⟩ E' s' i1 i2 => r' B Fr ρ' σ Hs' H' u v _ E' i1 i2 ⟨c, rfl, q c ρ' Hs' H' w E' s'⟩
theorem de_chain {op op' : CmpOp} {r r' : R2} (ho : OpR X (compareOp op) r) (ho' : OpR X (compareOp op') r')
    (h : DH X PX ρ a fun ρ1 x => DH X PX ρ1 b fun ρ2 y => ∃ d d', x.get ρ2 d ∧ y.get ρ2 d' ∧ ∃ k, RB X.K r d d' k ∧ (if k = true then DH X PX ρ2 c fun ρ3 z => ∃ d2 d3, y.get ρ3 d2 ∧ z.get ρ3 d3 ∧ ∃ k', RB X.K r' d2 d3 k' ∧ W ρ3 (.bl k') else W ρ2 (.bl false)))
    (hm : lastMarks [op, op'] [b, c] = false := by with_unfolding_all rfl) : DE X PX ρ (.Compare a [op, op'] [b, c] pos) W := by
 with_unfolding_all
 exact fun B Fr Wx σ Hs H Q E tk kx q => by
  refine w_pe (pe_chain ho ho' pe_w pe_w pe_w hm) ?_
  show wE X a σ H fun x H1 => wE X b σ H1 fun y H2 => r x y H2 fun z H3 => ∃ k, z = .bl k ∧ (if k = true then wE X c σ H3 fun w' H4 => r' y w' H4 Q else Q (.bl false) H3)
  refine h B Fr Wx σ Hs H _ E tk kx fun u ρ1 x Hs1 H1 h1 E1 s1 i1 => ?_
  refine h1 B Fr Wx σ Hs1 H1 _ E1 tk (kx.up s1) fun v ρ2 y Hs2 H2 h2 E2 s2 i2 => ?_
  obtain ⟨d, d', g1, g2, k, hk, hc⟩ := h2
  refine hk B Fr ρ2 σ Hs2 H2 u v _ E2 (hn_is E2 (i1.mono s2) g1) (hn_is E2 i2 g2) ⟨k, rfl, ?_⟩
  cases k with
  | true =>
    rw [if_pos rfl] at hc ⊢
    refine hc B Fr Wx σ Hs2 H2 _ E2 tk (kx.up (s1.trans s2)) fun z ρ3 hz Hs3 H3 h3 E3 s3 i3 => ?_
    obtain ⟨d2, d3, g3, g4, k', hk', w⟩ := h3
    exact hk' B Fr ρ3 σ Hs3 H3 v z Q E3 (hn_is E3 (i2.mono s3) g3) (hn_is E3 i3 g4) (q _ ρ3 _ Hs3 H3 w E3 ((s1.trans s2).trans s3) (is_bl.mpr rfl))
  | false =>
    rw [if_neg (by decide)] at hc ⊢
    exact q _ ρ2 _ Hs2 H2 hc E2 (s1.trans s2) (is_bl.mpr rfl)
theorem dt_de {W : Lo → Bool → Prop} (h : DE X PX ρ e fun ρ1 d => ∃ k, d = .bl k ∧ W ρ1 k) (he : ∀ whole, isTrue e X.env whole = (do let v ← whole; standAt e.pos; holding [v] (truthy v)) := by intro _; rfl) : DT X PX ρ e W := by
 with_unfolding_all
 exact fun B Fr Wx σ Hs H Q E tk kx q => by
  refine w_pt (pt_val pe_w he) ?_
  refine h B Fr Wx σ Hs H _ E tk kx fun v ρ1 d Hs1 H1 w E1 s1 i1 => ?_
  obtain ⟨k, rfl, w⟩ := w
  exact ⟨k, is_bl.mp i1, q k ρ1 Hs1 H1 w E1 s1⟩
end
end DL
namespace DL
open PySem PySem.Spec PyProof.Rows L2
section
variable {X : Cx} {PX : XP} {ρ : Lo} {e a b c : Expr} {es : List Expr} {pos : Pos} {W : Lo → D → Prop}
/-! ### and, or, not, if-else -/
theorem de_and {rest : List Expr} (h : DE X PX ρ a fun ρ1 x => ∃ k, x = .bl k ∧ (if k = true then DE X PX ρ1 (.BoolOp .And (b :: rest) pos) W else W ρ1 (.bl false))) : DE X PX ρ (.BoolOp .And (a :: b :: rest) pos) W := by
 with_unfolding_all
 exact fun B Fr Wx σ Hs H Q E tk kx q => by
  refine w_pe (pe_and pe_w pe_w) ?_
  refine h B Fr Wx σ Hs H _ E tk kx fun v ρ1 d Hs1 H1 w E1 s1 i1 => ?_
  obtain ⟨k, rfl, w⟩ := w
  refine ⟨k, is_bl.mp i1, ?_⟩
  cases k with
  | true =>
    rw [if_pos rfl] at w ⊢
    exact w B Fr Wx σ Hs1 H1 _ E1 tk (kx.up s1) fun v2 ρ2 d2 Hs2 H2 w2 E2 s2 i2 => q v2 ρ2 d2 Hs2 H2 w2 E2 (s1.trans s2) i2
  | false =>
    rw [if_neg (by decide)] at w ⊢
    exact q _ ρ1 _ Hs1 H1 w E1 s1 (is_bl.mpr rfl)
theorem de_or {rest : List Expr} (h : DE X PX ρ a fun ρ1 x => ∃ k, x = .bl k ∧ (if k = true then W ρ1 (.bl true) else DE X PX ρ1 (.BoolOp .Or (b :: rest) pos) W)) : DE X PX ρ (.BoolOp .Or (a :: b :: rest) pos) W := by
 with_unfolding_all
 exact fun B Fr Wx σ Hs H Q E tk kx q => by
  refine w_pe (pe_or pe_w pe_w) ?_
  refine h B Fr Wx σ Hs H _ E tk kx fun v ρ1 d Hs1 H1 w E1 s1 i1 => ?_
  obtain ⟨k, rfl, w⟩ := w
  refine ⟨k, is_bl.mp i1, ?_⟩
  cases k with
  | false =>
    rw [if_neg (by decide)] at w ⊢
    exact w B Fr Wx σ Hs1 H1 _ E1 tk (kx.up s1) fun v2 ρ2 d2 Hs2 H2 w2 E2 s2 i2 => q v2 ρ2 d2 Hs2 H2 w2 E2 (s1.trans s2) i2
  | true =>
    rw [if_pos rfl] at w ⊢
    exact q _ ρ1 _ Hs1 H1 w E1 s1 (is_bl.mpr rfl)
theorem de_bone {op} (h : DE X PX ρ a W) : DE X PX ρ (.BoolOp op [a] pos) W := by
 with_unfolding_all
 exact fun B Fr Wx σ Hs H Q E tk kx q =>
  w_pe (pe_one pe_w) (h B Fr Wx σ Hs H Q E tk kx q)
theorem de_not (h : DE X PX ρ a fun ρ1 x => ∃ k, x = .bl k ∧ W ρ1 (.bl (!k))) : DE X PX ρ (.UnaryOp .Not a pos) W := by
 with_unfolding_all
 exact fun B Fr Wx σ Hs H Q E tk kx q => by
  refine w_pe (pe_not pe_w) ?_
  refine h B Fr Wx σ Hs H _ E tk kx fun v ρ1 d Hs1 H1 w E1 s1 i1 => ?_
  obtain ⟨k, rfl, w⟩ := w
  exact ⟨k, is_bl.mp i1, q _ ρ1 _ Hs1 H1 w E1 s1 (is_bl.mpr rfl)⟩
theorem de_if (h : DT X PX ρ c fun ρ1 k => if k = true then DE X PX ρ1 a W else DE X PX ρ1 b W) : DE X PX ρ (.IfExp c a b pos) W := by
 with_unfolding_all
 exact fun B Fr Wx σ Hs H Q E tk kx q => by
  refine w_pe (pe_ifExp pt_w pe_w pe_w) ?_
  refine h B Fr Wx σ Hs H _ E tk kx fun k ρ1 Hs1 H1 w E1 s1 => ?_
  cases k with
  | true =>
    rw [if_pos rfl] at w ⊢
    exact w B Fr Wx σ Hs1 H1 _ E1 tk (kx.up s1) fun v2 ρ2 d2 Hs2 H2 w2 E2 s2 i2 => q v2 ρ2 d2 Hs2 H2 w2 E2 (s1.trans s2) i2
  | false =>
    rw [if_neg (by decide)] at w ⊢
    exact w B Fr Wx σ Hs1 H1 _ E1 tk (kx.up s1) fun v2 ρ2 d2 Hs2 H2 w2 E2 s2 i2 => q v2 ρ2 d2 Hs2 H2 w2 E2 (s1.trans s2) i2
/-- a test of an and, an or: whatever its whole is -/
@[irreducible] def DW (X : Cx) (PX : XP) (ρ : Lo) (e : Expr) (W : Lo → Bool → Prop) : Prop :=
  ∀ (B : Option Addr) (Fr : Addr → HO → Prop) (Wx : WX) (σ : L2.St) (Hs H : Hp) (Q : Bool → Hp → Prop), EnvOk X.K B Fr ρ σ Hs H → Takes X Wx → KX X.K B Fr Hs PX Wx →
    (∀ b ρ' Hs' H', W ρ' b → EnvOk X.K B Fr ρ' σ Hs' H' → Same Hs Hs' → Q b H') →
    ∀ whole pins s, Inv X pins σ H s → wpAny (model X.prog X.w) X.A (isTrue e X.env whole) (TP X pins σ Q) X.xe s
def wW (X : Cx) (e : Expr) : TT := fun σ H Q => ∀ whole pins s, Inv X pins σ H s → wpAny (model X.prog X.w) X.A (isTrue e X.env whole) (TP X pins σ Q) X.xe s
theorem pw_w : PW X e (wW X e) := ⟨fun wh pins s σ H Q I h => h wh pins s I⟩
variable {WT : Lo → Bool → Prop}
theorem dt_dw (h : DW X PX ρ e WT) : DT X PX ρ e WT := by
 with_unfolding_all
 exact fun B Fr Wx σ Hs H Q E tk kx q pins s I => h B Fr Wx σ Hs H Q E tk kx q _ pins s I
theorem dw_and1 (h : DT X PX ρ a WT) : DW X PX ρ (.BoolOp .And [a] pos) WT := by
 with_unfolding_all
 exact fun B Fr Wx σ Hs H Q E tk kx q wh pins s I =>
  (pw_and1 (pos := pos) (pt_w (X := X) (e := a))).run wh pins s σ H Q I (h B Fr Wx σ Hs H Q E tk kx q)
theorem dw_or1 (h : DT X PX ρ a WT) : DW X PX ρ (.BoolOp .Or [a] pos) WT := by
 with_unfolding_all
 exact fun B Fr Wx σ Hs H Q E tk kx q wh pins s I =>
  (pw_or1 (pos := pos) (pt_w (X := X) (e := a))).run wh pins s σ H Q I (h B Fr Wx σ Hs H Q E tk kx q)
theorem dw_and {rest : List Expr} (h : DT X PX ρ a fun ρ1 k => if k = true then DW X PX ρ1 (.BoolOp .And (b :: rest) pos) WT else WT ρ1 false) : DW X PX ρ (.BoolOp .And (a :: b :: rest) pos) WT := by
 with_unfolding_all
 exact fun B Fr Wx σ Hs H Q E tk kx q wh pins s I => by
  refine (pw_and (pt_w (X := X) (e := a)) (pw_w (X := X) (e := .BoolOp .And (b :: rest) pos))).run wh pins s σ H Q I ?_
  refine h B Fr Wx σ Hs H _ E tk kx fun k ρ1 Hs1 H1 w E1 s1 => ?_
  cases k with
  | true =>
    rw [if_pos rfl] at w ⊢
    exact w B Fr Wx σ Hs1 H1 _ E1 tk (kx.up s1) fun k2 ρ2 Hs2 H2 w2 E2 s2 => q k2 ρ2 Hs2 H2 w2 E2 (s1.trans s2)
  | false =>
    rw [if_neg (by decide)] at w ⊢
    exact q _ ρ1 Hs1 H1 w E1 s1
theorem dw_or {rest : List Expr} (h : DT X PX ρ a fun ρ1 k => if k = true then WT ρ1 true else DW X PX ρ1 (.BoolOp .Or (b :: rest) pos) WT) : DW X PX ρ (.BoolOp .Or (a :: b :: rest) pos) WT := by
 with_unfolding_all
 exact fun B Fr Wx σ Hs H Q E tk kx q wh pins s I => by
  refine (pw_or (pt_w (X := X) (e := a)) (pw_w (X := X) (e := .BoolOp .Or (b :: rest) pos))).run wh pins s σ H Q I ?_
  refine h B Fr Wx σ Hs H _ E tk kx fun k ρ1 Hs1 H1 w E1 s1 => ?_
  cases k with
  | false =>
    rw [if_neg (by decide)] at w ⊢
    exact w B Fr Wx σ Hs1 H1 _ E1 tk (kx.up s1) fun k2 ρ2 Hs2 H2 w2 E2 s2 => q k2 ρ2 Hs2 H2 w2 E2 (s1.trans s2)
  | true =>
    rw [if_pos rfl] at w ⊢
    exact q _ ρ1 Hs1 H1 w E1 s1
theorem dt_not (h : DT X PX ρ a fun ρ1 k => WT ρ1 (!k)) : DT X PX ρ (.UnaryOp .Not a pos) WT := by
 with_unfolding_all
 exact fun B Fr Wx σ Hs H Q E tk kx q => by
  refine w_pt (pt_not pt_w) ?_
  exact h B Fr Wx σ Hs H _ E tk kx fun k ρ1 Hs1 H1 w E1 s1 => q _ ρ1 Hs1 H1 w E1 s1

/-! ### arguments, displays -/
theorem da_nil {W : Lo → List D → Prop} (k : W ρ []) : DA X PX ρ [] W := by
 with_unfolding_all
 exact fun B Fr Wx σ Hs H Q E tk kx q => w_pa pa_nil (q [] ρ [] Hs H k E (Same.refl _) (iss_nil.mpr rfl))
theorem da_cons {W : Lo → List D → Prop} (h : DE X PX ρ e fun ρ1 d => DA X PX ρ1 es fun ρ2 ds => W ρ2 (d :: ds)) (hs : starEach (e :: es) X.env = (false, eval e X.env) :: starEach es X.env := by rfl) : DA X PX ρ (e :: es) W := by
 with_unfolding_all
 exact fun B Fr Wx σ Hs H Q E tk kx q => by
  refine w_pa (pa_cons pe_w pa_w hs) ?_
  refine h B Fr Wx σ Hs H _ E tk kx fun v ρ1 d Hs1 H1 w E1 s1 i1 => ?_
  exact w B Fr Wx σ Hs1 H1 _ E1 tk (kx.up s1) fun vs ρ2 ds Hs2 H2 w2 E2 s2 i2 => q _ ρ2 _ Hs2 H2 w2 E2 (s1.trans s2) (iss_cons.mpr ⟨v, vs, rfl, i1.mono s2, i2⟩)
theorem df_lst {W : Lo → List D → Prop} (h : DA X PX ρ es fun ρ1 ds => ds.length ≤ 100000 ∧ W ρ1 ds) : DF X PX ρ (.List es pos) W := by
 with_unfolding_all
 exact fun B Fr Wx σ Hs H Q E tk kx q => by
  refine w_pe (pe_lst pa_w) ?_
  refine h B Fr Wx σ Hs H _ E tk kx fun vs ρ1 ds Hs1 H1 w E1 s1 i1 => ?_
  refine ⟨by rw [iss_len i1]; exact Nat.le_trans w.1 (by decide), fun p hp => ?_⟩
  obtain ⟨E2, hps⟩ := E1.allocOwn (o := .lst vs) hp
  obtain ⟨f1, f2⟩ := new_facts E1 hp
  exact q p vs ρ1 ds Hs1 _ w.2 E2 s1 upd_same hps i1 f1 f2
theorem de_tup {x1} (h : DA X PX ρ es fun ρ1 ds => ds.length ≤ 100000 ∧ W ρ1 (.tup ds)) : DE X PX ρ (.Tuple es x1 pos) W := by
 with_unfolding_all
 exact fun B Fr Wx σ Hs H Q E tk kx q => by
  refine w_pe (pe_tup pa_w) ?_
  refine h B Fr Wx σ Hs H _ E tk kx fun vs ρ1 ds Hs1 H1 w E1 s1 i1 => ?_
  refine ⟨by rw [iss_len i1]; exact Nat.le_trans w.1 (by decide), fun p hp => ?_⟩
  have hps := (E1.allocOwn (o := .tup vs) hp).2
  exact q (.ref p) ρ1 _ _ _ w.2 (E1.alloc hp) (s1.trans (same_upd hps)) (is_tup.mpr ⟨p, vs, rfl, .inl (.inl upd_same), Iss.mono (same_upd hps) _ _ i1⟩)

/-! ### built-ins by values -/
/-- a list of handles -/
def Hns.get (ρ : Lo) : List Hn → List D → Prop
  | [], ds => ds = []
  | h :: hs, ds => ∃ d r, ds = d :: r ∧ h.get ρ d ∧ Hns.get ρ hs r
def IssH (K : PySem.W.Frag) (Hs H : Hp) : List D → List V → Prop
  | [], vs => vs = []
  | d :: ds, vs => ∃ v r, vs = v :: r ∧ IsH K Hs H d v ∧ IssH K Hs H ds r
def HnsOk (K : PySem.W.Frag) (σ : L2.St) (Hs : Hp) : List Hn → List V → Prop
  | [], vs => vs = []
  | h :: hs, vs => ∃ v r, vs = v :: r ∧ HnOk K σ Hs h v ∧ HnsOk K σ Hs hs r
theorem hns_is {K : PySem.W.Frag} {B : Option Addr} {Fr : Addr → HO → Prop} {σ : L2.St} {Hs H : Hp} (E : EnvOk K B Fr ρ σ Hs H) : ∀ {hs : List Hn} {vs : List V} {ds : List D}, HnsOk K σ Hs hs vs → Hns.get ρ hs ds → IssH K Hs H ds vs
  | [], vs, ds, k, g => by
    have e : ds = [] := g
    subst e
    exact k
  | h :: hs, vs, ds, k, g => by
    obtain ⟨v, r, rfl, k1, k2⟩ := k
    obtain ⟨d, rd, rfl, g1, g2⟩ := g
    exact ⟨v, r, rfl, hn_is E k1 g1, hns_is E k2 g2⟩
@[irreducible] def DAH (X : Cx) (PX : XP) (ρ : Lo) (es : List Expr) (W : Lo → List Hn → Prop) : Prop :=
  ∀ (B : Option Addr) (Fr : Addr → HO → Prop) (Wx : WX) (σ : L2.St) (Hs H : Hp) (Q : List V → Hp → Prop), EnvOk X.K B Fr ρ σ Hs H → Takes X Wx → KX X.K B Fr Hs PX Wx →
    (∀ vs ρ' hs Hs' H', W ρ' hs → EnvOk X.K B Fr ρ' σ Hs' H' → Same Hs Hs' → HnsOk X.K σ Hs' hs vs → Q vs H') → wA X es σ H Q
theorem HnsOk.mono {K : PySem.W.Frag} {σ : L2.St} {Hs Hs' : Hp} (e : Same Hs Hs') : ∀ {hs : List Hn} {vs : List V}, HnsOk K σ Hs hs vs → HnsOk K σ Hs' hs vs
  | [], vs, k => k
  | h :: hs, vs, k => by
    obtain ⟨v, r, rfl, k1, k2⟩ := k
    exact ⟨v, r, rfl, k1.mono e, HnsOk.mono e k2⟩
theorem dah_nil {W : Lo → List Hn → Prop} (k : W ρ []) : DAH X PX ρ [] W := by
 with_unfolding_all
 exact fun B Fr Wx σ Hs H Q E tk kx q => w_pa pa_nil (q [] ρ [] Hs H k E (Same.refl _) rfl)
theorem dah_cons {W : Lo → List Hn → Prop} (h : DH X PX ρ e fun ρ1 d => DAH X PX ρ1 es fun ρ2 ds => W ρ2 (d :: ds)) (hs : starEach (e :: es) X.env = (false, eval e X.env) :: starEach es X.env := by rfl) : DAH X PX ρ (e :: es) W := by
 with_unfolding_all
 exact fun B Fr Wx σ Hs H Q E tk kx q => by
  refine w_pa (pa_cons pe_w pa_w hs) ?_
  refine h B Fr Wx σ Hs H _ E tk kx fun v ρ1 d Hs1 H1 w E1 s1 i1 => ?_
  exact w B Fr Wx σ Hs1 H1 _ E1 tk (kx.up s1) fun vs ρ2 ds Hs2 H2 w2 E2 s2 i2 => q _ ρ2 _ Hs2 H2 w2 E2 (s1.trans s2) ⟨v, vs, rfl, i1.mono s2, i2⟩
/-- a call by values: data; a new list -/
@[irreducible] def CK (K : PySem.W.Frag) (r : List V → Hp → VK → Prop) (xs : List D) (P : D → Prop) : Prop := ∀ (B : Option Addr) (Fr : Addr → HO → Prop) (ρ : Lo) (σ : L2.St) (Hs H : Hp) (us : List V) (Q : VK), EnvOk K B Fr ρ σ Hs H → IssH K Hs H xs us →
  (∀ w d Hs' H', P d → EnvOk K B Fr ρ σ Hs' H' → Same Hs Hs' → Is K Hs' d w → Q w H') → r us H Q
@[irreducible] def CF (K : PySem.W.Frag) (r : List V → Hp → VK → Prop) (xs : List D) (P : List D → Prop) : Prop := ∀ (B : Option Addr) (Fr : Addr → HO → Prop) (ρ : Lo) (σ : L2.St) (Hs H : Hp) (us : List V) (Q : VK), EnvOk K B Fr ρ σ Hs H → IssH K Hs H xs us →
  (∀ a vs ds H', P ds → EnvOk K B Fr ρ σ Hs H' → H' a = some (.lst vs) → Hs a = none → Iss K Hs ds vs → (∀ (i : Nat) (s : Sl), ρ[i]? = some (some s) → s.isOwn = true → σ[i]? ≠ some (some (.ref a))) → (∀ q : Addr × HO, Fr q.1 q.2 → q.1 ≠ a) → Q (.ref a) H') → r us H Q
section
variable {x : Str} {p : Pos} {id T : String} {r : List V → Hp → VK → Prop}
theorem de_bi (hc : CallR X (.builtin id) r) (hm : X.mg x = none) (hv : bootBuiltins x = some (.builtin id)) (h : DAH X PX ρ (e :: es) fun ρ1 hs => ∃ ds, Hns.get ρ1 hs ds ∧ CK X.K r ds (W ρ1)) (hg : Gl X x := by rfl) (hn : x ≠ "__name__" := by decide) (hdb : (x == ("__debug__" : Str)) = false := by decide)
    (he : starEach (e :: es) X.env = (false, eval e X.env) :: starEach es X.env := by rfl) (hpl : (backTo pos (starEach es X.env)).any (·.1) = false := by rfl) : DE X PX ρ (.Call (.Name x p) (e :: es) [] pos) W := by
 with_unfolding_all
 exact fun B Fr Wx σ Hs H Q E tk kx q => by
  refine w_pe (pe_callB hc hg hm hv pa_w hn hdb he hpl) ?_
  refine h B Fr Wx σ Hs H _ E tk kx fun vs ρ1 hs Hs1 H1 w E1 s1 i1 => ?_
  obtain ⟨ds, g, c⟩ := w
  exact c B Fr ρ1 σ Hs1 H1 vs Q E1 (hns_is E1 i1 g) fun w d Hs2 H2 p E2 s2 i2 => q w ρ1 d Hs2 H2 p E2 (s1.trans s2) i2
theorem df_bi {W : Lo → List D → Prop} (hc : CallR X (.builtin id) r) (hm : X.mg x = none) (hv : bootBuiltins x = some (.builtin id)) (h : DAH X PX ρ (e :: es) fun ρ1 hs => ∃ ds, Hns.get ρ1 hs ds ∧ CF X.K r ds (W ρ1)) (hg : Gl X x := by rfl) (hn : x ≠ "__name__" := by decide) (hdb : (x == ("__debug__" : Str)) = false := by decide)
    (he : starEach (e :: es) X.env = (false, eval e X.env) :: starEach es X.env := by rfl) (hpl : (backTo pos (starEach es X.env)).any (·.1) = false := by rfl) : DF X PX ρ (.Call (.Name x p) (e :: es) [] pos) W := by
 with_unfolding_all
 exact fun B Fr Wx σ Hs H Q E tk kx q => by
  refine w_pe (pe_callB hc hg hm hv pa_w hn hdb he hpl) ?_
  refine h B Fr Wx σ Hs H _ E tk kx fun vs ρ1 hs Hs1 H1 w E1 s1 i1 => ?_
  obtain ⟨ds, g, c⟩ := w
  exact c B Fr ρ1 σ Hs1 H1 vs Q E1 (hns_is E1 i1 g) fun a vs ds H2 p E2 h1 h2 h3 h4 h5 => q a vs ρ1 ds Hs1 H2 p E2 s1 h1 h2 h3 h4 h5
theorem de_bt (hc : CallR X (.type T) r) (hm : X.mg x = none) (hv : bootBuiltins x = some (.type T)) (h : DAH X PX ρ (e :: es) fun ρ1 hs => ∃ ds, Hns.get ρ1 hs ds ∧ CK X.K r ds (W ρ1)) (hg : Gl X x := by rfl) (hn : x ≠ "__name__" := by decide) (hdb : (x == ("__debug__" : Str)) = false := by decide)
    (he : starEach (e :: es) X.env = (false, eval e X.env) :: starEach es X.env := by rfl) (hpl : (backTo pos (starEach es X.env)).any (·.1) = false := by rfl) : DE X PX ρ (.Call (.Name x p) (e :: es) [] pos) W := by
 with_unfolding_all
 exact fun B Fr Wx σ Hs H Q E tk kx q => by
  refine w_pe (pe_callTy hc hg hm hv pa_w hn hdb he hpl) ?_
  refine h B Fr Wx σ Hs H _ E tk kx fun vs ρ1 hs Hs1 H1 w E1 s1 i1 => ?_
  obtain ⟨ds, g, c⟩ := w
  exact c B Fr ρ1 σ Hs1 H1 vs Q E1 (hns_is E1 i1 g) fun w d Hs2 H2 p E2 s2 i2 => q w ρ1 d Hs2 H2 p E2 (s1.trans s2) i2
theorem df_bt {W : Lo → List D → Prop} (hc : CallR X (.type T) r) (hm : X.mg x = none) (hv : bootBuiltins x = some (.type T)) (h : DAH X PX ρ (e :: es) fun ρ1 hs => ∃ ds, Hns.get ρ1 hs ds ∧ CF X.K r ds (W ρ1)) (hg : Gl X x := by rfl) (hn : x ≠ "__name__" := by decide) (hdb : (x == ("__debug__" : Str)) = false := by decide)
    (he : starEach (e :: es) X.env = (false, eval e X.env) :: starEach es X.env := by rfl) (hpl : (backTo pos (starEach es X.env)).any (·.1) = false := by rfl) : DF X PX ρ (.Call (.Name x p) (e :: es) [] pos) W := by
 with_unfolding_all
 exact fun B Fr Wx σ Hs H Q E tk kx q => by
  refine w_pe (pe_callTy hc hg hm hv pa_w hn hdb he hpl) ?_
  refine h B Fr Wx σ Hs H _ E tk kx fun vs ρ1 hs Hs1 H1 w E1 s1 i1 => ?_
  obtain ⟨ds, g, c⟩ := w
  exact c B Fr ρ1 σ Hs1 H1 vs Q E1 (hns_is E1 i1 g) fun a vs ds H2 p E2 h1 h2 h3 h4 h5 => q a vs ρ1 ds Hs1 H2 p E2 s1 h1 h2 h3 h4 h5
end
/-! methods of texts and read-only ones: the receiver first -/
section
variable {o : Expr} {name : Str} {apos cpos : Pos} {id T : String} {r : V → List V → Hp → VK → Prop}
theorem de_bm (pa : PlainAttrs T) (slot : Slot T name id) (hty : typeOf (.builtin id) = pure (.type "method_descriptor")) (hm : MtR X id r)
    (h : DE X PX ρ o fun ρ1 x => (∀ B Fr σ Hs H u, EnvOk X.K B Fr ρ1 σ Hs H → Is X.K Hs x u → tyV X.K T u H) ∧ DAH X PX ρ1 (e :: es) fun ρ2 hs => ∃ ds, Hns.get ρ2 hs ds ∧ CK X.K (fun us H Q => ∃ u us', us = u :: us' ∧ r u us' H Q) (x :: ds) (W ρ2))
    (hbase : attributeBase o name X.env (eval o X.env) = eval o X.env := by rfl)
    (hfew : ((backTo cpos (starEach (e :: es) X.env)).all (fun x => !x.1) && (backToKw cpos (keywordEach [] X.env)).all (fun x => x.1.isSome)
      && decide ((e :: es).length + ([] : List Keyword).length + (if ([] : List Keyword).isEmpty then 0 else 1) < 30)) = true := by rfl)
    (hline : (apos.endLine == cpos.line) = true := by rfl) (hs : starEach (e :: es) X.env = (false, eval e X.env) :: starEach es X.env := by rfl) (hplain : (backTo cpos (starEach es X.env)).any (·.1) = false := by rfl) :
    DE X PX ρ (.Call (.Attribute o name apos) (e :: es) [] cpos) W := by
 with_unfolding_all
 exact fun B Fr Wx σ Hs H Q E tk kx q => by
  refine w_pe (pe_bm pa slot hty hm pe_w pa_w hbase hfew hline hs hplain) ?_
  refine h B Fr Wx σ Hs H _ E tk kx fun v ρ1 d Hs1 H1 w E1 s1 i1 => ?_
  refine ⟨w.1 B Fr σ Hs1 H1 v E1 i1, ?_⟩
  refine w.2 B Fr Wx σ Hs1 H1 _ E1 tk (kx.up s1) fun vs ρ2 hs Hs2 H2 w2 E2 s2 i2 => ?_
  obtain ⟨ds, g, c⟩ := w2
  have := c B Fr ρ2 σ Hs2 H2 (v :: vs) Q E2 ⟨v, vs, rfl, .inl (i1.mono s2), hns_is E2 i2 g⟩ fun w d Hs3 H3 p E3 s3 i3 => q w ρ2 d Hs3 H3 p E3 ((s1.trans s2).trans s3) i3
  obtain ⟨u, us', e1, k⟩ := this
  cases e1
  exact k
end
/-! slices -/
def DO (X : Cx) (PX : XP) (ρ : Lo) (o : Option Expr) (W : Lo → Option Int → Prop) : Prop := match o with
  | none => W ρ none
  | some e => DE X PX ρ e fun ρ1 d => ∃ i, d = .int i ∧ W ρ1 (some i)
/-- a slice by values -/
@[irreducible] def LK (K : PySem.W.Frag) (r : V → Option Int → Option Int → Hp → VK → Prop) (x : D) (lo hi : Option Int) (P : D → Prop) : Prop := ∀ (B : Option Addr) (Fr : Addr → HO → Prop) (ρ : Lo) (σ : L2.St) (Hs H : Hp) (u : V) (Q : VK), EnvOk K B Fr ρ σ Hs H → IsH K Hs H x u →
  (∀ w d Hs' H', P d → EnvOk K B Fr ρ σ Hs' H' → Same Hs Hs' → Is K Hs' d w → Q w H') → r u lo hi H Q
theorem de_sl {lo hi : Option Expr} {p2 : Pos} {r : V → Option Int → Option Int → Hp → VK → Prop} (hr : SlR X r)
    (h : DH X PX ρ e fun ρ1 x => DO X PX ρ1 lo fun ρ2 l => DO X PX ρ2 hi fun ρ3 u => ∃ d, x.get ρ3 d ∧ LK X.K r d l u (W ρ3)) : DE X PX ρ (.Subscript e (.Slice lo hi none p2) pos) W := by
 with_unfolding_all
 exact fun B Fr Wx σ Hs H Q E tk kx q => by
  have part : ∀ (o : Option Expr) (ρ1 : Lo) (Wo : Lo → Option Int → Prop) (Hs1 H1 : Hp) (Q1 : Option Int → Hp → Prop), Same Hs Hs1 → EnvOk X.K B Fr ρ1 σ Hs1 H1 → DO X PX ρ1 o Wo →
      (∀ l ρ2 Hs2 H2, Wo ρ2 l → EnvOk X.K B Fr ρ2 σ Hs2 H2 → Same Hs1 Hs2 → Q1 l H2) → ∃ t, PO X o t ∧ t σ H1 Q1 := by
    intro o ρ1 Wo Hs1 H1 Q1 s1 E1 h1 k1
    cases o with
    | none => exact ⟨_, po_none, k1 none ρ1 Hs1 H1 h1 E1 (Same.refl _)⟩
    | some e' =>
      refine ⟨_, po_some pe_w, ?_⟩
      refine h1 B Fr Wx σ Hs1 H1 _ E1 tk (kx.up s1) fun v ρ2 d Hs2 H2 w E2 s2 i2 => ?_
      obtain ⟨i, rfl, w⟩ := w
      exact ⟨i, is_int.mp i2, k1 (some i) ρ2 Hs2 H2 w E2 s2⟩
  have wO : ∀ (o : Option Expr), PO X o (fun σ1 H1 Q1 => ∃ t, PO X o t ∧ t σ1 H1 Q1) := fun o => ⟨fun pins s σ1 H1 Q1 I hh => by
    obtain ⟨t, h1, h2⟩ := hh
    exact h1.run pins s σ1 H1 Q1 I h2⟩
  refine w_pe (pe_slice hr pe_w (wO lo) (wO hi)) ?_
  refine h B Fr Wx σ Hs H _ E tk kx fun v ρ1 x Hs1 H1 w E1 s1 i1 => ?_
  refine part lo ρ1 _ Hs1 H1 _ s1 E1 w fun l ρ2 Hs2 H2 w2 E2 s2 => ?_
  refine part hi ρ2 _ Hs2 H2 _ (s1.trans s2) E2 w2 fun u ρ3 Hs3 H3 w3 E3 s3 => ?_
  obtain ⟨d, g, r'⟩ := w3
  exact r' B Fr ρ3 σ Hs3 H3 v Q E3 (hn_is E3 (i1.mono (s2.trans s3)) g) fun w d Hs4 H4 p E4 s4 i4 => q w ρ3 d Hs4 H4 p E4 (((s1.trans s2).trans s3).trans s4) i4

/-! ### calls of defs -/
/-- what a def does: from its first parameter (where it is a list that it changes), the others' data: the list behind it, the answer; the exception -/
abbrev FSpec := Option (List D) → List D → (Option (List D) → D → Prop) → (Value → Option (Str × D) → Prop) → Prop
def argLo : Option (List D) → List D → Lo
  | none, ds => ds.map fun d => some (.sh d)
  | some xs, ds => some (.own true xs) :: ds.map fun d => some (.sh d)
def spOf (K : PySem.W.Frag) (S : FSpec) : Sp := fun vs H Q E => ∃ (B : Option Addr) (Fr : Addr → HO → Prop) (y : Option (List D)) (ds : List D) (Hs : Hp) (P : Option (List D) → D → Prop) (PE : Value → Option (Str × D) → Prop),
  S y ds P PE ∧ EnvOk K B Fr (argLo y ds) (vs.map some) Hs H ∧
  (∀ y' d v Hs' H', P y' d → y'.isSome = y.isSome → EnvOk K B Fr (argLo y' ds) (vs.map some) Hs' H' → Same Hs Hs' → Is K Hs' d v → Q v H') ∧
  (∀ cls o fd y' Hs' H', PE cls fd → y'.isSome = y.isSome → EnvOk K B Fr (argLo y' ds) (vs.map some) Hs' H' → Same Hs Hs' → FldOk K Hs' H' o fd → E cls o H')
/-- the def f keeps S -/
abbrev DFn (P : Program) (w : World) (K : PySem.W.Frag) (mg : Str → Option Value) (base : Heap) (k : Nat) (f : Addr) (fd : FuncData) (ps : List Str) (S : FSpec) : Prop := FnOk P w K mg base (L2.CX P w) k f fd ps (spOf K S)
end
end DL
namespace DL
open PySem PySem.Spec PyProof.Rows L2
section
variable {K : PySem.W.Frag} {B : Option Addr} {Fr : Addr → HO → Prop} {ρ : Lo} {σ : L2.St} {Hs H Hs' H' : Hp}
/-- what a callee must leave as it is: the frame, the lists of one's own (but a borrowed one) -/
def keepFr (Fr : Addr → HO → Prop) (ρ : Lo) (σ : L2.St) (H : Hp) (x : Option Addr) : Addr → HO → Prop := fun a o =>
  H a = some o ∧ x ≠ some a ∧ (Fr a o ∨ ∃ (i : Nat) (s : Sl), ρ[i]? = some (some s) ∧ s.isOwn = true ∧ σ[i]? = some (some (.ref a)))
theorem keep_facts (E : EnvOk K B Fr ρ σ Hs H) {x : Option Addr} : ∀ a o, keepFr Fr ρ σ H x a o → H a = some o ∧ Hs a = none := fun a o h => by
  obtain ⟨h1, _, h2 | ⟨i, s, e1, e2, e3⟩⟩ := h
  · exact ⟨h1, (E.frm (a, o) h2).2.1⟩
  · obtain ⟨v, f1, f2⟩ := E.sl i s e1
    rw [e3] at f1; cases f1
    cases s with
    | sh d => cases e2
    | own b ds =>
      obtain ⟨a', vs, ea, g1, g2, _⟩ := f2
      cases ea
      exact ⟨h1, g2⟩
/-- behind a call: the env as it was -/
theorem EnvOk.back (E : EnvOk K B Fr ρ σ Hs H) {B' : Option Addr} {ρ' : Lo} {σ' : L2.St} (E' : EnvOk K B' (keepFr Fr ρ σ H none) ρ' σ' Hs' H') (s : Same Hs Hs') : EnvOk K B Fr ρ σ Hs' H' := by
  refine ⟨E'.sub, E.len, fun i sl e => ?_, E.dis, fun q hq => ?_⟩
  · obtain ⟨v, h1, h2⟩ := E.sl i sl e
    refine ⟨v, h1, h2.mono s fun a vs ho ev k1 k2 => ?_⟩
    have := E'.frm (a, .lst vs) ⟨k1, nofun, .inr ⟨i, sl, e, ho, by rw [h1, ev]⟩⟩
    exact ⟨this.1, this.2.1⟩
  · obtain ⟨h1, h2, h3⟩ := E.frm q hq
    have := E'.frm q ⟨h1, nofun, .inl hq⟩
    exact ⟨this.1, this.2.1, h3⟩
theorem sh_get {ds : List D} {i : Nat} {s : Sl} (e : (ds.map fun d => some (Sl.sh d))[i]? = some (some s)) : ∃ d, s = .sh d ∧ ds[i]? = some d := by
  rw [List.getElem?_map] at e
  cases hd : ds[i]? with
  | none => rw [hd] at e; cases e
  | some d =>
    rw [hd] at e
    cases e
    exact ⟨d, rfl, rfl⟩
theorem env_args (E : EnvOk K B Fr ρ σ Hs H) {ds : List D} {vs : List V} (h : Iss K Hs ds vs) : EnvOk K none (keepFr Fr ρ σ H none) (argLo none ds) (vs.map some) Hs H := by
  refine ⟨E.sub, ?_, fun i s e => ?_, fun i j s s' v e1 e2 o1 o2 => ?_, fun q hq => ?_⟩
  · show (vs.map some).length = (ds.map _).length
    rw [List.length_map, List.length_map, iss_len h]
  · obtain ⟨d, rfl, hd⟩ := sh_get e
    obtain ⟨v, h1, h2⟩ := iss_get h hd
    exact ⟨v, by rw [List.getElem?_map, h1]; rfl, h2⟩
  · obtain ⟨d, rfl, _⟩ := sh_get e1
    cases o1
  · obtain ⟨h1, h2⟩ := keep_facts E _ _ hq
    refine ⟨h1, h2, fun i s e o => ?_⟩
    obtain ⟨d, rfl, _⟩ := sh_get e
    cases o
/-- .. a list of the caller's lent -/
theorem env_lend (E : EnvOk K B Fr ρ σ Hs H) {i : Nat} {b : Bool} {xs : List D} {a : Addr} (hi : ρ[i]? = some (some (.own b xs))) (hv : σ[i]? = some (some (.ref a))) {ds : List D} {vs : List V} (h : Iss K Hs ds vs) :
    EnvOk K (some a) (keepFr Fr ρ σ H (some a)) (argLo (some xs) ds) (some (.ref a) :: vs.map some) Hs H := by
  obtain ⟨v, e1, a', us, rfl, h1, h2, h3, _⟩ := E.sl i _ hi
  rw [hv] at e1; cases e1
  refine ⟨E.sub, ?_, fun j s e => ?_, fun j k s s' v f1 f2 o1 o2 g1 g2 => ?_, fun q hq => ?_⟩
  · show (some (V.ref a) :: vs.map some).length = (_ :: ds.map _).length
    rw [List.length_cons, List.length_cons, List.length_map, List.length_map, iss_len h]
  · cases j with
    | zero =>
      have e' : some (some (Sl.own true xs)) = some (some s) := e
      cases e'
      exact ⟨_, rfl, a, us, rfl, h1, h2, h3, fun _ => rfl⟩
    | succ j =>
      obtain ⟨d, rfl, hd⟩ := sh_get (i := j) (ds := ds) e
      obtain ⟨v, k1, k2⟩ := iss_get h hd
      exact ⟨v, by show (vs.map some)[j]? = _; rw [List.getElem?_map, k1]; rfl, k2⟩
  · have z : ∀ (j : Nat) (s : Sl), (argLo (some xs) ds)[j]? = some (some s) → s.isOwn = true → j = 0 := fun j s e o => by
      cases j with
      | zero => rfl
      | succ j =>
        obtain ⟨d, rfl, hd⟩ := sh_get (i := j) (ds := ds) e
        cases o
    rw [z j s f1 o1, z k s' f2 o2]
  · obtain ⟨k1, k2⟩ := keep_facts E _ _ hq
    refine ⟨k1, k2, fun j s e o => ?_⟩
    cases j with
    | zero =>
      intro y
      have y' : some (some (V.ref a)) = some (some (V.ref q.1)) := y
      cases y'
      exact hq.2.1 rfl
    | succ j =>
      obtain ⟨d, rfl, hd⟩ := sh_get (i := j) (ds := ds) e
      cases o
theorem EnvOk.backLend (E : EnvOk K B Fr ρ σ Hs H) {i : Nat} {b : Bool} {xs xs' : List D} {a : Addr} (hi : ρ[i]? = some (some (.own b xs))) (hv : σ[i]? = some (some (.ref a))) {ds : List D} {vs : List V}
    (E' : EnvOk K (some a) (keepFr Fr ρ σ H (some a)) (argLo (some xs') ds) (some (.ref a) :: vs.map some) Hs' H') (s : Same Hs Hs') : EnvOk K B Fr (ρ.set i (some (.own b xs'))) σ Hs' H' := by
  obtain ⟨v, e1, a0, us, rfl, h1, h2, h3, h4⟩ := E.sl i _ hi
  rw [hv] at e1; cases e1
  obtain ⟨v', f1, a1, us', ea, g1, g2, g3, _⟩ := E'.sl 0 (.own true xs') rfl
  have f1' : some (some (V.ref a)) = some (some v') := f1
  cases f1'
  cases ea
  have own' : ∀ (j : Nat) (s : Sl), (ρ.set i (some (.own b xs')))[j]? = some (some s) → s.isOwn = true → ∃ s0 : Sl, ρ[j]? = some (some s0) ∧ s0.isOwn = true := fun j s e o => by
    by_cases hj : j = i
    · subst hj; exact ⟨_, hi, rfl⟩
    · rw [List.getElem?_set_ne (Ne.symm hj)] at e; exact ⟨s, e, o⟩
  refine ⟨E'.sub, by simp [E.len], fun j sl e => ?_, fun j k s1 s2 u e1 e2 o1 o2 p1 p2 => ?_, fun q hq => ?_⟩
  · by_cases hj : j = i
    · subst hj
      obtain ⟨hlt, _⟩ := List.getElem?_eq_some_iff.mp hi
      rw [List.getElem?_set_self hlt] at e
      cases e
      exact ⟨.ref a, hv, a, us', rfl, g1, g2, g3, h4⟩
    · rw [List.getElem?_set_ne (Ne.symm hj)] at e
      obtain ⟨u, k1, k2⟩ := E.sl j sl e
      refine ⟨u, k1, k2.mono s fun c ws ho ev m1 m2 => ?_⟩
      have hne : c ≠ a := fun z => hj (E.dis j i sl _ u e hi ho rfl k1 (by rw [hv, ev, z]))
      have := E'.frm (c, .lst ws) ⟨m1, fun z => hne (Option.some.inj z).symm, .inr ⟨j, sl, e, ho, by rw [k1, ev]⟩⟩
      exact ⟨this.1, this.2.1⟩
  · obtain ⟨s0, m1, m2⟩ := own' j s1 e1 o1
    obtain ⟨s0', m3, m4⟩ := own' k s2 e2 o2
    exact E.dis j k s0 s0' u m1 m3 m2 m4 p1 p2
  · obtain ⟨k1, k2, k3⟩ := E.frm q hq
    have hne : q.1 ≠ a := fun z => k3 i _ hi rfl (by rw [hv, z])
    have := E'.frm q ⟨k1, fun z => hne (Option.some.inj z).symm, .inl hq⟩
    refine ⟨this.1, this.2.1, fun j sl e o => ?_⟩
    obtain ⟨s0, m1, m2⟩ := own' j sl e o
    exact k3 j s0 m1 m2
end
section
variable {X : Cx} {PX : XP} {ρ : Lo} {e a b c : Expr} {es : List Expr} {pos p : Pos} {W : Lo → D → Prop} {k : Nat} {f : Addr} {fd : FuncData} {ps : List Str} {S : FSpec} {x y : Str} {dvs : List V} {dds : List D} {du : List Value}
theorem iss_app' {K : PySem.W.Frag} {H : Hp} {ds es : List D} {vs us : List V} (h : Iss K H ds vs) (h' : Iss K H es us) : Iss K H (ds ++ es) (vs ++ us) := iss_app h h'
/-- f(e, ..) of shared data (dds: the defaults) -/
theorem de_call (F : DFn X.prog X.w X.K X.mg X.base k f fd ps S) (hr : Room k X.A) (hm : X.mg x = some (.ref f)) (hk : PySem.W.keepIn X.K (.ref f) = true) (hb : Binds X.K fd ps du) (hd : Vals dvs du) (hdd : ∀ Hs : Hp, Iss X.K Hs dds dvs)
    (h : DA X PX ρ (e :: es) fun ρ1 ds => S none (ds ++ dds) (fun _ d => W ρ1 d) (fun cls fd => PX ρ1 cls fd)) (hg : Gl X x := by rfl) (hdb : (x == ("__debug__" : Str)) = false := by decide)
    (he : starEach (e :: es) X.env = (false, eval e X.env) :: starEach es X.env := by rfl) (hpl : (backTo pos (starEach es X.env)).any (·.1) = false := by rfl) : DE X PX ρ (.Call (.Name x p) (e :: es) [] pos) W := by
 with_unfolding_all
 exact fun B Fr Wx σ Hs H Q E tk kx q => by
  refine w_pe (pe_callSD (E := WE Wx) F hr hg hm hk hb hd (fun σ => passAt tk σ) pa_w hdb he hpl) ?_
  refine h B Fr Wx σ Hs H _ E tk kx fun vs ρ1 ds Hs1 H1 w E1 s1 i1 => ?_
  have i2 : Iss X.K Hs1 (ds ++ dds) (vs ++ dvs) := iss_app i1 (hdd Hs1)
  refine ⟨none, _, none, ds ++ dds, Hs1, _, _, w, env_args E1 i2, fun y' d v Hs2 H2 p _ E2 s2 i3 => ?_, fun cls o fd y' Hs2 H2 p _ E2 s2 f => ?_⟩
  · exact q v ρ1 d Hs2 H2 p (E1.back E2 s2) (s1.trans s2) i3
  · exact kx cls o fd ρ1 σ Hs2 H2 p (E1.back E2 s2) (s1.trans s2) f
/-- f(x, e, ..), x a list of one's own that f may change -/
theorem de_callL (F : DFn X.prog X.w X.K X.mg X.base k f fd ps S) (hr : Room k X.A) (hm : X.mg x = some (.ref f)) (hk : PySem.W.keepIn X.K (.ref f) = true) (hb : Binds X.K fd ps []) (i : Nat) {b : Bool} {xs : List D} {py : Pos}
    (h0 : ρ[i]? = some (some (.own b xs)))
    (h : DA X PX ρ es fun ρ1 ds => ∃ b' xs1, ρ1[i]? = some (some (.own b' xs1)) ∧ S (some xs1) ds (fun y' d => ∀ xs', y' = some xs' → W (ρ1.set i (some (.own b' xs'))) d) (fun cls fd => ∀ xs', PX (ρ1.set i (some (.own b' xs'))) cls fd))
    (hN : X.N[i]? = some y := by rfl) (hv : Vis X.env.scope y := by first | exact Or.inl rfl | exact Or.inr (Or.inl rfl) | exact Or.inr (Or.inr rfl)) (hg : Gl X x := by rfl) (hdb : (x == ("__debug__" : Str)) = false := by decide)
    (hd : (y == ("__debug__" : Str)) = false := by decide) (hcd : (y == ("__classdict__" : Str)) = false := by decide)
    (he : starEach (.Name y py :: es) X.env = (false, eval (.Name y py) X.env) :: starEach es X.env := by rfl) (hpl : (backTo pos (starEach es X.env)).any (·.1) = false := by rfl) : DE X PX ρ (.Call (.Name x p) (.Name y py :: es) [] pos) W := by
 with_unfolding_all
 exact fun B Fr Wx σ Hs H Q E tk kx q => by
  refine w_pe (pe_callSD (E := WE Wx) F hr hg hm hk hb .nil (fun σ => passAt tk σ) (pa_cons (pe_var hN hv hd hcd) pa_w he) hdb he hpl) ?_
  obtain ⟨v0, e1, e2⟩ := E.sl i _ h0
  obtain ⟨a, us, rfl, _⟩ := e2
  refine ⟨.ref a, e1, ?_⟩
  refine h B Fr Wx σ Hs H _ E tk kx fun vs ρ1 ds Hs1 H1 w E1 s1 i1 => ?_
  obtain ⟨b', xs1, h1, w⟩ := w
  refine ⟨some a, keepFr Fr ρ1 σ H1 (some a), some xs1, ds, Hs1, _, _, w, ?_, fun y' d v Hs2 H2 p hy E2 s2 i3 => ?_, fun cls o fd y' Hs2 H2 p hy E2 s2 f => ?_⟩
  · have := env_lend E1 h1 e1 i1
    rw [List.append_nil]
    exact this
  · cases y' with
    | none => cases hy
    | some xs' =>
      rw [List.append_nil] at E2
      exact q v _ d Hs2 H2 (p xs' rfl) (E1.backLend h1 e1 E2 s2) (s1.trans s2) i3
  · cases y' with
    | none => cases hy
    | some xs' =>
      rw [List.append_nil] at E2
      exact kx cls o fd _ σ Hs2 H2 (p xs') (E1.backLend h1 e1 E2 s2) (s1.trans s2) f
end

/-! ### statements -/
structure EndsD where
  nx : Lo → Prop
  rt : Lo → D → Prop
  bk : Lo → Prop := fun _ => False
  ct : Lo → Prop := fun _ => False
/-- the ends over values that stand for ends over data -/
def EndOk (K : PySem.W.Frag) (B : Option Addr) (Fr : Addr → HO → Prop) (Hs : Hp) (N : EndsD) (D0 : Ends) : Prop :=
  (∀ ρ' σ' Hs' H', N.nx ρ' → EnvOk K B Fr ρ' σ' Hs' H' → Same Hs Hs' → D0.nx σ' H') ∧
  (∀ ρ' σ' d v Hs' H', N.rt ρ' d → EnvOk K B Fr ρ' σ' Hs' H' → Same Hs Hs' → Is K Hs' d v → D0.rt v H') ∧
  (∀ ρ' σ' Hs' H', N.bk ρ' → EnvOk K B Fr ρ' σ' Hs' H' → Same Hs Hs' → D0.bk σ' H') ∧
  (∀ ρ' σ' Hs' H', N.ct ρ' → EnvOk K B Fr ρ' σ' Hs' H' → Same Hs Hs' → D0.ct σ' H')
theorem EndOk.up {K : PySem.W.Frag} {B : Option Addr} {Fr : Addr → HO → Prop} {Hs Hs' : Hp} {N : EndsD} {D0 : Ends} (h : EndOk K B Fr Hs N D0) (s : Same Hs Hs') : EndOk K B Fr Hs' N D0 :=
  ⟨fun ρ' σ' Hs2 H2 n E s2 => h.1 ρ' σ' Hs2 H2 n E (s.trans s2), fun ρ' σ' d v Hs2 H2 n E s2 i => h.2.1 ρ' σ' d v Hs2 H2 n E (s.trans s2) i,
    fun ρ' σ' Hs2 H2 n E s2 => h.2.2.1 ρ' σ' Hs2 H2 n E (s.trans s2), fun ρ' σ' Hs2 H2 n E s2 => h.2.2.2 ρ' σ' Hs2 H2 n E (s.trans s2)⟩
@[irreducible] def DS (X : Cx) (PX : XP) (ρ : Lo) (st : Stmt) (N : EndsD) : Prop :=
  ∀ (B : Option Addr) (Fr : Addr → HO → Prop) (Wx : WX) (σ : L2.St) (Hs H : Hp) (D0 : Ends), EnvOk X.K B Fr ρ σ Hs H → Takes X Wx → KX X.K B Fr Hs PX Wx → EndOk X.K B Fr Hs N D0 → wS X st D0 σ H
@[irreducible] def DSs (X : Cx) (PX : XP) (ρ : Lo) (sts : List Stmt) (N : EndsD) : Prop :=
  ∀ (B : Option Addr) (Fr : Addr → HO → Prop) (Wx : WX) (σ : L2.St) (Hs H : Hp) (D0 : Ends), EnvOk X.K B Fr ρ σ Hs H → Takes X Wx → KX X.K B Fr Hs PX Wx → EndOk X.K B Fr Hs N D0 → wSs X sts D0 σ H
section
variable {X : Cx} {PX : XP} {ρ : Lo} {e a b c : Expr} {es : List Expr} {pos pos' : Pos} {st : Stmt} {sts : List Stmt} {N : EndsD}
theorem dss_nil (k : N.nx ρ) : DSs X PX ρ [] N := by
 with_unfolding_all
 exact fun B Fr Wx σ Hs H D0 E tk kx ko => w_pss pss_nil (ko.1 ρ σ Hs H k E (Same.refl _))
theorem dss_cons (h : DS X PX ρ st { N with nx := fun ρ' => DSs X PX ρ' sts N }) : DSs X PX ρ (st :: sts) N := by
 with_unfolding_all
 exact fun B Fr Wx σ Hs H D0 E tk kx ko => by
  refine w_pss (pss_cons ps_w pss_w) ?_
  refine h B Fr Wx σ Hs H { D0 with nx := wSs X sts D0 } E tk kx ⟨fun ρ' σ' Hs' H' n E' s => ?_, ko.2.1, ko.2.2.1, ko.2.2.2⟩
  exact n B Fr Wx σ' Hs' H' D0 E' tk (kx.up s) (ko.up s)
theorem dss_one (h : DS X PX ρ st N) : DSs X PX ρ [st] N := by
 with_unfolding_all
 exact fun B Fr Wx σ Hs H D0 E tk kx ko => w_pss (pss_one ps_w) (h B Fr Wx σ Hs H D0 E tk kx ko)
theorem DSs.imp {N' : EndsD} (h : DSs X PX ρ sts N) (k : (∀ ρ, N.nx ρ → N'.nx ρ) ∧ (∀ ρ d, N.rt ρ d → N'.rt ρ d) ∧ (∀ ρ, N.bk ρ → N'.bk ρ) ∧ (∀ ρ, N.ct ρ → N'.ct ρ)) : DSs X PX ρ sts N' := by
 with_unfolding_all
 exact fun B Fr Wx σ Hs H D0 E tk kx ko =>
  h B Fr Wx σ Hs H D0 E tk kx ⟨fun ρ' σ' Hs' H' n => ko.1 ρ' σ' Hs' H' (k.1 _ n), fun ρ' σ' d v Hs' H' n => ko.2.1 ρ' σ' d v Hs' H' (k.2.1 _ _ n), fun ρ' σ' Hs' H' n => ko.2.2.1 ρ' σ' Hs' H' (k.2.2.1 _ n), fun ρ' σ' Hs' H' n => ko.2.2.2 ρ' σ' Hs' H' (k.2.2.2 _ n)⟩
theorem ds_pass (k : N.nx ρ) : DS X PX ρ (.Pass pos) N := by
 with_unfolding_all
 exact fun B Fr Wx σ Hs H D0 E tk kx ko => w_ps ps_pass (ko.1 ρ σ Hs H k E (Same.refl _))
theorem ds_brk (k : N.bk ρ) : DS X PX ρ (.Break pos) N := by
 with_unfolding_all
 exact fun B Fr Wx σ Hs H D0 E tk kx ko => w_ps ps_break (ko.2.2.1 ρ σ Hs H k E (Same.refl _))
theorem ds_cont (k : N.ct ρ) : DS X PX ρ (.Continue pos) N := by
 with_unfolding_all
 exact fun B Fr Wx σ Hs H D0 E tk kx ko => w_ps ps_continue (ko.2.2.2 ρ σ Hs H k E (Same.refl _))
theorem ds_expr (h : DE X PX ρ e fun ρ' _ => N.nx ρ') (hs : swapsWith e none pos.line X.env = pure false := by rfl) : DS X PX ρ (.Expr e pos) N := by
 with_unfolding_all
 exact fun B Fr Wx σ Hs H D0 E tk kx ko =>
  w_ps (ps_expr pe_w hs) (h B Fr Wx σ Hs H _ E tk kx fun v ρ' d Hs' H' w E' s i => ko.1 ρ' σ Hs' H' w E' s)
theorem ds_ret (h : DE X PX ρ e N.rt) : DS X PX ρ (.Return (some e) pos) N := by
 with_unfolding_all
 exact fun B Fr Wx σ Hs H D0 E tk kx ko =>
  w_ps (ps_ret pe_w) (h B Fr Wx σ Hs H _ E tk kx fun v ρ' d Hs' H' w E' s i => ko.2.1 ρ' σ d v Hs' H' w E' s i)
theorem ds_retN (k : N.rt ρ .non) : DS X PX ρ (.Return none pos) N := by
 with_unfolding_all
 exact fun B Fr Wx σ Hs H D0 E tk kx ko => w_ps ps_retN (ko.2.1 ρ σ .non .non Hs H k E (Same.refl _) (is_non.mpr rfl))
theorem ds_if {p q : List Stmt} (h : DT X PX ρ c fun ρ' k => if k = true then DSs X PX ρ' p N else DSs X PX ρ' q N) : DS X PX ρ (.If c p q pos) N := by
 with_unfolding_all
 exact fun B Fr Wx σ Hs H D0 E tk kx ko => by
  refine w_ps (ps_if pt_w pss_w pss_w) ?_
  refine h B Fr Wx σ Hs H _ E tk kx fun k ρ' Hs' H' w E' s => ?_
  cases k with
  | true =>
    rw [if_pos rfl] at w ⊢
    exact w B Fr Wx σ Hs' H' D0 E' tk (kx.up s) (ko.up s)
  | false =>
    rw [if_neg (by decide)] at w ⊢
    exact w B Fr Wx σ Hs' H' D0 E' tk (kx.up s) (ko.up s)
/-- name = e: not a slot that was lent -/
def free (ρ : Lo) (i : Nat) : Prop := ∀ ds, ρ[i]? ≠ some (some (.own true ds))
theorem ds_set (i : Nat) {x : Str} (h : DE X PX ρ e fun ρ' d => N.nx (ρ'.set i (some (.sh d)))) (hN : X.N.Nodup := by first | assumption | decide +kernel) (hi : X.N[i]? = some x := by rfl) (hx : Loc X.env.scope x := by first | exact Or.inl rfl | exact Or.inr rfl)
    (hs : swapsWith e (some (.Name x pos')) pos.line X.env = pure false := by rfl) (hf : X.fn x = true ∨ X.env.scope.names.lookup x = some .local := by first | exact .inl rfl | exact .inr rfl) : DS X PX ρ (.Assign [.Name x pos'] e pos) N := by
 with_unfolding_all
 exact fun B Fr Wx σ Hs H D0 E tk kx ko => by
  refine w_ps (ps_set hN hi hx pe_w hs hf) ?_
  refine h B Fr Wx σ Hs H _ E tk kx fun v ρ' d Hs' H' w E' s i1 => ?_
  exact ko.1 _ _ Hs' H' w (E'.set i1) s
theorem ds_setL (i : Nat) {x : Str} (h : DF X PX ρ e fun ρ' ds => N.nx (ρ'.set i (some (.own false ds)))) (hN : X.N.Nodup := by first | assumption | decide +kernel) (hi : X.N[i]? = some x := by rfl) (hx : Loc X.env.scope x := by first | exact Or.inl rfl | exact Or.inr rfl)
    (hs : swapsWith e (some (.Name x pos')) pos.line X.env = pure false := by rfl) (hf : X.fn x = true ∨ X.env.scope.names.lookup x = some .local := by first | exact .inl rfl | exact .inr rfl) : DS X PX ρ (.Assign [.Name x pos'] e pos) N := by
 with_unfolding_all
 exact fun B Fr Wx σ Hs H D0 E tk kx ko => by
  refine w_ps (ps_set hN hi hx pe_w hs hf) ?_
  refine h B Fr Wx σ Hs H _ E tk kx fun a vs ρ' ds Hs' H' w E' s h1 h2 h3 h4 h5 => ?_
  exact ko.1 _ _ Hs' H' w (E'.setOwn h1 h2 h3 h4 h5) s
/-- x.append(e), x a list of one's own -/
theorem ds_append (i : Nat) {x : Str} {apos cpos px : Pos} {b0 : Bool} {ds0 : List D} (h0 : ρ[i]? = some (some (.own b0 ds0)))
    (h : DE X PX ρ e fun ρ' d => ∃ b' ds, ρ'[i]? = some (some (.own b' ds)) ∧ ds.length < 100000 ∧ N.nx (ρ'.set i (some (.own b' (ds ++ [d])))))
    (hN : X.N[i]? = some x := by rfl) (hv : Vis X.env.scope x := by first | exact Or.inl rfl | exact Or.inr (Or.inl rfl) | exact Or.inr (Or.inr rfl)) (hd : (x == ("__debug__" : Str)) = false := by decide) (hcd : (x == ("__classdict__" : Str)) = false := by decide)
    (hbase : attributeBase (.Name x px) "append" X.env (eval (.Name x px) X.env) = eval (.Name x px) X.env := by rfl)
    (hfew : ((backTo cpos (starEach [e] X.env)).all (fun x => !x.1) && (backToKw cpos (keywordEach [] X.env)).all (fun x => x.1.isSome)
      && decide (([e] : List Expr).length + ([] : List Keyword).length + (if ([] : List Keyword).isEmpty then 0 else 1) < 30)) = true := by rfl)
    (hline : (apos.endLine == cpos.line) = true := by rfl) (hs : starEach [e] X.env = (false, eval e X.env) :: starEach [] X.env := by rfl) (hplain : (backTo cpos (starEach [] X.env)).any (·.1) = false := by rfl)
    (hsw : swapsWith (.Call (.Attribute (.Name x px) "append" apos) [e] [] cpos) none pos.line X.env = pure false := by rfl) :
    DS X PX ρ (.Expr (.Call (.Attribute (.Name x px) "append" apos) [e] [] cpos) pos) N := by
 with_unfolding_all
 exact fun B Fr Wx σ Hs H D0 E tk kx ko => by
  refine w_ps (ps_expr (pe_bm PySem.F.plainAttrs_list PySem.F.slot_list_append PySem.F.type_list_append mt_append (pe_var hN hv hd hcd) (pa_cons pe_w pa_nil hs) hbase hfew hline hs hplain) hsw) ?_
  obtain ⟨v0, e1, a, us, rfl, h1, h2, h3, _⟩ := E.sl i _ h0
  refine ⟨.ref a, e1, .inl ⟨rfl, _, .inl (.inl h1)⟩, ?_⟩
  refine h B Fr Wx σ Hs H _ E tk kx fun v ρ' d Hs' H' w E' s i1 => ?_
  obtain ⟨b', ds, k1, k2, k3⟩ := w
  obtain ⟨v1, f1, a1, vs, ea, g1, g2, g3, _⟩ := E'.sl i _ k1
  rw [e1] at f1; cases f1; cases ea
  refine ⟨a, vs, v, rfl, rfl, g1, ?_, ?_⟩
  · rw [iss_len g3]; exact Nat.lt_of_lt_of_le k2 (by decide)
  · exact ko.1 _ _ Hs' _ k3 (E'.write k1 e1 (iss_app g3 (iss_one i1))) s
/-- x[i] = e -/
theorem ds_put (j : Nat) {x : Str} {px p2 : Pos} {ie : Expr} (h : DE X PX ρ e fun ρ1 d => ∃ b0 ds0, ρ1[j]? = some (some (.own b0 ds0)) ∧ DE X PX ρ1 ie fun ρ2 i => ∃ b' ds n k, i = .int n ∧ ρ2[j]? = some (some (.own b' ds)) ∧ ixN ds.length n = some k ∧  N.nx (ρ2.set j (some (.own b' (ds.set k d)))))
    (hN : X.N[j]? = some x := by rfl) (hv : Vis X.env.scope x := by first | exact Or.inl rfl | exact Or.inr (Or.inl rfl) | exact Or.inr (Or.inr rfl)) (hd : (x == ("__debug__" : Str)) = false := by decide) (hcd : (x == ("__classdict__" : Str)) = false := by decide)
    (ha : ∀ v, assign (.Subscript (.Name x px) ie p2) X.env v = (do
      let ov ← holding [v] (eval (.Name x px) X.env)
      let iv ← holding [v, ov] (eval ie X.env)
      standAt p2
      holding [v, ov, iv] (setItem ov iv v)
      release [v, ov, iv] []) := by intro _; rfl)
    (hs : swapsWithSole [.Subscript (.Name x px) ie p2] e pos.line X.env = pure false := by rfl) (hw : swappedStores [.Subscript (.Name x px) ie p2] e X.env = pure none := by rfl)
    (h1 : (assignEach [.Subscript (.Name x px) ie p2] X.env).map (·.2) = [assign (.Subscript (.Name x px) ie p2) X.env] := by rfl) :
    DS X PX ρ (.Assign [.Subscript (.Name x px) ie p2] e pos) N := by
 with_unfolding_all
 exact fun B Fr Wx σ Hs H D0 E tk kx ko => by
  refine w_ps (ps_asg pe_w (pg_sub (pe_var hN hv hd hcd) pe_w set_list ha) hs hw h1) ?_
  refine h B Fr Wx σ Hs H _ E tk kx fun v ρ1 d Hs1 H1 w E1 s1 i1 => ?_
  obtain ⟨b0, ds0, k0, w⟩ := w
  obtain ⟨v0, e1, a, us, rfl, _⟩ := E1.sl j _ k0
  refine ⟨.ref a, e1, ?_⟩
  refine w B Fr Wx σ Hs1 H1 _ E1 tk (kx.up s1) fun iv ρ2 di Hs2 H2 w2 E2 s2 i2 => ?_
  obtain ⟨b', ds, n, k, rfl, k1, k2, k3⟩ := w2
  obtain ⟨v1, f1, a1, vs, ea, g1, g2, g3, _⟩ := E2.sl j _ k1
  rw [e1] at f1; cases f1; cases ea
  refine ⟨a, vs, n, k, rfl, is_int.mp i2, g1, by rw [iss_len g3]; exact k2, ?_⟩
  exact ko.1 _ _ Hs2 _ k3 (E2.write k1 e1 (iss_set k g3 (i1.mono s2))) (s1.trans s2)
/-- name op= e, of shared data -/
theorem ds_aug (i : Nat) {x : Str} {op : Operator} {ti : TIp} (ho : PIp X op ti) {d0 : D} (h0 : ρ[i]? = some (some (.sh d0))) (h : DH X PX ρ e fun ρ' y => ∃ d', y.get ρ' d' ∧ RK X.K ti d0 d' fun d => N.nx (ρ'.set i (some (.sh d))))
    (hN : X.N.Nodup := by first | assumption | decide +kernel) (hi : X.N[i]? = some x := by rfl) (hx : Loc X.env.scope x := by first | exact Or.inl rfl | exact Or.inr rfl) (hf : X.fn x = true ∨ X.env.scope.names.lookup x = some .local := by first | exact .inl rfl | exact .inr rfl) :
    DS X PX ρ (.AugAssign (.Name x pos') op e pos) N := by
 with_unfolding_all
 exact fun B Fr Wx σ Hs H D0 E tk kx ko => by
  refine w_ps (ps_aug hN hi hx pe_w ho hf) ?_
  obtain ⟨v0, e1, e2⟩ := E.sl i _ h0
  have e2' : Is X.K Hs d0 v0 := e2
  refine ⟨v0, e1, ?_⟩
  refine h B Fr Wx σ Hs H _ E tk kx fun v ρ' y Hs' H' w E' s i1 => ?_
  obtain ⟨d', g, r⟩ := w
  exact r B Fr ρ' σ Hs' H' v0 v _ E' (.inl (e2'.mono s)) (hn_is E' i1 g) fun z d Hs2 H2 p E2 s2 i3 => ko.1 _ _ Hs2 H2 p (E2.set i3) (s.trans s2)
/-- while, by an invariant with a measure -/
theorem ds_while {body : List Stmt} (I : Nat → Lo → Prop) (h0 : ∃ m, I m ρ) (h : ∀ m ρ, I m ρ → DT X PX ρ c fun ρ1 k => if k = true then DSs X PX ρ1 body { N with nx := fun ρ' => ∃ m', m' < m ∧ I m' ρ', ct := fun ρ' => ∃ m', m' < m ∧ I m' ρ', bk := N.nx } else N.nx ρ1)
    (hp : PassesOwn (model X.prog X.w) X.A X.env X.xe := by first | exact passes_of rfl | exact PassesOwn.never | assumption) : DS X PX ρ (.While c body [] pos) N := by
 with_unfolding_all
 exact fun B Fr Wx σ Hs H D0 E tk kx ko => by
  refine w_ps (ps_while hp pt_w pss_w) ?_
  refine ⟨fun m σ' H' => ∃ ρ' Hs', I m ρ' ∧ EnvOk X.K B Fr ρ' σ' Hs' H' ∧ Same Hs Hs', h0.imp fun m hm => ⟨ρ, Hs, hm, E, Same.refl _⟩, fun m σ1 H1 hW => ?_⟩
  obtain ⟨ρ1, Hs1, i1, E1, s1⟩ := hW
  refine h m ρ1 i1 B Fr Wx σ1 Hs1 H1 _ E1 tk (kx.up s1) fun k ρ2 Hs2 H2 w E2 s2 => ?_
  cases k with
  | true =>
    rw [if_pos rfl] at w ⊢
    refine ⟨fun σ' H' => ∃ m', m' < m ∧ ∃ ρ' Hs', I m' ρ' ∧ EnvOk X.K B Fr ρ' σ' Hs' H' ∧ Same Hs Hs', fun σ' H' hh => hh, ?_⟩
    refine w B Fr Wx σ1 Hs2 H2 _ E2 tk (kx.up (s1.trans s2)) ⟨fun ρ' σ' Hs' H' n E' s => ?_, (ko.up (s1.trans s2)).2.1, fun ρ' σ' Hs' H' n E' s => ko.1 ρ' σ' Hs' H' n E' ((s1.trans s2).trans s), fun ρ' σ' Hs' H' n E' s => ?_⟩
    · obtain ⟨m', hm, hi⟩ := n
      exact ⟨m', hm, ρ', Hs', hi, E', (s1.trans s2).trans s⟩
    · obtain ⟨m', hm, hi⟩ := n
      exact ⟨m', hm, ρ', Hs', hi, E', (s1.trans s2).trans s⟩
  | false =>
    rw [if_neg (by decide)] at w ⊢
    exact ko.1 ρ2 σ1 Hs2 H2 w E2 (s1.trans s2)
end

/-! ### a def, by its body -/
def retEnds (y : Option (List D)) (P : Option (List D) → D → Prop) : EndsD where
  nx := fun ρ => (y = none ∧ P none .non) ∨ ∃ xs, y.isSome = true ∧ ρ[0]? = some (some (.own true xs)) ∧ P (some xs) .non
  rt := fun ρ d => (y = none ∧ P none d) ∨ ∃ xs, y.isSome = true ∧ ρ[0]? = some (some (.own true xs)) ∧ P (some xs) d
def retX (y : Option (List D)) (PE : Value → Option (Str × D) → Prop) : XP := fun ρ cls fd => PE cls fd ∧ (y = none ∨ ∃ xs, y.isSome = true ∧ ρ[0]? = some (some (.own true xs)))
theorem env_start {K : PySem.W.Frag} {B : Option Addr} {Fr : Addr → HO → Prop} {ρ : Lo} {σ : L2.St} {Hs H : Hp} (E : EnvOk K B Fr ρ σ Hs H) (n : Nat) : EnvOk K B Fr (ρ ++ List.replicate n none) (σ ++ List.replicate n none) Hs H := by
  have old : ∀ (i : Nat) (s : Sl), (ρ ++ List.replicate n none)[i]? = some (some s) → i < ρ.length ∧ ρ[i]? = some (some s) := fun i s e => by
    by_cases hi : i < ρ.length
    · rw [List.getElem?_append_left hi] at e; exact ⟨hi, e⟩
    · rw [List.getElem?_append_right (by omega), List.getElem?_replicate] at e
      split at e <;> cases e
  refine ⟨E.sub, by simp [E.len], fun i s e => ?_, fun i j s s' v e1 e2 o1 o2 f1 f2 => ?_, fun q hq => ?_⟩
  · obtain ⟨hi, e⟩ := old i s e
    obtain ⟨v, h1, h2⟩ := E.sl i s e
    exact ⟨v, by rw [List.getElem?_append_left (by rw [E.len]; exact hi)]; exact h1, h2⟩
  · obtain ⟨hi, e1⟩ := old i s e1
    obtain ⟨hj, e2⟩ := old j s' e2
    rw [List.getElem?_append_left (by rw [E.len]; exact hi)] at f1
    rw [List.getElem?_append_left (by rw [E.len]; exact hj)] at f2
    exact E.dis i j s s' v e1 e2 o1 o2 f1 f2
  · obtain ⟨h1, h2, h3⟩ := E.frm q hq
    refine ⟨h1, h2, fun i s e o => ?_⟩
    obtain ⟨hi, e⟩ := old i s e
    rw [List.getElem?_append_left (by rw [E.len]; exact hi)]
    exact h3 i s e o
theorem arg_len {y : Option (List D)} {ds : List D} : (argLo y ds).length = (if y.isSome then 1 else 0) + ds.length := by
  cases y with
  | none => show (ds.map _).length = 0 + ds.length; rw [List.length_map]; omega
  | some xs => show (_ :: ds.map _).length = 1 + ds.length; rw [List.length_cons, List.length_map]; omega
section
variable {P : Program} {w : World} {K : PySem.W.Frag} {mg : Str → Option Value} {base : Heap}
theorem dfn {x qual : Str} {params : Arguments} {body : List Stmt} {scope : Scope} {dvs : List V} {kws : List (Str × V)} {f : Addr} {fd : FuncData} {N ps : List Str} {k : Nat} {S : FSpec} (F : FunD K x qual params body scope dvs kws f fd) (Sc : FnScope N ps scope)
    (hlen : ∀ y ds P' PE, S y ds P' PE → (argLo y ds).length = ps.length)
    (hbody : ∀ (cdv : Value) (A : Around) (outer : List Env) (s : Shared) (H : Hp) (E : XK), Room k (A.deeper (envOfC qual scope s.heap.objs.size f cdv)) → ∀ y ds P' PE, S y ds P' PE →
      DSs (cxOf (L2.CX P w) P w K mg base N qual scope f cdv A outer s H E) (retX y PE) (argLo y ds ++ List.replicate (N.length - ps.length) none) body (retEnds y P')) : DFn P w K mg base (k + 1) f fd ps S := by
 with_unfolding_all
  have hl : ∀ vs H Q E, spOf K S vs H Q E → vs.length = ps.length := fun vs H Q E h => by
    obtain ⟨B, Fr, y, ds, Hs, P', PE, h1, h2, _⟩ := h
    have := h2.len
    rw [List.length_map] at this
    rw [this]
    exact hlen y ds P' PE h1
  refine FunD.ok F Sc hl fun cdv A outer s H vs Q E hr hsp => ?_
  have hlv := hl vs H Q E hsp
  obtain ⟨B, Fr, y, ds, Hs, P', PE, h1, E0, q1, q2⟩ := hsp
  refine ⟨_, pss_w, ?_⟩
  have hE : (vs.map some ++ List.replicate (N.length - vs.length) none : L2.St) = start N vs := rfl
  rw [← hE, hlv]
  have same0 : ∀ {σ' : L2.St} {ρ' : Lo} {Hs' H' : Hp}, EnvOk K B Fr ρ' σ' Hs' H' → Same Hs Hs' → (y = none ∨ ∃ xs, y.isSome = true ∧ ρ'[0]? = some (some (.own true xs))) →
      ∃ y', y'.isSome = y.isSome ∧ EnvOk K B Fr (argLo y' ds) (vs.map some) Hs' H' ∧ (y = none → y' = none) ∧ ∀ xs, y.isSome = true → ρ'[0]? = some (some (.own true xs)) → y' = some xs := fun {σ' ρ' Hs' H'} E' s' hy => by
    cases y with
    | none =>
      refine ⟨none, rfl, ⟨E'.sub, E0.len, fun i sl e => ?_, fun i j s1 s2 v e1 e2 o1 o2 => ?_, fun q hq => ⟨(E'.frm q hq).1, (E'.frm q hq).2.1, fun i sl e o => ?_⟩⟩, fun _ => rfl, fun xs h => nomatch h⟩
      · obtain ⟨v, k1, k2⟩ := E0.sl i sl e
        obtain ⟨d, rfl, _⟩ := sh_get (ds := ds) e
        exact ⟨v, k1, Is.mono s' _ _ k2⟩
      · obtain ⟨d, rfl, _⟩ := sh_get (ds := ds) e1
        cases o1
      · obtain ⟨d, rfl, _⟩ := sh_get (ds := ds) e
        cases o
    | some xs0 =>
      obtain ⟨xs, _, h0⟩ : ∃ xs, (some xs0 : Option (List D)).isSome = true ∧ ρ'[0]? = some (some (.own true xs)) := by
        rcases hy with h | h
        · cases h
        · exact h
      obtain ⟨v, k1, a, us, rfl, g1, g2, g3, g4⟩ := E'.sl 0 _ h0
      have hB : B = some a := g4 rfl
      obtain ⟨v0, m1, a0, us0, ea0, n1, n2, n3, n4⟩ := E0.sl 0 (.own true xs0) rfl
      have hB0 : B = some a0 := n4 rfl
      have haa : a0 = a := by rw [hB] at hB0; exact (Option.some.inj hB0).symm
      subst haa
      refine ⟨some xs, rfl, ⟨E'.sub, E0.len, fun i sl e => ?_, fun i j s1 s2 v e1 e2 o1 o2 p1 p2 => ?_, fun q hq => ⟨(E'.frm q hq).1, (E'.frm q hq).2.1, fun i sl e o => ?_⟩⟩, (fun h => nomatch h), fun xs' _ h' => by rw [h0] at h'; cases h'; rfl⟩
      · cases i with
        | zero =>
          have e' : some (some (Sl.own true xs)) = some (some sl) := e
          cases e'
          exact ⟨v0, m1, a0, us, ea0, g1, g2, g3, fun _ => hB⟩
        | succ i =>
          obtain ⟨v, k1, k2⟩ := E0.sl (i + 1) sl e
          obtain ⟨d, rfl, _⟩ := sh_get (ds := ds) (i := i) e
          exact ⟨v, k1, Is.mono s' _ _ k2⟩
      · have z : ∀ (j : Nat) (s : Sl), (argLo (some xs) ds)[j]? = some (some s) → s.isOwn = true → j = 0 := fun j s e o => by
          cases j with
          | zero => rfl
          | succ j =>
            obtain ⟨d, rfl, hd⟩ := sh_get (i := j) (ds := ds) e
            cases o
        rw [z i s1 e1 o1, z j s2 e2 o2]
      · cases i with
        | zero => exact (E0.frm q hq).2.2 0 (.own true xs0) rfl rfl
        | succ i =>
          obtain ⟨d, rfl, _⟩ := sh_get (ds := ds) (i := i) e
          cases o
  refine hbody cdv A outer s H E hr y ds P' PE h1 B Fr (fun cls d _ H => E cls d H) _ Hs H _ (env_start E0 _) (takes_of rfl rfl rfl rfl) ?_ ⟨fun ρ' σ' Hs' H' n E' s' => ?_, fun ρ' σ' d v Hs' H' n E' s' i => ?_, fun _ _ _ _ n => n.elim, fun _ _ _ _ n => n.elim⟩
  · intro cls d fd ρ' σ' Hs' H' p E' s' fo
    obtain ⟨p1, p2⟩ := p
    obtain ⟨y', c1, c2, c3, c4⟩ := same0 E' s' p2
    exact q2 cls d fd y' Hs' H' p1 c1 c2 s' fo
  · rcases n with ⟨hy, hp⟩ | ⟨xs, hy, h0, hp⟩
    · obtain ⟨y', c1, c2, c3, c4⟩ := same0 E' s' (.inl hy)
      rw [c3 hy] at c1 c2
      exact q1 none .non .non Hs' H' hp c1 c2 s' (is_non.mpr rfl)
    · obtain ⟨y', c1, c2, c3, c4⟩ := same0 E' s' (.inr ⟨xs, hy, h0⟩)
      rw [c4 xs hy h0] at c1 c2
      exact q1 (some xs) .non .non Hs' H' hp c1 c2 s' (is_non.mpr rfl)
  · rcases n with ⟨hy, hp⟩ | ⟨xs, hy, h0, hp⟩
    · obtain ⟨y', c1, c2, c3, c4⟩ := same0 E' s' (.inl hy)
      rw [c3 hy] at c1 c2
      exact q1 none d v Hs' H' hp c1 c2 s' i
    · obtain ⟨y', c1, c2, c3, c4⟩ := same0 E' s' (.inr ⟨xs, hy, h0⟩)
      rw [c4 xs hy h0] at c1 c2
      exact q1 (some xs) d v Hs' H' hp c1 c2 s' i
end
end DL
namespace DL
open PySem PySem.Spec PyProof.Rows L2

/-! ### what is walked -/
/-- J walks the items xs -/
def ItOk (K : PySem.W.Frag) (J : It) (Hs0 : Hp) (xs : List D) : Prop :=
  ∀ (B : Option Addr) (Fr : Addr → HO → Prop) (ρ : Lo) (σ : L2.St) (Hs H : Hp) (i : Nat), EnvOk K B Fr ρ σ Hs H → Same Hs0 Hs →
    (∀ d, xs[i]? = some d → J.go i H ∧ ∀ x H', J.yld i H x H' → ∃ Hs', EnvOk K B Fr ρ σ Hs' H' ∧ Same Hs Hs' ∧ Is K Hs' d x) ∧ (xs.length ≤ i → J.stop i H)
@[irreducible] def DI (X : Cx) (PX : XP) (ρ : Lo) (tg it : Expr) (W : Lo → List D → Prop) : Prop :=
  ∀ (B : Option Addr) (Fr : Addr → HO → Prop) (Wx : WX) (σ : L2.St) (Hs H : Hp) (R : It → Hp → Prop), EnvOk X.K B Fr ρ σ Hs H → Takes X Wx → KX X.K B Fr Hs PX Wx →
    (∀ J ρ' xs Hs' H', W ρ' xs → EnvOk X.K B Fr ρ' σ Hs' H' → Same Hs Hs' → ItOk X.K J Hs' xs → R J H') → wI X tg it σ H R
/-- a target stored; vs: the slots that it may store -/
@[irreducible] def DG (X : Cx) (vs : List Nat) (ρ : Lo) (tg : Expr) (d : D) (N : Lo → Prop) : Prop :=
  ∀ (B : Option Addr) (Fr : Addr → HO → Prop) (σ : L2.St) (Hs H : Hp) (v : V) (Q : L2.St → Hp → Prop), EnvOk X.K B Fr ρ σ Hs H → Is X.K Hs d v →
    (∀ ρ' σ' Hs' H', N ρ' → EnvOk X.K B Fr ρ' σ' Hs' H' → Same Hs Hs' → wipe σ' vs = wipe σ vs → Q σ' H') → wG X tg v σ H Q
theorem dg_use {X : Cx} {vs : List Nat} {ρ : Lo} {tg : Expr} {d : D} {N : Lo → Prop} (h : DG X vs ρ tg d N) (B : Option Addr) (Fr : Addr → HO → Prop) (σ : L2.St) (Hs H : Hp) (v : V) (Q : L2.St → Hp → Prop) (E : EnvOk X.K B Fr ρ σ Hs H) (i : Is X.K Hs d v)
    (q : ∀ ρ' σ' Hs' H', N ρ' → EnvOk X.K B Fr ρ' σ' Hs' H' → Same Hs Hs' → wipe σ' vs = wipe σ vs → Q σ' H') : wG X tg v σ H Q := by
 with_unfolding_all
 exact h B Fr σ Hs H v Q E i q
theorem wipe_set {σ : L2.St} {i : Nat} {x : Option V} : ∀ {vs : List Nat}, i ∈ vs → wipe (σ.set i x) vs = wipe σ vs
  | [], h => nomatch h
  | v :: vs, h => by
    unfold wipe
    by_cases hv : i ∈ vs
    · rw [wipe_set hv]
    · have e : i = v := by
        rcases List.mem_cons.mp h with e | e
        · exact e
        · exact absurd e hv
      subst e
      have out : ∀ {ws : List Nat}, i ∉ ws → wipe (σ.set i x) ws = (wipe σ ws).set i x := by
        intro ws
        induction ws with
        | nil => intro _; rfl
        | cons w ws ih =>
          intro hw
          unfold wipe
          rw [ih fun z => hw (List.mem_cons_of_mem _ z), List.set_comm _ _ (fun e => hw (by rw [e]; exact List.mem_cons_self))]
      rw [out hv, List.set_set]
theorem wipe_idem {σ : L2.St} {vs : List Nat} : ∀ {ws : List Nat}, (∀ i ∈ ws, i ∈ vs) → wipe (wipe σ vs) ws = wipe σ vs
  | [], _ => rfl
  | w :: ws, hw => by
    show (wipe (wipe σ vs) ws).set w none = wipe σ vs
    rw [wipe_idem fun i hi => hw i (List.mem_cons_of_mem _ hi)]
    apply List.ext_getElem?
    intro j
    by_cases hj : w = j
    · subst hj
      by_cases hlt : w < (wipe σ vs).length
      · rw [List.getElem?_set_self hlt]
        cases hq : (wipe σ vs)[w]? with
        | none => exact absurd (List.getElem?_eq_none_iff.mp hq) (by omega)
        | some u =>
          cases u with
          | none => rfl
          | some u => exact absurd (hw w List.mem_cons_self) (wipe_some hq).2
      · rw [List.getElem?_eq_none (by simpa using hlt), List.getElem?_eq_none (by simpa using hlt)]
    · rw [List.getElem?_set_ne hj]
def wipeL (ρ : Lo) : List Nat → Lo
  | [] => ρ
  | v :: vs => (wipeL ρ vs).set v none
theorem wipeL_length (ρ : Lo) : ∀ vs : List Nat, (wipeL ρ vs).length = ρ.length
  | [] => rfl
  | v :: vs => by unfold wipeL; rw [List.length_set, wipeL_length ρ vs]
theorem wipeL_some {ρ : Lo} {i : Nat} {x : Sl} : ∀ {vs : List Nat}, (wipeL ρ vs)[i]? = some (some x) → ρ[i]? = some (some x) ∧ i ∉ vs
  | [], h => ⟨h, by simp⟩
  | v :: vs, h => by
    unfold wipeL at h
    by_cases hi : v = i
    · subst hi
      by_cases hv : v < (wipeL ρ vs).length
      · rw [List.getElem?_set_self hv] at h; cases h
      · rw [List.getElem?_eq_none (by simpa using hv)] at h; cases h
    · rw [List.getElem?_set_ne hi] at h
      obtain ⟨h1, h2⟩ := wipeL_some h
      exact ⟨h1, by simp only [List.mem_cons, not_or]; exact ⟨fun e => hi e.symm, h2⟩⟩
theorem wipe_out' {σ : L2.St} {i : Nat} : ∀ {vs : List Nat}, i ∉ vs → (wipe σ vs)[i]? = σ[i]?
  | [], _ => rfl
  | v :: vs, h => by
    unfold wipe
    rw [List.getElem?_set_ne (fun e => h (by rw [e]; exact List.mem_cons_self)), wipe_out' fun z => h (List.mem_cons_of_mem _ z)]
section
variable {K : PySem.W.Frag} {B : Option Addr} {Fr : Addr → HO → Prop} {ρ : Lo} {σ σ' : L2.St} {Hs H Hs' H' : Hp} {vs : List Nat}
/-- the same outside vs -/
theorem EnvOk.moved (E : EnvOk K B Fr ρ σ Hs H) (hl : σ'.length = σ.length) (h : ∀ i, i ∉ vs → σ'[i]? = σ[i]?) : EnvOk K B Fr (wipeL ρ vs) σ' Hs H := by
  refine ⟨E.sub, by rw [hl, E.len, wipeL_length], fun i s e => ?_, fun i j s s' v e1 e2 o1 o2 f1 f2 => ?_, fun q hq => ?_⟩
  · obtain ⟨e, hv⟩ := wipeL_some e
    obtain ⟨v, h1, h2⟩ := E.sl i s e
    exact ⟨v, by rw [h i hv]; exact h1, h2⟩
  · obtain ⟨e1, hv1⟩ := wipeL_some e1
    obtain ⟨e2, hv2⟩ := wipeL_some e2
    rw [h i hv1] at f1
    rw [h j hv2] at f2
    exact E.dis i j s s' v e1 e2 o1 o2 f1 f2
  · obtain ⟨h1, h2, h3⟩ := E.frm q hq
    refine ⟨h1, h2, fun i s e o => ?_⟩
    obtain ⟨e, hv⟩ := wipeL_some e
    rw [h i hv]
    exact h3 i s e o
theorem EnvOk.wiped (E : EnvOk K B Fr ρ σ Hs H) : EnvOk K B Fr (wipeL ρ vs) (wipe σ vs) Hs H := E.moved (wipe_length _ _) fun i hi => wipe_out' hi
theorem EnvOk.wipedTo (E : EnvOk K B Fr ρ σ' Hs H) (e : wipe σ' vs = wipe σ vs) : EnvOk K B Fr (wipeL ρ vs) (wipe σ vs) Hs H := by rw [← e]; exact E.wiped
def addFr (Fr : Addr → HO → Prop) (D0 : Addr) (o : HO) : Addr → HO → Prop := fun a u => Fr a u ∨ (a = D0 ∧ u = o)
theorem EnvOk.addFr (E : EnvOk K B Fr ρ σ Hs H) {p : Addr} {o : HO} (hp : H p = some o) (hps : Hs p = none) (h1 : ∀ (i : Nat) (s : Sl), ρ[i]? = some (some s) → s.isOwn = true → σ[i]? ≠ some (some (.ref p))) : EnvOk K B (addFr Fr p o) ρ σ Hs H := by
  refine ⟨E.sub, E.len, E.sl, E.dis, fun q hq => ?_⟩
  rcases hq with hq | ⟨e1, e2⟩
  · exact E.frm q hq
  · obtain ⟨q1, q2⟩ := q
    cases e1; cases e2
    exact ⟨hp, hps, h1⟩
theorem EnvOk.subFr (E : EnvOk K B Fr ρ σ Hs H) {Fr' : Addr → HO → Prop} (h : ∀ a o, Fr' a o → Fr a o) : EnvOk K B Fr' ρ σ Hs H := ⟨E.sub, E.len, E.sl, E.dis, fun q hq => E.frm q (h _ _ hq)⟩
/-- the framed object at p is changed -/
theorem EnvOk.turnFr {p : Addr} {o o' : HO} (E : EnvOk K B (DL.addFr Fr p o) ρ σ Hs H) (hp : ∀ q : Addr × HO, Fr q.1 q.2 → q.1 ≠ p) : EnvOk K B (DL.addFr Fr p o') ρ σ Hs (upd H p o') := by
  obtain ⟨g1, g2, g3⟩ := E.frm (p, o) (.inr ⟨rfl, rfl⟩)
  refine ⟨fun a u e => ?_, E.len, fun i s e => ?_, E.dis, fun q hq => ?_⟩
  · have hne : a ≠ p := fun z => by subst z; rw [g2] at e; cases e
    rw [upd_ne hne]; exact E.sub _ _ e
  · obtain ⟨v, k1, k2⟩ := E.sl i s e
    refine ⟨v, k1, k2.mono (Same.refl _) fun a vs ho ev k3 k4 => ?_⟩
    have hne : a ≠ p := fun z => g3 i s e ho (by rw [k1, ev, z])
    rw [upd_ne hne]
    exact ⟨k3, k4⟩
  · rcases hq with hq | ⟨e1, e2⟩
    · obtain ⟨k1, k2, k3⟩ := E.frm q (.inl hq)
      rw [upd_ne (hp q hq)]
      exact ⟨k1, k2, k3⟩
    · obtain ⟨q1, q2⟩ := q
      cases e1; cases e2
      exact ⟨upd_same, g2, g3⟩
end
section
variable {X : Cx} {PX : XP} {ρ : Lo} {e tg it : Expr} {es : List Expr} {pos : Pos} {d : D} {N : Lo → Prop} {vs : List Nat}
theorem dg_name (i : Nat) {x : Str} (k : N (ρ.set i (some (.sh d)))) (hi : X.N[i]? = some x := by rfl) (hN : X.N.Nodup := by first | assumption | decide +kernel) (hx : Loc X.env.scope x := by first | exact Or.inl rfl | exact Or.inr rfl) (hm : i ∈ vs := by decide)
    (hf : X.fn x = true ∨ X.env.scope.names.lookup x = some .local := by first | exact .inl rfl | exact .inr rfl) : DG X vs ρ (.Name x pos) d N := by
 with_unfolding_all
 exact fun B Fr σ Hs H v Q E i1 q =>
  w_pg (pg_name hN hi hx hf) (q _ _ Hs H k (E.set i1) (Same.refl _) (wipe_set hm))
def DGs (X : Cx) (vs : List Nat) (ρ : Lo) (ts : List Expr) (ds : List D) (N : Lo → Prop) : Prop := match ts, ds with
  | [], [] => N ρ
  | t :: ts, d :: ds => (assignEach (t :: ts) X.env).map (·.2) = assign t X.env :: (assignEach ts X.env).map (·.2) ∧ DG X vs ρ t d fun ρ' => DGs X vs ρ' ts ds N
  | _, _ => False
theorem dgs_w : ∀ {es : List Expr} {ds : List D} {ρ : Lo}, DGs X vs ρ es ds N →
    ∀ (B : Option Addr) (Fr : Addr → HO → Prop) (σ : L2.St) (Hs H : Hp) (us : List V) (Q : L2.St → Hp → Prop), EnvOk X.K B Fr ρ σ Hs H → Iss X.K Hs ds us →
    (∀ ρ' σ' Hs' H', N ρ' → EnvOk X.K B Fr ρ' σ' Hs' H' → Same Hs Hs' → wipe σ' vs = wipe σ vs → Q σ' H') → ∃ t : TGs, PGs X es t ∧ t us σ H Q
  | [], [], ρ, h, B, Fr, σ, Hs, H, us, Q, E, i, q => ⟨gNil, pgs_nil, iss_nil.mp i, q ρ σ Hs H h E (Same.refl _) rfl⟩
  | [], _ :: _, ρ, h, B, Fr, σ, Hs, H, us, Q, E, i, q => h.elim
  | _ :: _, [], ρ, h, B, Fr, σ, Hs, H, us, Q, E, i, q => h.elim
  | e :: es, d :: ds, ρ, ⟨ha, h⟩, B, Fr, σ, Hs, H, us, Q, E, i, q => by
    obtain ⟨v, r, rfl, i1, i2⟩ := iss_cons.mp i
    refine ⟨gCons (wG X e) (fun us σ H Q => ∃ t : TGs, PGs X es t ∧ t us σ H Q), pgs_cons pg_w ⟨fun pins s σ H vs us Q I r hh => ?_⟩ ha, v, r, rfl, ?_⟩
    · obtain ⟨t, h1, h2⟩ := hh
      exact h1.run pins s σ H vs us Q I r h2
    · have h' : DG X vs ρ e d fun ρ' => DGs X vs ρ' es ds N := h
      refine dg_use h' B Fr σ Hs H v _ E i1 fun ρ' σ' Hs' H' n E' s' e' => ?_
      exact dgs_w n B Fr σ' Hs' H' r Q E' (Iss.mono s' _ _ i2) fun ρ2 σ2 Hs2 H2 n2 E2 s2 e2 => q ρ2 σ2 Hs2 H2 n2 E2 (s'.trans s2) (e2.trans e')
theorem dg_tup {k : Nat} {ds : List D} (hd : d = .tup ds) (h : DGs X vs ρ es ds N) (hc : X.calm = true := by rfl) (hn : (assignEach es X.env).length = ds.length := by rfl) (hst : (assignEach es X.env).findIdx? (·.1) = none := by rfl) : DG X vs ρ (.Tuple es k pos) d N := by
 with_unfolding_all
 exact fun B Fr σ Hs H v Q E i1 q => by
  subst hd
  obtain ⟨a, us, rfl, h1, h2⟩ := is_tup.mp i1
  obtain ⟨t, ht, hq⟩ := dgs_w h B Fr σ Hs H us Q E h2 q
  exact w_pg (pg_tup hc ht hn hst) ⟨a, us, rfl, sqt_mono E.sub h1, iss_len h2, hq⟩

theorem ds_for {N : EndsD} {body : List Stmt} (vs : List Nat) (h : DI X PX ρ tg it fun ρ1 xs => ∃ I : Nat → Lo → Prop, I 0 ρ1 ∧
      (∀ i ρ2 d, xs[i]? = some d → I i ρ2 → DG X vs ρ2 tg d fun ρ3 => DSs X PX ρ3 body { N with nx := I (i + 1), ct := I (i + 1), bk := N.nx }) ∧ (∀ ρ2, I xs.length ρ2 → N.nx ρ2)) (hc : X.calm = true := by rfl)
    (hp : PassesOwn (model X.prog X.w) X.A X.env X.xe := by first | exact passes_of rfl | exact PassesOwn.never | assumption) (hs : ∀ x, foldedSetIterable it X.env x = pure x := by intro _; rfl) : DS X PX ρ (.For tg it body [] pos) N := by
 with_unfolding_all
 exact fun B Fr Wx σ Hs H D0 E tk kx ko => by
  refine w_ps (ps_for hp hc pi_w pg_w pss_w hs) ?_
  refine h B Fr Wx σ Hs H _ E tk kx fun J ρ1 xs Hs1 H1 w E1 s1 hJ => ?_
  obtain ⟨I, i0, step, fin⟩ := w
  refine ⟨fun i m σ' H' => m = xs.length - i ∧ i ≤ xs.length ∧ ∃ ρ' Hs', I i ρ' ∧ EnvOk X.K B Fr ρ' σ' Hs' H' ∧ Same Hs1 Hs', ⟨xs.length, by simp, Nat.zero_le _, ρ1, Hs1, i0, E1, Same.refl _⟩, ?_⟩
  rintro i m σ2 H2 ⟨rfl, hi, ρ2, Hs2, ii, E2, s2⟩
  obtain ⟨g1, g2⟩ := hJ B Fr ρ2 σ2 Hs2 H2 i E2 s2
  by_cases hlt : i < xs.length
  · have hx : xs[i]? = some xs[i] := List.getElem?_eq_getElem hlt
    obtain ⟨go, yl⟩ := g1 _ hx
    refine .inr ⟨go, fun σ' H' => i + 1 ≤ xs.length ∧ ∃ ρ' Hs', I (i + 1) ρ' ∧ EnvOk X.K B Fr ρ' σ' Hs' H' ∧ Same Hs1 Hs', fun σ' H' hh => ⟨xs.length - (i + 1), by omega, rfl, hh⟩, fun x H3 hy => ?_⟩
    obtain ⟨Hs3, E3, s3, i3⟩ := yl x H3 hy
    refine step i ρ2 _ hx ii B Fr σ2 Hs3 H3 x _ E3 i3 fun ρ4 σ4 Hs4 H4 n4 E4 s4 _ => ?_
    have s14 : Same Hs Hs4 := ((s1.trans s2).trans s3).trans s4
    have s04 : Same Hs1 Hs4 := (s2.trans s3).trans s4
    exact n4 B Fr Wx σ4 Hs4 H4 _ E4 tk (kx.up s14) ⟨fun ρ' σ' Hs' H' n E' s => ⟨hlt, ρ', Hs', n, E', s04.trans s⟩, (ko.up s14).2.1, fun ρ' σ' Hs' H' n E' s => ko.1 ρ' σ' Hs' H' n E' (s14.trans s), fun ρ' σ' Hs' H' n E' s => ⟨hlt, ρ', Hs', n, E', s04.trans s⟩⟩
  · have e : i = xs.length := by omega
    subst e
    exact .inl ⟨g2 (Nat.le_refl _), ko.1 ρ2 σ2 Hs2 H2 (fin ρ2 ii) E2 (s1.trans s2)⟩

/-! ### list comprehensions -/
def DTs (X : Cx) (ρ : Lo) (ifs : List Expr) (W : Lo → Bool → Prop) : Prop := match ifs with
  | [] => W ρ true
  | [c] => DT X NoX ρ c W
  | _ => False
/-- a block of X -/
structure Bk where
  s : Shared
  H : Hp
  C : Addr
  cl : List (Str × Addr)
  fp : List Addr
abbrev blkOf (X : Cx) (scope : Scope) (b : Bk) : Cx := X.blk b.s b.H scope (compEnvC scope b.cl b.C X.env) b.fp
def gAll (X : Cx) (scope : Scope) (tg : Expr) : TG := fun v σ H Q => ∀ b, wG (blkOf X scope b) tg v σ H Q
def eAll (X : Cx) (scope : Scope) (e : Expr) : TE := fun σ H Q => ∀ b, wE (blkOf X scope b) e σ H Q
def tAll (X : Cx) (scope : Scope) (ifs : List Expr) : TT := fun σ H Q => ∀ b, ∃ t, PTs (blkOf X scope b) ifs t ∧ t σ H Q
theorem pg_all {scope : Scope} (s : Shared) (H : Hp) (C : Addr) (cl : List (Str × Addr)) (fp : List Addr) : PG (X.blk s H scope (compEnvC scope cl C X.env) fp) tg (gAll X scope tg) := ⟨fun pins s' σ H' v u Q I r h => h ⟨s, H, C, cl, fp⟩ pins s' u I r⟩
theorem pe_all {scope : Scope} (s : Shared) (H : Hp) (C : Addr) (cl : List (Str × Addr)) (fp : List Addr) : PE (X.blk s H scope (compEnvC scope cl C X.env) fp) e (eAll X scope e) := ⟨fun pins s' σ H' Q I h => h ⟨s, H, C, cl, fp⟩ pins s' I⟩
theorem pts_all {scope : Scope} {ifs : List Expr} (s : Shared) (H : Hp) (C : Addr) (cl : List (Str × Addr)) (fp : List Addr) : PTs (X.blk s H scope (compEnvC scope cl C X.env) fp) ifs (tAll X scope ifs) := ⟨fun pins s' σ H' Q I h => by
  obtain ⟨t, h1, h2⟩ := h ⟨s, H, C, cl, fp⟩
  exact h1.run pins s' σ H' Q I h2⟩
theorem dts_w {X' : Cx} {ifs : List Expr} {WT : Lo → Bool → Prop} (h : DTs X' ρ ifs WT) {B : Option Addr} {Fr : Addr → HO → Prop} {σ : L2.St} {Hs H : Hp} {Q : Bool → Hp → Prop} (E : EnvOk X'.K B Fr ρ σ Hs H)
    (q : ∀ b ρ' Hs' H', WT ρ' b → EnvOk X'.K B Fr ρ' σ Hs' H' → Same Hs Hs' → Q b H') : ∃ t, PTs X' ifs t ∧ t σ H Q := by
 with_unfolding_all
  match ifs, h with
  | [], h => exact ⟨tYes, pts_nil, q true ρ Hs H h E (Same.refl _)⟩
  | [c], h => exact ⟨_, pts_one pt_w, h B Fr (fun _ _ _ _ => False) σ Hs H Q E takes0 KX.no q⟩
  | _ :: _ :: _, h => exact h.elim
/-- what a comprehension asks: the invariant over the turn, the locals, what is made so far -/
def CompD (X : Cx) (scope : Scope) (vs : List Nat) (tg elt : Expr) (ifs : List Expr) (ρ1 : Lo) (xs : List D) (W : Lo → List D → Prop) : Prop :=
  ∃ I : Nat → Lo → List D → Prop, I 0 (wipeL ρ1 vs) [] ∧
    (∀ i ρ2 acc d, xs[i]? = some d → I i ρ2 acc → ∀ b, DG (blkOf X scope b) vs ρ2 tg d fun ρ3 => ∀ b, DTs (blkOf X scope b) ρ3 ifs fun ρ4 k =>
      if k = true then ∀ b, DE (blkOf X scope b) NoX ρ4 elt fun ρ5 y => acc.length < 100000 ∧ I (i + 1) (wipeL ρ5 vs) (acc ++ [y]) else I (i + 1) (wipeL ρ4 vs) acc) ∧
    (∀ ρ2 acc, I xs.length ρ2 acc → W (wipeL ρ2 vs) acc)
theorem lc_data {scope : Scope} {vs : List Nat} {elt : Expr} {ifs : List Expr} {W : Lo → List D → Prop} (h : DI X PX ρ tg it fun ρ1 xs => CompD X scope vs tg elt ifs ρ1 xs W)
    {B : Option Addr} {Fr : Addr → HO → Prop} {Wx : WX} {σ : L2.St} {Hs H : Hp} {Q : VK} (E : EnvOk X.K B Fr ρ σ Hs H) (tk : Takes X Wx) (kx : KX X.K B Fr Hs PX Wx)
    (q : ∀ a us ρ' ds Hs' H', W ρ' ds → EnvOk X.K B Fr ρ' σ Hs' H' → Same Hs Hs' → H' a = some (.lst us) → Hs' a = none → Iss X.K Hs' ds us →
      (∀ (i : Nat) (s : Sl), ρ'[i]? = some (some s) → s.isOwn = true → σ[i]? ≠ some (some (.ref a))) → (∀ q : Addr × HO, Fr q.1 q.2 → q.1 ≠ a) → Q (.ref a) H') :
    tLc (wI X tg it) (gAll X scope tg) (tAll X scope ifs) (eAll X scope elt) vs σ H Q := by
 with_unfolding_all
  refine h B Fr Wx σ Hs H _ E tk kx fun J ρ1 xs Hs1 H1 w E1 s1 hJ => ?_
  intro L hL
  obtain ⟨I, i0, step, fin⟩ := w
  obtain ⟨EL, hLs⟩ := E1.allocOwn (o := .lst []) hL
  obtain ⟨f1, f2⟩ := new_facts E1 hL
  have E2 : EnvOk X.K B (addFr Fr L (.lst [])) (wipeL ρ1 vs) (wipe σ vs) Hs1 (upd H1 L (.lst [])) := (EL.addFr upd_same hLs f1).wiped
  refine ⟨fun i m H' => m = xs.length - i ∧ i ≤ xs.length ∧ ∃ ρ' acc accv Hs', I i ρ' acc ∧ EnvOk X.K B (addFr Fr L (.lst accv)) ρ' (wipe σ vs) Hs' H' ∧ Same Hs1 Hs' ∧ Iss X.K Hs' acc accv,
    ⟨xs.length, by simp, Nat.zero_le _, _, [], [], Hs1, i0, E2, Same.refl _, iss_nil.mpr rfl⟩, ?_⟩
  rintro i m H2 ⟨rfl, hi, ρ2, acc, accv, Hs2, ii, E2, s2, ia⟩
  obtain ⟨g1, g2⟩ := hJ B _ ρ2 (wipe σ vs) Hs2 H2 i E2 s2
  by_cases hlt : i < xs.length
  · have hx : xs[i]? = some xs[i] := List.getElem?_eq_getElem hlt
    obtain ⟨go, yl⟩ := g1 _ hx
    refine .inr ⟨go, fun H' => i + 1 ≤ xs.length ∧ ∃ ρ' acc accv Hs', I (i + 1) ρ' acc ∧ EnvOk X.K B (addFr Fr L (.lst accv)) ρ' (wipe σ vs) Hs' H' ∧ Same Hs1 Hs' ∧ Iss X.K Hs' acc accv, fun H' hh => ⟨xs.length - (i + 1), by omega, rfl, hh⟩, fun x H3 hy => ?_⟩
    obtain ⟨Hs3, E3, s3, i3⟩ := yl x H3 hy
    intro b0
    refine step i ρ2 acc _ hx ii b0 B _ (wipe σ vs) Hs3 H3 x _ E3 i3 fun ρ4 σ4 Hs4 H4 n4 E4 s4 e4 => ?_
    have ew : wipe σ4 vs = wipe σ vs := by
      rw [e4]
      exact wipe_idem fun _ h => h
    refine ⟨ew, fun b1 => ?_⟩
    refine dts_w (n4 b1) E4 fun k ρ5 Hs5 H5 n5 E5 s5 => ?_
    have s15 : Same Hs1 Hs5 := ((s2.trans s3).trans s4).trans s5
    cases k with
    | true =>
      rw [if_pos rfl] at n5 ⊢
      intro b2
      refine n5 b2 B _ (fun _ _ _ _ => False) σ4 Hs5 H5 _ E5 takes0 KX.no fun y ρ6 d6 Hs6 H6 n6 E6 s6 i6 => ?_
      obtain ⟨k1, k2, k3⟩ := E6.frm (L, .lst accv) (.inr ⟨rfl, rfl⟩)
      have ia6 : Iss X.K Hs6 acc accv := Iss.mono (((s3.trans s4).trans s5).trans s6) _ _ ia
      refine ⟨accv, k1, ?_, hlt, _, acc ++ [d6], accv ++ [y], Hs6, n6.2, ?_, s15.trans s6, iss_app ia6 (iss_one i6)⟩
      · rw [iss_len ia6]
        exact Nat.lt_of_lt_of_le n6.1 (by decide)
      · exact (E6.wipedTo ew).turnFr f2
    | false =>
      rw [if_neg (by decide)] at n5 ⊢
      exact ⟨hlt, _, acc, accv, Hs5, n5, E5.wipedTo ew, s15, Iss.mono ((s3.trans s4).trans s5) _ _ ia⟩
  · have e : i = xs.length := by omega
    subst e
    refine .inl ⟨g2 (Nat.le_refl _), ?_⟩
    obtain ⟨k1, k2, k3⟩ := E2.frm (L, .lst accv) (.inr ⟨rfl, rfl⟩)
    have E3 : EnvOk X.K B Fr (wipeL ρ2 vs) σ Hs2 H2 := (E2.subFr fun a o h => Or.inl h).moved (wipe_length σ vs).symm fun i hi => (wipe_out' hi).symm
    refine q L accv _ acc Hs2 H2 (fin ρ2 acc ii) E3 (s1.trans s2) k1 k2 ia (fun i s e o => ?_) f2
    obtain ⟨e, hv⟩ := wipeL_some e
    have := k3 i s e o
    rw [wipe_out' hv] at this
    exact this
theorem df_lc {scope : Scope} (own : List (Str × Nat)) {elt : Expr} {ifs : List Expr} {W : Lo → List D → Prop} (h : DI X PX ρ tg it fun ρ1 xs => CompD X scope (own.map (·.2)) tg elt ifs ρ1 xs W)
    (ok : BlkOk X.N X.env.scope scope own) (hc : X.calm = true := by rfl) (hN : X.N.Nodup := by first | assumption | decide +kernel) (hs : ∀ x, foldedSetIterable it X.env x = pure x := by intro _; rfl) : DF X PX ρ (.ListComp elt [⟨tg, it, ifs, 0⟩] scope pos) W := by
 with_unfolding_all
 exact fun B Fr Wx σ Hs H Q E tk kx q =>
  w_pe (pe_lc hc hN pi_w ok pg_all pts_all pe_all hs) (lc_data h E tk kx q)
theorem ds_setLc (i : Nat) {y : Str} {py spos : Pos} {scope : Scope} (own : List (Str × Nat)) {elt : Expr} {ifs : List Expr} {N : EndsD} (h : DI X PX ρ tg it fun ρ1 xs => CompD X scope (own.map (·.2)) tg elt ifs ρ1 xs fun ρ' ds => N.nx (ρ'.set i (some (.own false ds))))
    (ok : BlkOk X.N X.env.scope scope own) (hsw : swapsWith (.ListComp elt [⟨tg, it, ifs, 0⟩] scope pos) (some (.Name y py)) spos.line X.env = pure true) (hc : X.calm = true := by rfl) (hN : X.N.Nodup := by first | assumption | decide +kernel) (hy : X.N[i]? = some y := by rfl) (hyl : X.env.scope.names.lookup y = some .local := by rfl)
    (hs : ∀ x, foldedSetIterable it X.env x = pure x := by intro _; rfl) : DS X PX ρ (.Assign [.Name y py] (.ListComp elt [⟨tg, it, ifs, 0⟩] scope pos) spos) N := by
 with_unfolding_all
 exact fun B Fr Wx σ Hs H D0 E tk kx ko =>
  w_ps (ps_setLc hc hN hy hyl hsw pi_w ok pg_all pts_all pe_all hs) (lc_data h E tk kx fun a us ρ' ds Hs' H' w E' s h1 h2 h3 h4 h5 => ko.1 _ _ Hs' H' w (E'.setOwn h1 h2 h3 h4 h5) s)
end
end DL
namespace DL
open PySem PySem.Spec PyProof.Rows L2
theorem tx_app (a b : List Nat) : tx a ++ tx b = tx (a ++ b) := by
  show Str.append (tx a) (tx b) = _
  unfold Str.append tx
  congr 1
  simp
theorem tx_len (a : List Nat) : (tx a).length = a.length := by
  unfold Str.length tx
  simp
theorem tx_list (a : List Nat) : (tx a).cps.toList = a := by simp [tx]
theorem tx_inj {a b : List Nat} : tx a = tx b ↔ a = b := by
  constructor
  · intro h
    have := congrArg (fun s : Str => s.cps.toList) h
    simpa [tx] using this
  · rintro rfl; rfl
theorem sz {n : Nat} (h : n ≤ 100000) : n ≤ sizeLine := Nat.le_trans h (by decide)

section
variable {K : PySem.W.Frag} {P : D → Prop} {X : Cx}
/-! ### + -/
def rAddAll (K : PySem.W.Frag) : R2 := fun x y H Q => ((rI0 fun i j => .int (i + j)) x y H Q) ∨ ((fun x y (H : Hp) (Q : VK) => ∃ i j, x = .str i ∧ y = .str j ∧ i.length + j.length ≤ sizeLine ∧ Q (.str (i ++ j)) H) x y H Q ∨ (rCat x y H Q ∨ rCatA K x y H Q))
theorem op_addAll : OpR X (binaryOp .Add) (rAddAll X.K) := OpR.or op_add (OpR.or op_add_str (OpR.or op_cat op_catA))
theorem rk_add_int {i j : Int} (k : P (.int (i + j))) : RK K (rAddAll K) (.int i) (.int j) P := by
 with_unfolding_all
 exact fun B Fr ρ σ Hs H u v Q E h1 h2 q =>
  .inl ⟨i, j, ish_int h1, ish_int h2, q _ _ Hs H k E (Same.refl _) (is_int.mpr rfl)⟩
theorem rk_add_str {a b : List Nat} (h : a.length + b.length ≤ 100000) (k : P (.str (a ++ b))) : RK K (rAddAll K) (.str a) (.str b) P := by
 with_unfolding_all
 exact fun B Fr ρ σ Hs H u v Q E h1 h2 q =>
  .inr (.inl ⟨tx a, tx b, ish_str h1, ish_str h2, by rw [tx_len, tx_len]; exact sz h, by rw [tx_app]; exact q _ _ Hs H k E (Same.refl _) (is_str.mpr rfl)⟩)
theorem rk_add_lst {a b : List D} (h : a.length + b.length ≤ 100000) (k : P (.lst (a ++ b))) : RK K (rAddAll K) (.lst a) (.lst b) P := by
 with_unfolding_all
 exact fun B Fr ρ σ Hs H u v Q E h1 h2 q => by
  obtain ⟨p1, vs1, rfl, g1, i1⟩ := ish_lst E h1
  obtain ⟨p2, vs2, rfl, g2, i2⟩ := ish_lst E h2
  refine .inr (.inr (.inl ⟨p1, p2, vs1, vs2, rfl, rfl, g1, g2, by rw [iss_len i1, iss_len i2]; exact sz h, fun p hp => ?_⟩))
  have hps := (E.allocOwn (o := .lst (vs1 ++ vs2)) hp).2
  exact q _ _ _ _ k (E.alloc hp) (same_upd hps) (is_lst.mpr ⟨p, _, rfl, upd_same, Iss.mono (same_upd hps) _ _ (iss_app i1 i2)⟩)
theorem rf_add_lst {PF : List D → Prop} {a b : List D} (h : a.length + b.length ≤ 100000) (k : PF (a ++ b)) : RF K (rAddAll K) (.lst a) (.lst b) PF := by
 with_unfolding_all
 exact fun B Fr ρ σ Hs H u v Q E h1 h2 q => by
  obtain ⟨p1, vs1, rfl, g1, i1⟩ := ish_lst E h1
  obtain ⟨p2, vs2, rfl, g2, i2⟩ := ish_lst E h2
  refine .inr (.inr (.inl ⟨p1, p2, vs1, vs2, rfl, rfl, g1, g2, by rw [iss_len i1, iss_len i2]; exact sz h, fun p hp => ?_⟩))
  obtain ⟨E2, hps⟩ := E.allocOwn (o := .lst (vs1 ++ vs2)) hp
  obtain ⟨f1, f2⟩ := new_facts E hp
  exact q p _ _ _ k E2 upd_same hps (iss_app i1 i2) f1 f2
theorem rk_add_tup {a b : List D} (h : a.length + b.length ≤ 100000) (k : P (.tup (a ++ b))) : RK K (rAddAll K) (.tup a) (.tup b) P := by
 with_unfolding_all
 exact fun B Fr ρ σ Hs H u v Q E h1 h2 q => by
  obtain ⟨p1, vs1, rfl, g1, i1⟩ := ish_tup E h1
  obtain ⟨p2, vs2, rfl, g2, i2⟩ := ish_tup E h2
  have l1 := iss_len i1
  have l2 := iss_len i2
  have nil : ∀ {ds : List D} {vs : List V}, Iss K Hs ds vs → vs = [] → ds = [] := fun {ds vs} i e => by
    cases ds with
    | nil => rfl
    | cons d ds => have := iss_len i; rw [e] at this; cases this
  have h1' : ∀ ds, Is K Hs (.tup ds) (.ref p1) → Is K Hs (.tup ds) (.ref p1) := fun _ z => z
  have full1 : Is K Hs (.tup a) (.ref p1) := by
    rcases h1 with h1 | ⟨_, _, _, z, _⟩
    · exact h1
    · cases z
  have full2 : Is K Hs (.tup b) (.ref p2) := by
    rcases h2 with h2 | ⟨_, _, _, z, _⟩
    · exact h2
    · cases z
  refine .inr (.inr (.inr ⟨p1, p2, vs1, vs2, rfl, rfl, g1, g2, by rw [l1, l2]; exact sz h, fun e => ?_, fun e1 e2 => ?_, fun e1 e2 p hp => ?_⟩))
  · have := nil i1 e
    subst this
    rw [List.nil_append] at k
    exact q _ _ Hs H k E (Same.refl _) full2
  · have := nil i2 e2
    subst this
    rw [List.append_nil] at k
    exact q _ _ Hs H k E (Same.refl _) full1
  · have hps := (E.allocOwn (o := .tup (vs1 ++ vs2)) hp).2
    exact q _ _ _ _ k (E.alloc hp) (same_upd hps) (is_tup.mpr ⟨p, _, rfl, .inl (.inl upd_same), Iss.mono (same_upd hps) _ _ (iss_app i1 i2)⟩)
/-! ### -, //, % of ints -/
theorem rk_sub {i j : Int} (k : P (.int (i - j))) : RK K (rI0 fun i j => .int (i - j)) (.int i) (.int j) P := by
 with_unfolding_all
 exact fun B Fr ρ σ Hs H u v Q E h1 h2 q =>
  ⟨i, j, ish_int h1, ish_int h2, q _ _ Hs H k E (Same.refl _) (is_int.mpr rfl)⟩
theorem rk_I {C : Int → Int → Prop} {g : Int → Int → Int} {i j : Int} (c : C i j) (k : P (.int (g i j))) : RK K (rI C fun i j => .int (g i j)) (.int i) (.int j) P := by
 with_unfolding_all
 exact fun B Fr ρ σ Hs H u v Q E h1 h2 q =>
  ⟨i, j, ish_int h1, ish_int h2, c, q _ _ Hs H k E (Same.refl _) (is_int.mpr rfl)⟩
theorem rk_I0 {g : Int → Int → Int} {i j : Int} (k : P (.int (g i j))) : RK K (rI0 fun i j => .int (g i j)) (.int i) (.int j) P := by
 with_unfolding_all
 exact fun B Fr ρ σ Hs H u v Q E h1 h2 q =>
  ⟨i, j, ish_int h1, ish_int h2, q _ _ Hs H k E (Same.refl _) (is_int.mpr rfl)⟩
theorem rk_neg {i : Int} (k : P (.int (-i))) : RK K (fun x _ => (rU fun i => .int (-i)) x) (.int i) .non P := by
 with_unfolding_all
 exact fun B Fr ρ σ Hs H u v Q E h1 h2 q =>
  ⟨i, ish_int h1, q _ _ Hs H k E (Same.refl _) (is_int.mpr rfl)⟩
/-! ### += of ints -/
theorem rk_ip_add {i j : Int} (k : P (.int (i + j))) : RK K (ipI fun i j => i + j) (.int i) (.int j) P := by
 with_unfolding_all
 exact fun B Fr ρ σ Hs H u v Q E h1 h2 q =>
  ⟨i, j, ish_int h1, ish_int h2, q _ _ Hs H k E (Same.refl _) (is_int.mpr rfl)⟩
theorem rk_ip_sub {i j : Int} (k : P (.int (i - j))) : RK K (ipI fun i j => i - j) (.int i) (.int j) P := by
 with_unfolding_all
 exact fun B Fr ρ σ Hs H u v Q E h1 h2 q =>
  ⟨i, j, ish_int h1, ish_int h2, q _ _ Hs H k E (Same.refl _) (is_int.mpr rfl)⟩
/-! ### subscripts -/
theorem iss_at {H : Hp} {ds : List D} {vs : List V} {i : Int} {d : D} (h : Iss K H ds vs) (e : atI ds i = some d) : ∃ v, atI vs i = some v ∧ Is K H d v := by
  unfold atI at e ⊢
  rw [iss_len h]
  cases hj : ixN ds.length i with
  | none => rw [hj] at e; cases e
  | some j =>
    rw [hj] at e
    exact iss_get h e
theorem rk_ix_lst {ds : List D} {i : Int} {d : D} (e : atI ds i = some d) (k : P d) : RK K (rIx K) (.lst ds) (.int i) P := by
 with_unfolding_all
 exact fun B Fr ρ σ Hs H u v Q E h1 h2 q => by
  obtain ⟨p1, vs1, rfl, g1, i1⟩ := ish_lst E h1
  obtain ⟨v, hv, hd⟩ := iss_at i1 e
  exact .inl ⟨p1, vs1, i, v, rfl, ish_int h2, .inl (.inl g1), hv, q v d Hs H k E (Same.refl _) hd⟩
theorem rk_ix_tup {ds : List D} {i : Int} {d : D} (e : atI ds i = some d) (k : P d) : RK K (rIx K) (.tup ds) (.int i) P := by
 with_unfolding_all
 exact fun B Fr ρ σ Hs H u v Q E h1 h2 q => by
  obtain ⟨p1, vs1, rfl, g1, i1⟩ := ish_tup E h1
  obtain ⟨v, hv, hd⟩ := iss_at i1 e
  exact .inr (.inl ⟨p1, vs1, i, v, rfl, ish_int h2, g1, hv, q v d Hs H k E (Same.refl _) hd⟩)
theorem rk_ix_str {w : List Nat} {i : Int} {c : Nat} (hl : w.length ≤ 100000) (e : atI w i = some c) (k : P (.str [c])) : RK K (rIx K) (.str w) (.int i) P := by
 with_unfolding_all
 exact fun B Fr ρ σ Hs H u v Q E h1 h2 q =>
  .inr (.inr ⟨tx w, i, c, ish_str h1, ish_int h2, by rw [tx_len]; exact sz hl, by rw [tx_list]; exact e, q _ _ Hs H k E (Same.refl _) (is_str.mpr rfl)⟩)
theorem rk_ix_scr {ns : List Int} {i n : Int} (e : atI ns i = some n) (k : P (.int n)) : RK K (rIx K) (.scr ns) (.int i) P := by
 with_unfolding_all
 exact fun B Fr ρ σ Hs H u v Q E h1 h2 q => by
  obtain ⟨p1, rfl, g1⟩ := ish_scr E h1
  refine .inl ⟨p1, ns.map V.int, i, .int n, rfl, ish_int h2, g1, ?_, q _ _ Hs H k E (Same.refl _) (is_int.mpr rfl)⟩
  unfold atI at e ⊢
  rw [List.length_map]
  cases hj : ixN ns.length i with
  | none => rw [hj] at e; cases e
  | some j =>
    rw [hj] at e
    show (ns.map V.int)[j]? = _
    have e' : ns[j]? = some n := e
    rw [List.getElem?_map, e']; rfl
/-! ### slices -/
/-- xs[lo:hi] -/
def cutL {α : Type} (xs : List α) (lo hi : Option Int) : List α := (xs.drop (HT.sIx xs.length 0 lo)).take (HT.sIx xs.length xs.length hi - HT.sIx xs.length 0 lo)
theorem cutL_len {α : Type} (xs : List α) (lo hi : Option Int) : (cutL xs lo hi).length ≤ xs.length := by
  unfold cutL
  rw [List.length_take, List.length_drop]
  omega
theorem iss_cut {H : Hp} {ds : List D} {vs : List V} {lo hi : Option Int} (h : Iss K H ds vs) : Iss K H (cutL ds lo hi) (cutV vs lo hi) := by
  unfold cutL cutV
  rw [iss_len h]
  exact iss_take _ (iss_drop _ h)
def rSlAll (K : PySem.W.Frag) : V → Option Int → Option Int → Hp → VK → Prop := fun x lo hi H Q => (rSlS x lo hi H Q) ∨ ((rSlL K x lo hi H Q) ∨ (rSlA K x lo hi H Q))
theorem sl_all : SlR X (rSlAll X.K) := SlR.or sl_str (SlR.or sl_list sl_tupA)
theorem lk_str {w : List Nat} {lo hi : Option Int} (hl : w.length ≤ 100000) (k : P (.str (cutL w lo hi))) : LK K (rSlAll K) (.str w) lo hi P := by
 with_unfolding_all
 exact fun B Fr ρ σ Hs H u Q E h1 q =>
  .inl ⟨tx w, ish_str h1, by rw [tx_len]; exact sz hl, by
    have e : cutS (tx w) lo hi = tx (cutL w lo hi) := by
      unfold cutS cutL
      rw [tx_list, tx_len]
    rw [e]
    exact q _ _ Hs H k E (Same.refl _) (is_str.mpr rfl)⟩
theorem lk_lst {ds : List D} {lo hi : Option Int} (k : P (.lst (cutL ds lo hi))) : LK K (rSlAll K) (.lst ds) lo hi P := by
 with_unfolding_all
 exact fun B Fr ρ σ Hs H u Q E h1 q => by
  obtain ⟨p1, vs1, rfl, g1, i1⟩ := ish_lst E h1
  refine .inr (.inl ⟨p1, vs1, rfl, .inl (.inl g1), fun p hp => ?_⟩)
  have hps := (E.allocOwn (o := .lst (cutV vs1 lo hi)) hp).2
  exact q _ _ _ _ k (E.alloc hp) (same_upd hps) (is_lst.mpr ⟨p, _, rfl, upd_same, Iss.mono (same_upd hps) _ _ (iss_cut i1)⟩)
theorem lk_tup {ds : List D} {lo hi : Option Int} (k : P (.tup (cutL ds lo hi))) : LK K (rSlAll K) (.tup ds) lo hi P := by
 with_unfolding_all
 exact fun B Fr ρ σ Hs H u Q E h1 q => by
  obtain ⟨p1, vs1, rfl, g1, i1⟩ := ish_tup E h1
  have full1 : Is K Hs (.tup ds) (.ref p1) := by
    rcases h1 with h1 | ⟨_, _, _, z, _⟩
    · exact h1
    · cases z
  refine .inr (.inr ⟨p1, vs1, rfl, g1, fun e => ?_, fun e p hp => ?_⟩)
  · have l := iss_len i1
    have e0 : cutL ds lo hi = ds := by
      unfold cutL
      rw [l] at e
      rw [e.1, e.2, List.drop_zero, Nat.sub_zero, List.take_length]
    rw [e0] at k
    exact q _ _ Hs H k E (Same.refl _) full1
  · have hps := (E.allocOwn (o := .tup (cutV vs1 lo hi)) hp).2
    exact q _ _ _ _ k (E.alloc hp) (same_upd hps) (is_tup.mpr ⟨p, _, rfl, .inl (.inl upd_same), Iss.mono (same_upd hps) _ _ (iss_cut i1)⟩)
/-! ### len, int, abs -/
theorem ck1 {r : List V → Hp → VK → Prop} {x : D} (h : ∀ (B : Option Addr) (Fr : Addr → HO → Prop) (ρ : Lo) (σ : L2.St) (Hs H : Hp) (u : V) (Q : VK), EnvOk K B Fr ρ σ Hs H → IsH K Hs H x u →
    (∀ w d Hs' H', P d → EnvOk K B Fr ρ σ Hs' H' → Same Hs Hs' → Is K Hs' d w → Q w H') → r [u] H Q) : CK K r [x] P := by
 with_unfolding_all
 exact fun B Fr ρ σ Hs H us Q E h1 q => by
  obtain ⟨v, rest, rfl, h1, h2⟩ := h1
  cases h2
  exact h B Fr ρ σ Hs H v Q E h1 q
theorem cf1 {r : List V → Hp → VK → Prop} {x : D} {PF : List D → Prop} (h : ∀ (B : Option Addr) (Fr : Addr → HO → Prop) (ρ : Lo) (σ : L2.St) (Hs H : Hp) (u : V) (Q : VK), EnvOk K B Fr ρ σ Hs H → IsH K Hs H x u →
    (∀ a vs ds H', PF ds → EnvOk K B Fr ρ σ Hs H' → H' a = some (.lst vs) → Hs a = none → Iss K Hs ds vs → (∀ (i : Nat) (s : Sl), ρ[i]? = some (some s) → s.isOwn = true → σ[i]? ≠ some (some (.ref a))) → (∀ q : Addr × HO, Fr q.1 q.2 → q.1 ≠ a) → Q (.ref a) H') → r [u] H Q) : CF K r [x] PF := by
 with_unfolding_all
 exact fun B Fr ρ σ Hs H us Q E h1 q => by
  obtain ⟨v, rest, rfl, h1, h2⟩ := h1
  cases h2
  exact h B Fr ρ σ Hs H v Q E h1 q
theorem ck2 {r : List V → Hp → VK → Prop} {x y : D} (h : ∀ (B : Option Addr) (Fr : Addr → HO → Prop) (ρ : Lo) (σ : L2.St) (Hs H : Hp) (u v : V) (Q : VK), EnvOk K B Fr ρ σ Hs H → IsH K Hs H x u → IsH K Hs H y v →
    (∀ w d Hs' H', P d → EnvOk K B Fr ρ σ Hs' H' → Same Hs Hs' → Is K Hs' d w → Q w H') → r [u, v] H Q) : CK K r [x, y] P := by
 with_unfolding_all
 exact fun B Fr ρ σ Hs H us Q E h1 q => by
  obtain ⟨v, rest, rfl, h1, h2⟩ := h1
  obtain ⟨v2, rest, rfl, h2, h3⟩ := h2
  cases h3
  exact h B Fr ρ σ Hs H v v2 Q E h1 h2 q
def rLenAll (K : PySem.W.Frag) : List V → Hp → VK → Prop := fun xs H Q => ((fun xs H Q => ∃ p ys, xs = [.ref p] ∧ (SqL K H p ys ∨ SqT K H p ys) ∧ Q (.int ys.length) H) xs H Q) ∨ ((fun xs H Q => ∃ z, xs = [.str z] ∧ z.length ≤ sizeLine ∧ Q (.int z.length) H) xs H Q)
theorem call_lenAll : CallR X (.builtin "len") (rLenAll X.K) := CallR.or call_len_seq call_len_str
theorem ck_len_lst {ds : List D} (k : P (.int ds.length)) : CK K (rLenAll K) [.lst ds] P := ck1 fun B Fr ρ σ Hs H u Q E h1 q => by
  obtain ⟨p1, vs1, rfl, g1, i1⟩ := ish_lst E h1
  exact .inl ⟨p1, vs1, rfl, .inl (.inl (.inl g1)), by rw [iss_len i1]; exact q _ _ Hs H k E (Same.refl _) (is_int.mpr rfl)⟩
theorem ck_len_tup {ds : List D} (k : P (.int ds.length)) : CK K (rLenAll K) [.tup ds] P := ck1 fun B Fr ρ σ Hs H u Q E h1 q => by
  obtain ⟨p1, vs1, rfl, g1, i1⟩ := ish_tup E h1
  exact .inl ⟨p1, vs1, rfl, .inr g1, by rw [iss_len i1]; exact q _ _ Hs H k E (Same.refl _) (is_int.mpr rfl)⟩
theorem ck_len_scr {ns : List Int} (k : P (.int ns.length)) : CK K (rLenAll K) [.scr ns] P := ck1 fun B Fr ρ σ Hs H u Q E h1 q => by
  obtain ⟨p1, rfl, g1⟩ := ish_scr E h1
  exact .inl ⟨p1, _, rfl, .inl g1, by rw [List.length_map]; exact q _ _ Hs H k E (Same.refl _) (is_int.mpr rfl)⟩
theorem ck_len_str {w : List Nat} (hl : w.length ≤ 100000) (k : P (.int w.length)) : CK K (rLenAll K) [.str w] P := ck1 fun B Fr ρ σ Hs H u Q E h1 q =>
  .inr ⟨tx w, by rw [ish_str h1], by rw [tx_len]; exact sz hl, by rw [tx_len]; exact q _ _ Hs H k E (Same.refl _) (is_int.mpr rfl)⟩
def rInt1 : List V → Hp → VK → Prop := fun xs H Q => (∃ i, xs = [.int i] ∧ Q (.int i) H) ∨ ∃ k, xs = [.bl k] ∧ Q (.int (if k then 1 else 0)) H
theorem call_intA : CallR X (.type "int") rInt1 := call_int1
theorem ck_int {i : Int} (k : P (.int i)) : CK K rInt1 [.int i] P := ck1 fun B Fr ρ σ Hs H u Q E h1 q =>
  .inl ⟨i, by rw [ish_int h1], q _ _ Hs H k E (Same.refl _) (is_int.mpr rfl)⟩
/-! ### comparisons -/
def rLtAll (K : PySem.W.Frag) : R2 := fun x y H Q => ((rI0 fun i j => .bl (decide (i < j))) x y H Q) ∨ ((fun x y (H : Hp) (Q : VK) => ∃ i j, x = .str i ∧ y = .str j ∧ Q (.bl (decide (i.cps.toList < j.cps.toList))) H) x y H Q)
theorem op_ltAll : OpR X (compareOp .Lt) (rLtAll X.K) := OpR.or op_lt op_lt_str
def rLeAll (K : PySem.W.Frag) : R2 := fun x y H Q => ((rI0 fun i j => .bl (decide (i ≤ j))) x y H Q) ∨ ((fun x y (H : Hp) (Q : VK) => ∃ i j, x = .str i ∧ y = .str j ∧ Q (.bl (!decide (j.cps.toList < i.cps.toList))) H) x y H Q)
theorem op_leAll : OpR X (compareOp .LtE) (rLeAll X.K) := OpR.or op_le op_le_str
def rGtAll (K : PySem.W.Frag) : R2 := fun x y H Q => ((rI0 fun i j => .bl (decide (j < i))) x y H Q) ∨ ((fun x y (H : Hp) (Q : VK) => ∃ i j, x = .str i ∧ y = .str j ∧ Q (.bl (decide (j.cps.toList < i.cps.toList))) H) x y H Q)
theorem op_gtAll : OpR X (compareOp .Gt) (rGtAll X.K) := OpR.or op_gt op_gt_str
def rGeAll (K : PySem.W.Frag) : R2 := fun x y H Q => ((rI0 fun i j => .bl (decide (j ≤ i))) x y H Q) ∨ ((fun x y (H : Hp) (Q : VK) => ∃ i j, x = .str i ∧ y = .str j ∧ Q (.bl (!decide (i.cps.toList < j.cps.toList))) H) x y H Q)
theorem op_geAll : OpR X (compareOp .GtE) (rGeAll X.K) := OpR.or op_ge op_ge_str
theorem rb_lt {i j : Int} : RB K (rLtAll K) (.int i) (.int j) (decide (i < j)) := by
 with_unfolding_all
 exact fun B Fr ρ σ Hs H u v Q E h1 h2 q => .inl ⟨i, j, ish_int h1, ish_int h2, q⟩
theorem rb_le {i j : Int} : RB K (rLeAll K) (.int i) (.int j) (decide (i ≤ j)) := by
 with_unfolding_all
 exact fun B Fr ρ σ Hs H u v Q E h1 h2 q => .inl ⟨i, j, ish_int h1, ish_int h2, q⟩
theorem rb_gt {i j : Int} : RB K (rGtAll K) (.int i) (.int j) (decide (j < i)) := by
 with_unfolding_all
 exact fun B Fr ρ σ Hs H u v Q E h1 h2 q => .inl ⟨i, j, ish_int h1, ish_int h2, q⟩
theorem rb_ge {i j : Int} : RB K (rGeAll K) (.int i) (.int j) (decide (j ≤ i)) := by
 with_unfolding_all
 exact fun B Fr ρ σ Hs H u v Q E h1 h2 q => .inl ⟨i, j, ish_int h1, ish_int h2, q⟩
theorem rb_lt_str {a b : List Nat} : RB K (rLtAll K) (.str a) (.str b) (decide (a < b)) := by
 with_unfolding_all
 exact fun B Fr ρ σ Hs H u v Q E h1 h2 q => .inr ⟨_, _, ish_str h1, ish_str h2, by rw [tx_list, tx_list]; exact q⟩
theorem rb_le_str {a b : List Nat} : RB K (rLeAll K) (.str a) (.str b) (!decide (b < a)) := by
 with_unfolding_all
 exact fun B Fr ρ σ Hs H u v Q E h1 h2 q => .inr ⟨_, _, ish_str h1, ish_str h2, by rw [tx_list, tx_list]; exact q⟩
theorem rb_gt_str {a b : List Nat} : RB K (rGtAll K) (.str a) (.str b) (decide (b < a)) := by
 with_unfolding_all
 exact fun B Fr ρ σ Hs H u v Q E h1 h2 q => .inr ⟨_, _, ish_str h1, ish_str h2, by rw [tx_list, tx_list]; exact q⟩
theorem rb_ge_str {a b : List Nat} : RB K (rGeAll K) (.str a) (.str b) (!decide (a < b)) := by
 with_unfolding_all
 exact fun B Fr ρ σ Hs H u v Q E h1 h2 q => .inr ⟨_, _, ish_str h1, ish_str h2, by rw [tx_list, tx_list]; exact q⟩
/-! == by scalars, else deep -/
mutual
def D.toP : D → PyData
  | .non => .none
  | .bl b => .bool b
  | .int i => .int i
  | .str w => .str (tx w)
  | .lst xs => .list (D.toPs xs)
  | .tup xs => .tuple (D.toPs xs)
  | .scr _ => .none
  | .ref _ => .none
  | .ty _ => .none
def D.toPs : List D → List PyData
  | [] => []
  | x :: xs => x.toP :: D.toPs xs
end
mutual
def D.plain : D → Bool
  | .non => true
  | .bl _ => true
  | .int _ => true
  | .str _ => true
  | .lst xs => D.plains xs
  | .tup xs => D.plains xs
  | .scr _ => false
  | .ref _ => false
  | .ty _ => false
def D.plains : List D → Bool
  | [] => true
  | x :: xs => x.plain && D.plains xs
end
mutual
theorem Is.dp {Hs H : Hp} (e : Same Hs H) : ∀ (d : D) (v : V), Is K Hs d v → d.plain = true → Dp K H v d.toP
  | .non, v, h, _ => by rw [is_non.mp h]; unfold D.toP; exact .non
  | .bl b, v, h, _ => by rw [is_bl.mp h]; unfold D.toP; exact .bl b
  | .int i, v, h, _ => by rw [is_int.mp h]; unfold D.toP; exact .int i
  | .str w, v, h, _ => by rw [is_str.mp h]; unfold D.toP; exact .str _
  | .lst xs, v, h, p => by
    obtain ⟨a, vs, rfl, h1, h2⟩ := is_lst.mp h
    unfold D.plain at p
    unfold D.toP
    exact .lst (.inl (.inl (e _ _ h1))) (Iss.dp e xs vs h2 p)
  | .tup xs, v, h, p => by
    obtain ⟨a, vs, rfl, h1, h2⟩ := is_tup.mp h
    unfold D.plain at p
    unfold D.toP
    exact .tup (sqt_mono e h1) (Iss.dp e xs vs h2 p)
  | .scr ns, v, h, p => by unfold D.plain at p; cases p
  | .ref a, v, h, p => by unfold D.plain at p; cases p
  | .ty n, v, h, p => by unfold D.plain at p; cases p
theorem Iss.dp {Hs H : Hp} (e : Same Hs H) : ∀ (ds : List D) (vs : List V), Iss K Hs ds vs → D.plains ds = true → DpAll K H vs (D.toPs ds)
  | [], vs, h, _ => by rw [iss_nil.mp h]; unfold D.toPs; exact .nil
  | d :: ds, vs, h, p => by
    obtain ⟨v, r, rfl, h1, h2⟩ := iss_cons.mp h
    unfold D.plains at p
    unfold D.toPs
    exact .cons (Is.dp e d v h1 (Bool.and_eq_true_iff.mp p).1) (Iss.dp e ds r h2 (Bool.and_eq_true_iff.mp p).2)
end
theorem ish_dp {B : Option Addr} {Fr : Addr → HO → Prop} {ρ : Lo} {σ : L2.St} {Hs H : Hp} {d : D} {v : V} (E : EnvOk K B Fr ρ σ Hs H) (h : IsH K Hs H d v) (p : d.plain = true) : Dp K H v d.toP := by
  rcases h with h | ⟨ds, a, vs, rfl, rfl, h1, h2⟩
  · exact Is.dp E.sub d v h p
  · unfold D.plain at p
    unfold D.toP
    exact .lst (.inl (.inl h1)) (Iss.dp E.sub ds vs h2 p)
def rEqAll (K : PySem.W.Frag) : R2 := fun x y H Q => rEq x y H Q ∨ rEqD K x y H Q
def rNeAll (K : PySem.W.Frag) : R2 := fun x y H Q => rNe x y H Q ∨ rNeD K x y H Q
theorem op_eqAll (hu : X.A.units + 64 < cLine) : OpR X (compareOp .Eq) (rEqAll X.K) := OpR.or op_eq (op_eqD hu)
theorem op_neAll (hu : X.A.units + 64 < cLine) : OpR X (compareOp .NotEq) (rNeAll X.K) := OpR.or op_ne (op_neD hu)
/-- the scalars' equality -/
theorem rb_eq_int {i j : Int} : RB K (rEqAll K) (.int i) (.int j) (decide (i = j)) := by
 with_unfolding_all
 exact fun B Fr ρ σ Hs H u v Q E h1 h2 q => .inl (by
  rw [ish_int h1, ish_int h2]
  refine ⟨rfl, ?_⟩
  rw [show decide (V.int i = V.int j) = decide (i = j) from decide_eq_decide.mpr ⟨fun h => V.int.inj h, fun h => by rw [h]⟩]
  exact q)
theorem rb_ne_int {i j : Int} : RB K (rNeAll K) (.int i) (.int j) (!decide (i = j)) := by
 with_unfolding_all
 exact fun B Fr ρ σ Hs H u v Q E h1 h2 q => .inl (by
  rw [ish_int h1, ish_int h2]
  refine ⟨rfl, ?_⟩
  rw [show decide (V.int i = V.int j) = decide (i = j) from decide_eq_decide.mpr ⟨fun h => V.int.inj h, fun h => by rw [h]⟩]
  exact q)
theorem vstr_eq {a b : List Nat} : decide (V.str (tx a) = V.str (tx b)) = decide (a = b) := decide_eq_decide.mpr ⟨fun h => tx_inj.mp (V.str.inj h), fun h => by rw [h]⟩
theorem rb_eq_str {a b : List Nat} : RB K (rEqAll K) (.str a) (.str b) (decide (a = b)) := by
 with_unfolding_all
 exact fun B Fr ρ σ Hs H u v Q E h1 h2 q => .inl (by
  rw [ish_str h1, ish_str h2]
  exact ⟨rfl, by rw [vstr_eq]; exact q⟩)
theorem rb_ne_str {a b : List Nat} : RB K (rNeAll K) (.str a) (.str b) (!decide (a = b)) := by
 with_unfolding_all
 exact fun B Fr ρ σ Hs H u v Q E h1 h2 q => .inl (by
  rw [ish_str h1, ish_str h2]
  exact ⟨rfl, by rw [vstr_eq]; exact q⟩)
theorem rb_eq_bl {a b : Bool} : RB K (rEqAll K) (.bl a) (.bl b) (decide (a = b)) := by
 with_unfolding_all
 exact fun B Fr ρ σ Hs H u v Q E h1 h2 q => .inl (by
  rw [ish_bl h1, ish_bl h2]
  exact ⟨rfl, by rw [show decide (V.bl a = V.bl b) = decide (a = b) from decide_eq_decide.mpr ⟨fun h => V.bl.inj h, fun h => by rw [h]⟩]; exact q⟩)
theorem rb_ne_bl {a b : Bool} : RB K (rNeAll K) (.bl a) (.bl b) (!decide (a = b)) := by
 with_unfolding_all
 exact fun B Fr ρ σ Hs H u v Q E h1 h2 q => .inl (by
  rw [ish_bl h1, ish_bl h2]
  exact ⟨rfl, by rw [show decide (V.bl a = V.bl b) = decide (a = b) from decide_eq_decide.mpr ⟨fun h => V.bl.inj h, fun h => by rw [h]⟩]; exact q⟩)
theorem rb_eq_deep {x y : D} (px : x.plain = true) (py : y.plain = true) (sx : SeqAt.shaped x.toP = true) (sy : SeqAt.shaped y.toP = true) : RB K (rEqAll K) x y (PyData.eqv x.toP y.toP) := by
 with_unfolding_all
 exact fun B Fr ρ σ Hs H u v Q E h1 h2 q =>
  .inr ⟨_, _, ish_dp E h1 px, ish_dp E h2 py, sx, sy, q⟩
theorem rb_ne_deep {x y : D} (px : x.plain = true) (py : y.plain = true) (sx : SeqAt.shaped x.toP = true) (sy : SeqAt.shaped y.toP = true) : RB K (rNeAll K) x y (!PyData.eqv x.toP y.toP) := by
 with_unfolding_all
 exact fun B Fr ρ σ Hs H u v Q E h1 h2 q =>
  .inr ⟨_, _, ish_dp E h1 px, ish_dp E h2 py, sx, sy, q⟩
/-! is None -/
theorem rb_isN {d : D} {b : Bool} (hd : (match d with | .non => true | _ => false) = b) : RB K (fun x y H Q => y = .non ∧ Q (.bl (decide (x = .non))) H) d .non b := by
 with_unfolding_all
 exact fun B Fr ρ σ Hs H u v Q E h1 h2 q => by
  refine ⟨ish_non h2, ?_⟩
  have e : decide (u = V.non) = b := by
    subst hd
    cases d with
    | non => rw [ish_non h1]; rfl
    | bl b => rw [ish_bl h1]; rfl
    | int i => rw [ish_int h1]; rfl
    | str w => rw [ish_str h1]; rfl
    | lst xs => obtain ⟨a, _, rfl, _⟩ := ish_lst E h1; rfl
    | tup xs => obtain ⟨a, _, rfl, _⟩ := ish_tup E h1; rfl
    | scr ns => obtain ⟨a, rfl, _⟩ := ish_scr E h1; rfl
    | ref a =>
      rcases h1 with h1 | ⟨_, _, _, z, _⟩
      · rw [is_ref.mp h1]; rfl
      · cases z
    | ty n =>
      rcases h1 with h1 | ⟨_, _, _, z, _⟩
      · rw [is_ty.mp h1]; rfl
      · cases z
  rw [e]; exact q
theorem rb_notN {d : D} {b : Bool} (hd : (match d with | .non => true | _ => false) = b) : RB K (fun x y H Q => y = .non ∧ Q (.bl (!decide (x = .non))) H) d .non (!b) := by
 with_unfolding_all
 exact fun B Fr ρ σ Hs H u v Q E h1 h2 q =>
  rb_isN (K := K) hd B Fr ρ σ Hs H u v (fun x H => ∃ b, x = .bl b ∧ Q (.bl (!b)) H) E h1 h2 ⟨b, rfl, q⟩ |> fun ⟨h, b', e, q'⟩ => ⟨h, by cases e; exact q'⟩
end
end DL
namespace DL
open PySem PySem.Spec PyProof.Rows L2
/-! ### what a for walks -/
def ups (lo : Int) (n : Nat) : List D := (List.range n).map fun (i : Nat) => .int (lo + i)
theorem ups_len {lo : Int} {n : Nat} : (ups lo n).length = n := by simp [ups]
theorem ups_get {lo : Int} {n i : Nat} {d : D} (h : (ups lo n)[i]? = some d) : i < n ∧ d = .int (lo + i) := by
  unfold ups at h
  rw [List.getElem?_map] at h
  by_cases hi : i < n
  · rw [List.getElem?_range hi] at h
    cases h
    exact ⟨hi, rfl⟩
  · rw [List.getElem?_eq_none (by simpa using hi)] at h
    cases h
def upsC (lo c : Int) (n : Nat) : List D := (List.range n).map fun (i : Nat) => .int (lo + i * c)
section
variable {K : PySem.W.Frag}
theorem it_range {lo : Int} {n : Nat} {Hs : Hp} : ItOk K (Itr lo n) Hs (ups lo n) := by
 with_unfolding_all
 exact fun B Fr ρ σ Hs' H i E s => by
  refine ⟨fun d hd => ?_, fun h => by rw [ups_len] at h; exact h⟩
  obtain ⟨hi, rfl⟩ := ups_get hd
  refine ⟨hi, fun x H' hy => ?_⟩
  obtain ⟨rfl, rfl⟩ := hy
  exact ⟨Hs', E, Same.refl _, is_int.mpr rfl⟩
theorem it_rangeC {lo c : Int} {n : Nat} {Hs : Hp} : ItOk K (Itc lo c n) Hs (upsC lo c n) := by
 with_unfolding_all
 exact fun B Fr ρ σ Hs' H i E s => by
  have hl : (upsC lo c n).length = n := by simp [upsC]
  refine ⟨fun d hd => ?_, fun h => by rw [hl] at h; exact h⟩
  have hi : i < n := by
    have := (List.getElem?_eq_some_iff.mp hd).1
    rw [hl] at this; exact this
  have e : d = .int (lo + i * c) := by
    unfold upsC at hd
    rw [List.getElem?_map, List.getElem?_range hi] at hd
    exact (Option.some.inj hd).symm
  refine ⟨hi, fun x H' hy => ?_⟩
  obtain ⟨rfl, rfl⟩ := hy
  rw [e]
  exact ⟨Hs', E, Same.refl _, is_int.mpr rfl⟩
theorem it_lst {a : Addr} {vs : List V} {xs : List D} {Hs : Hp} (h : Hs a = some (.lst vs)) (i : Iss K Hs xs vs) : ItOk K (Itl K a) Hs xs := by
 with_unfolding_all
 exact fun B Fr ρ σ Hs' H j E s => by
  have hq : SqL K H a vs := .inl (.inl (E.sub _ _ (s _ _ h)))
  refine ⟨fun d hd => ?_, fun hj => ⟨vs, hq, by rw [iss_len i]; exact hj⟩⟩
  obtain ⟨v, hv, hdv⟩ := iss_get i hd
  refine ⟨⟨vs, v, hq, hv⟩, fun x H' hy => ?_⟩
  obtain ⟨rfl, hx⟩ := hy
  have := hx vs hq
  rw [hv] at this
  cases this
  exact ⟨Hs', E, Same.refl _, Is.mono s _ _ hdv⟩
theorem it_tup {a : Addr} {vs : List V} {xs : List D} {Hs : Hp} (h : SqT K Hs a vs) (i : Iss K Hs xs vs) : ItOk K (Itt K a) Hs xs := by
 with_unfolding_all
 exact fun B Fr ρ σ Hs' H j E s => by
  have hq : SqT K H a vs := sqt_mono (s.trans E.sub) h
  refine ⟨fun d hd => ?_, fun hj => ⟨vs, hq, by rw [iss_len i]; exact hj⟩⟩
  obtain ⟨v, hv, hdv⟩ := iss_get i hd
  refine ⟨⟨vs, v, hq, hv⟩, fun x H' hy => ?_⟩
  obtain ⟨rfl, hx⟩ := hy
  have := hx vs hq
  rw [hv] at this
  cases this
  exact ⟨Hs', E, Same.refl _, Is.mono s _ _ hdv⟩
/-- a text's signs -/
def signs (w : List Nat) : List D := w.map fun c => .str [c]
theorem it_str {w : List Nat} {Hs : Hp} : ItOk K (Its (tx w)) Hs (signs w) := by
 with_unfolding_all
 exact fun B Fr ρ σ Hs' H j E s => by
  refine ⟨fun d hd => ?_, fun hj => ?_⟩
  · unfold signs at hd
    rw [List.getElem?_map] at hd
    cases hw : w[j]? with
    | none => rw [hw] at hd; cases hd
    | some c =>
      rw [hw] at hd
      cases hd
      have hc : (tx w).cps[j]? = some c := by
        show (w.toArray)[j]? = some c
        rw [List.getElem?_toArray]; exact hw
      refine ⟨by
        show j < w.toArray.size
        rw [List.size_toArray]
        exact (List.getElem?_eq_some_iff.mp hw).1, fun x H' hy => ?_⟩
      obtain ⟨rfl, c', hc', rfl⟩ := hy
      rw [hc] at hc'
      cases hc'
      exact ⟨Hs', E, Same.refl _, is_str.mpr rfl⟩
  · show w.toArray.size ≤ j
    rw [List.size_toArray]
    unfold signs at hj
    rw [List.length_map] at hj
    exact hj
/-- numbered items -/
def nums (xs : List D) : List D := xs.mapIdx fun i x => .tup [.int (i : Nat), x]
theorem it_enum {a : Addr} {vs : List V} {xs : List D} {Hs : Hp} (h : Hs a = some (.lst vs)) (i : Iss K Hs xs vs) : ItOk K (Ite K a) Hs (nums xs) := by
 with_unfolding_all
 exact fun B Fr ρ σ Hs' H j E s => by
  have hq : SqL K H a vs := .inl (.inl (E.sub _ _ (s _ _ h)))
  refine ⟨fun d hd => ?_, fun hj => ⟨vs, hq, by rw [iss_len i]; simpa [nums] using hj⟩⟩
  unfold nums at hd
  rw [List.getElem?_mapIdx] at hd
  cases hx : xs[j]? with
  | none => rw [hx] at hd; cases hd
  | some x0 =>
    rw [hx] at hd
    cases hd
    obtain ⟨v, hv, hdv⟩ := iss_get i hx
    refine ⟨⟨vs, v, hq, hv⟩, fun x H' hy => ?_⟩
    obtain ⟨T, y, rfl, hT, rfl, hy⟩ := hy
    have := hy vs hq
    rw [hv] at this
    cases this
    have hps := (E.allocOwn (o := .tup [.int (j : Nat), v]) hT).2
    exact ⟨_, E.alloc hT, same_upd hps, is_tup.mpr ⟨T, _, rfl, .inl (.inl upd_same), iss_cons.mpr ⟨_, _, rfl, is_int.mpr rfl, iss_one (Is.mono (s.trans (same_upd hps)) _ _ hdv)⟩⟩⟩
end
section
variable {X : Cx} {PX : XP} {ρ : Lo} {e a b c tg : Expr} {pos p : Pos} {W : Lo → List D → Prop}
theorem di_range1 (hm : X.mg "range" = none) (h : DE X PX ρ a fun ρ1 x => ∃ n : Int, x = .int n ∧ (-1000000 ≤ n ∧ n ≤ 1000000) ∧ W ρ1 (ups 0 n.toNat)) (hg : Gl X "range" := by rfl) (hs : starEach [a] X.env = [(false, eval a X.env)] := by rfl) (hs2 : starEach [a] X.env = (false, eval a X.env) :: starEach [] X.env := by rfl) :
    DI X PX ρ tg (.Call (.Name "range" p) [a] [] pos) W := by
 with_unfolding_all
 exact fun B Fr Wx σ Hs H R E tk kx q => by
  refine w_pi (pi_range1 hg hm (pa_cons pe_w pa_nil hs2) hs) ?_
  refine h B Fr Wx σ Hs H _ E tk kx fun v ρ1 d Hs1 H1 w E1 s1 i1 => ?_
  obtain ⟨n, rfl, hn, w⟩ := w
  exact ⟨n, by rw [is_int.mp i1], by omega, by omega, q _ ρ1 _ Hs1 H1 w E1 s1 it_range⟩
theorem di_range2 (hm : X.mg "range" = none) (h : DE X PX ρ a fun ρ1 x => DE X PX ρ1 b fun ρ2 y => ∃ i j : Int, x = .int i ∧ y = .int j ∧ (-1000000 ≤ i ∧ i ≤ 1000000 ∧ -1000000 ≤ j ∧ j ≤ 1000000) ∧ W ρ2 (ups i (j - i).toNat)) (hg : Gl X "range" := by rfl) (hs : starEach [a, b] X.env = [(false, eval a X.env), (false, eval b X.env)] := by rfl)
    (hs2 : starEach [b] X.env = [(false, eval b X.env)] := by rfl) (hs3 : starEach [a, b] X.env = (false, eval a X.env) :: starEach [b] X.env := by rfl) (hs4 : starEach [b] X.env = (false, eval b X.env) :: starEach [] X.env := by rfl) :
    DI X PX ρ tg (.Call (.Name "range" p) [a, b] [] pos) W := by
 with_unfolding_all
 exact fun B Fr Wx σ Hs H R E tk kx q => by
  refine w_pi (pi_range2 hg hm (pa_cons pe_w (pa_cons pe_w pa_nil hs4) hs3) hs hs2) ?_
  refine h B Fr Wx σ Hs H _ E tk kx fun v ρ1 d Hs1 H1 w E1 s1 i1 => ?_
  refine w B Fr Wx σ Hs1 H1 _ E1 tk (kx.up s1) fun v2 ρ2 d2 Hs2 H2 w2 E2 s2 i2 => ?_
  obtain ⟨i, j, rfl, rfl, hn, w2⟩ := w2
  exact ⟨i, j, by rw [is_int.mp i1, is_int.mp i2], by omega, q _ ρ2 _ Hs2 H2 w2 E2 (s1.trans s2) it_range⟩
/-- range(i, j, k), k written -/
theorem di_range3 (hm : X.mg "range" = none) (h : DE X PX ρ a fun ρ1 x => DE X PX ρ1 b fun ρ2 y => DE X PX ρ2 c fun ρ3 z => ∃ (i j k : Int) (n : Nat), x = .int i ∧ y = .int j ∧ z = .int k ∧ RgC i j k n ∧ W ρ3 (upsC i k n)) (hg : Gl X "range" := by rfl)
    (hs3 : starEach [a, b, c] X.env = (false, eval a X.env) :: starEach [b, c] X.env := by rfl) (hpl : (backTo pos (starEach [b, c] X.env)).any (·.1) = false := by rfl)
    (hs4 : starEach [b, c] X.env = (false, eval b X.env) :: starEach [c] X.env := by rfl) (hs5 : starEach [c] X.env = (false, eval c X.env) :: starEach [] X.env := by rfl) :
    DI X PX ρ tg (.Call (.Name "range" p) [a, b, c] [] pos) W := by
 with_unfolding_all
 exact fun B Fr Wx σ Hs H R E tk kx q => by
  refine w_pi (pi_range3 hg hm (pa_cons pe_w (pa_cons pe_w (pa_cons pe_w pa_nil hs5) hs4) hs3) hs3 hpl) ?_
  refine h B Fr Wx σ Hs H _ E tk kx fun v ρ1 d Hs1 H1 w E1 s1 i1 => ?_
  refine w B Fr Wx σ Hs1 H1 _ E1 tk (kx.up s1) fun v2 ρ2 d2 Hs2 H2 w2 E2 s2 i2 => ?_
  refine w2 B Fr Wx σ Hs2 H2 _ E2 tk (kx.up (s1.trans s2)) fun v3 ρ3 d3 Hs3 H3 w3 E3 s3 i3 => ?_
  obtain ⟨i, j, k, n, rfl, rfl, rfl, hn, w3⟩ := w3
  exact ⟨i, j, k, n, by rw [is_int.mp i1, is_int.mp i2, is_int.mp i3], hn, q _ ρ3 _ Hs3 H3 w3 E3 ((s1.trans s2).trans s3) it_rangeC⟩
theorem di_lst (h : DE X PX ρ e fun ρ1 d => ∃ xs, d = .lst xs ∧ W ρ1 xs) : DI X PX ρ tg e W := by
 with_unfolding_all
 exact fun B Fr Wx σ Hs H R E tk kx q => by
  refine w_pi (pi_list pe_w) ?_
  refine h B Fr Wx σ Hs H _ E tk kx fun v ρ1 d Hs1 H1 w E1 s1 i1 => ?_
  obtain ⟨xs, rfl, w⟩ := w
  obtain ⟨a, vs, rfl, h1, h2⟩ := is_lst.mp i1
  exact ⟨a, rfl, ⟨vs, .inl (.inl (E1.sub _ _ h1))⟩, q _ ρ1 xs Hs1 H1 w E1 s1 (it_lst h1 h2)⟩
theorem di_tup (h : DE X PX ρ e fun ρ1 d => ∃ xs, d = .tup xs ∧ W ρ1 xs) : DI X PX ρ tg e W := by
 with_unfolding_all
 exact fun B Fr Wx σ Hs H R E tk kx q => by
  refine w_pi (pi_tup pe_w) ?_
  refine h B Fr Wx σ Hs H _ E tk kx fun v ρ1 d Hs1 H1 w E1 s1 i1 => ?_
  obtain ⟨xs, rfl, w⟩ := w
  obtain ⟨a, vs, rfl, h1, h2⟩ := is_tup.mp i1
  exact ⟨a, rfl, ⟨vs, sqt_mono E1.sub h1⟩, q _ ρ1 xs Hs1 H1 w E1 s1 (it_tup h1 h2)⟩
theorem di_str (h : DE X PX ρ e fun ρ1 d => ∃ w, d = .str w ∧ W ρ1 (signs w)) : DI X PX ρ tg e W := by
 with_unfolding_all
 exact fun B Fr Wx σ Hs H R E tk kx q => by
  refine w_pi (pi_str pe_w) ?_
  refine h B Fr Wx σ Hs H _ E tk kx fun v ρ1 d Hs1 H1 w E1 s1 i1 => ?_
  obtain ⟨w, rfl, k⟩ := w
  exact ⟨tx w, is_str.mp i1, q _ ρ1 _ Hs1 H1 k E1 s1 it_str⟩
theorem di_enum {elts : List Expr} {kk : Nat} {tpos : Pos} (hm : X.mg "enumerate" = none) (h : DE X PX ρ e fun ρ1 d => ∃ xs, d = .lst xs ∧ W ρ1 (nums xs)) (hg : Gl X "enumerate" := by rfl) (hs : starEach [e] X.env = [(false, eval e X.env)] := by rfl) (hs2 : starEach [e] X.env = (false, eval e X.env) :: starEach [] X.env := by rfl) :
    DI X PX ρ (.Tuple elts kk tpos) (.Call (.Name "enumerate" p) [e] [] pos) W := by
 with_unfolding_all
 exact fun B Fr Wx σ Hs H R E tk kx q => by
  refine w_pi (pi_enum hg hm (pa_cons pe_w pa_nil hs2) hs) ?_
  refine h B Fr Wx σ Hs H _ E tk kx fun v ρ1 d Hs1 H1 w E1 s1 i1 => ?_
  obtain ⟨xs, rfl, w⟩ := w
  obtain ⟨a, vs, rfl, h1, h2⟩ := is_lst.mp i1
  exact ⟨a, vs, rfl, .inl (.inl (E1.sub _ _ h1)), q _ ρ1 _ Hs1 H1 w E1 s1 (it_enum h1 h2)⟩
end
section
variable {K : PySem.W.Frag} {P : D → Prop} {PF : List D → Prop} {X : Cx}
/-! ### any, all, sum, tuple, list, min, max -/
theorem ck_all {bs : List Bool} (k : P (.bl (bs.all id))) : CK K (rAll K) [.lst (bs.map D.bl)] P := ck1 fun B Fr ρ σ Hs H u Q E h1 q => by
  obtain ⟨p1, vs1, rfl, g1, i1⟩ := ish_lst E h1
  rw [iss_bools.mp i1] at g1
  exact ⟨p1, bs, rfl, .inl (.inl g1), q _ _ Hs H k E (Same.refl _) (is_bl.mpr rfl)⟩
theorem ck_any {bs : List Bool} (k : P (.bl (bs.any id))) : CK K (rAny K) [.lst (bs.map D.bl)] P := ck1 fun B Fr ρ σ Hs H u Q E h1 q => by
  obtain ⟨p1, vs1, rfl, g1, i1⟩ := ish_lst E h1
  rw [iss_bools.mp i1] at g1
  exact ⟨p1, bs, rfl, .inl (.inl g1), q _ _ Hs H k E (Same.refl _) (is_bl.mpr rfl)⟩
theorem ck_sum {ns : List Int} (k : P (.int ns.sum)) : CK K (rSum K) [.lst (ns.map D.int)] P := ck1 fun B Fr ρ σ Hs H u Q E h1 q => by
  obtain ⟨p1, vs1, rfl, g1, i1⟩ := ish_lst E h1
  rw [iss_ints.mp i1] at g1
  exact ⟨p1, ns, rfl, .inl (.inl g1), q _ _ Hs H k E (Same.refl _) (is_int.mpr rfl)⟩
def rTupOf (K : PySem.W.Frag) : List V → Hp → VK → Prop := fun xs H Q => ∃ p ys, xs = [.ref p] ∧ ((SqL K H p ys ∧ ∀ l, H l = none → Q (.ref l) (upd H l (.tup ys))) ∨ (SqT K H p ys ∧ Q (.ref p) H))
theorem call_tupA : CallR X (.type "tuple") (rTupOf X.K) := call_tuple_of
theorem ck_tup_lst {ds : List D} (k : P (.tup ds)) : CK K (rTupOf K) [.lst ds] P := ck1 fun B Fr ρ σ Hs H u Q E h1 q => by
  obtain ⟨p1, vs1, rfl, g1, i1⟩ := ish_lst E h1
  refine ⟨p1, vs1, rfl, .inl ⟨.inl (.inl g1), fun p hp => ?_⟩⟩
  have hps := (E.allocOwn (o := .tup vs1) hp).2
  exact q _ _ _ _ k (E.alloc hp) (same_upd hps) (is_tup.mpr ⟨p, _, rfl, .inl (.inl upd_same), Iss.mono (same_upd hps) _ _ i1⟩)
def rLstOf (K : PySem.W.Frag) : List V → Hp → VK → Prop := fun xs H Q => ∃ p ys, xs = [.ref p] ∧ (SqL K H p ys ∨ SqT K H p ys) ∧ ∀ l, H l = none → Q (.ref l) (upd H l (.lst ys))
theorem call_lstA : CallR X (.type "list") (rLstOf X.K) := call_list_of
theorem cf_lst_lst {ds : List D} (k : PF ds) : CF K (rLstOf K) [.lst ds] PF := cf1 fun B Fr ρ σ Hs H u Q E h1 q => by
  obtain ⟨p1, vs1, rfl, g1, i1⟩ := ish_lst E h1
  refine ⟨p1, vs1, rfl, .inl (.inl (.inl g1)), fun p hp => ?_⟩
  obtain ⟨E2, hps⟩ := E.allocOwn (o := .lst vs1) hp
  obtain ⟨f1, f2⟩ := new_facts E hp
  exact q p _ _ _ k E2 upd_same hps i1 f1 f2
def rMax2 : List V → Hp → VK → Prop := fun xs H Q => ∃ i j, xs = [.int i, .int j] ∧ Q (.int (if j > i then j else i)) H
def rMin2 : List V → Hp → VK → Prop := fun xs H Q => ∃ i j, xs = [.int i, .int j] ∧ Q (.int (if j < i then j else i)) H
theorem call_max2A (hc : X.calm = true := by rfl) : CallR X (.builtin "max") rMax2 := call_max2 hc
theorem call_min2A (hc : X.calm = true := by rfl) : CallR X (.builtin "min") rMin2 := call_min2 hc
theorem ck_max2 {i j : Int} (k : P (.int (max i j))) : CK K rMax2 [.int i, .int j] P := ck2 fun B Fr ρ σ Hs H u v Q E h1 h2 q => by
  refine ⟨i, j, by rw [ish_int h1, ish_int h2], ?_⟩
  have e : (if j > i then j else i) = max i j := by split <;> omega
  rw [e]
  exact q _ _ Hs H k E (Same.refl _) (is_int.mpr rfl)
theorem ck_min2 {i j : Int} (k : P (.int (min i j))) : CK K rMin2 [.int i, .int j] P := ck2 fun B Fr ρ σ Hs H u v Q E h1 h2 q => by
  refine ⟨i, j, by rw [ish_int h1, ish_int h2], ?_⟩
  have e : (if j < i then j else i) = min i j := by split <;> omega
  rw [e]
  exact q _ _ Hs H k E (Same.refl _) (is_int.mpr rfl)
/-! ### isinstance -/
def D.tyn : D → Option String
  | .non => some "NoneType"
  | .bl _ => some "bool"
  | .int _ => some "int"
  | .str _ => some "str"
  | .lst _ => some "list"
  | .tup _ => some "tuple"
  | .scr _ => none
  | .ref _ => none
  | .ty _ => none
theorem ish_ty {B : Option Addr} {Fr : Addr → HO → Prop} {ρ : Lo} {σ : L2.St} {Hs H : Hp} {d : D} {v : V} (E : EnvOk K B Fr ρ σ Hs H) (h : IsH K Hs H d v) {n : String} (hn : d.tyn = some n) : TyX K H v (.type n) := by
  cases d with
  | non => cases hn; rw [ish_non h]; exact .base .non
  | bl b => cases hn; rw [ish_bl h]; exact .base (.bl b)
  | int i => cases hn; rw [ish_int h]; exact .base (.int i)
  | str w => cases hn; rw [ish_str h]; exact .base (.str _)
  | lst xs => cases hn; obtain ⟨a, vs, rfl, h1, _⟩ := ish_lst E h; exact .base (.lst h1)
  | tup xs =>
    cases hn
    obtain ⟨a, vs, rfl, h1, _⟩ := ish_tup E h
    rcases h1 with (h1 | ⟨o, h1⟩) | ⟨o, its, n, h1, h2, _⟩
    · exact .base (.tup h1)
    · exact .fTuple h1
    · exact .kTuple h1 h2
  | scr ns => cases hn
  | ref a => cases hn
  | ty n => cases hn
theorem ck_isi {d : D} {t n : String} {b : Bool} (hn : d.tyn = some t) (hb : kitB t n = some b) (k : P (.bl b)) : CK K (rIsi K) [d, .ty n] P := ck2 fun B Fr ρ σ Hs H u v Q E h1 h2 q => by
  have e : v = .ty n := by
    rcases h2 with h2 | ⟨_, _, _, z, _⟩
    · exact is_ty.mp h2
    · cases z
  subst e
  exact ⟨u, .ty n, _, _, b, rfl, .ty n, ish_ty E h1 hn, kit_ty hb, q _ _ Hs H k E (Same.refl _) (is_bl.mpr rfl)⟩
def kitBs (t : String) : List String → Option Bool
  | [] => some false
  | n :: ns => match kitB t n with
    | some true => some true
    | some false => kitBs t ns
    | none => none
theorem kit_any {t : String} : ∀ {ns : List String} {b : Bool}, kitBs t ns = some b → PySem.W.kitAny K (.type t) (ns.map Value.type) = some b
  | [], b, h => h
  | n :: ns, b, h => by
    unfold kitBs at h
    rw [List.map_cons]
    unfold PySem.W.kitAny
    cases hb : kitB t n with
    | none => rw [hb] at h; cases h
    | some r =>
      rw [hb] at h
      rw [kit_ty (K := K) hb]
      cases r with
      | true => exact h
      | false => exact kit_any h
end
section
variable {X : Cx} {PX : XP} {ρ : Lo} {e : Expr} {es : List Expr} {pos p : Pos} {W : Lo → D → Prop}
theorem iss_tys {K : PySem.W.Frag} {Hs : Hp} : ∀ {ns : List String} {vs : List V}, Iss K Hs (ns.map D.ty) vs → Paired ClsV vs (ns.map Value.type)
  | [], vs, i => by rw [iss_nil.mp i]; exact .nil
  | n :: ns, vs, i => by
    obtain ⟨v, r, rfl, k1, k2⟩ := iss_cons.mp i
    rw [is_ty.mp k1]
    exact .cons (.ty n) (iss_tys k2)
/-- isinstance(e, (T, ..)) -/
theorem de_isiT {kk : Nat} {tpos : Pos} (hm : X.mg "isinstance" = none) (h : DH X PX ρ e fun ρ1 x => DA X PX ρ1 es fun ρ2 ds => ∃ d t ns b, x.get ρ2 d ∧ ds = ns.map D.ty ∧ ns.length ≤ 100 ∧ d.tyn = some t ∧ kitBs t ns = some b ∧ W ρ2 (.bl b)) (hg : Gl X "isinstance" := by rfl)
    (he : starEach [e, .Tuple es kk tpos] X.env = (false, eval e X.env) :: starEach [.Tuple es kk tpos] X.env := by rfl) (he2 : starEach [.Tuple es kk tpos] X.env = (false, eval (.Tuple es kk tpos) X.env) :: starEach [] X.env := by rfl)
    (hpl : (backTo pos (starEach [.Tuple es kk tpos] X.env)).any (·.1) = false := by rfl) : DE X PX ρ (.Call (.Name "isinstance" p) [e, .Tuple es kk tpos] [] pos) W := by
 with_unfolding_all
 exact fun B Fr Wx σ Hs H Q E tk kx q => by
  refine w_pe (pe_callB call_isiT hg hm (by decide +kernel) (pa_cons pe_w (pa_cons (pe_tup pa_w) pa_nil he2) he) (by decide) (by decide) he hpl) ?_
  refine h B Fr Wx σ Hs H _ E tk kx fun v ρ1 x Hs1 H1 w E1 s1 i1 => ?_
  refine w B Fr Wx σ Hs1 H1 _ E1 tk (kx.up s1) fun vs ρ2 ds Hs2 H2 w2 E2 s2 i2 => ?_
  obtain ⟨d, t, ns, b, g, rfl, hl, ht, hb, w3⟩ := w2
  refine ⟨by rw [iss_len i2, List.length_map]; exact sz (by omega), fun p hp => ?_⟩
  have E3 := E2.alloc (o := .tup vs) hp
  have hps := (E2.allocOwn (o := .tup vs) hp).2
  refine ⟨v, p, vs, .type t, ns.map Value.type, b, rfl, upd_same, iss_tys i2, ?_, kit_any hb, q _ ρ2 _ _ _ w3 E3 ((s1.trans s2).trans (same_upd hps)) (is_bl.mpr rfl)⟩
  exact ish_ty E3 (hn_is E3 (i1.mono (s2.trans (same_upd hps))) g) ht
end
end DL
namespace DL
open PySem PySem.Spec PyProof.Rows L2
/-! ### methods of texts -/
theorem mapTx_len (ys : List (List Nat)) : ((ys.map tx).map (·.length)).sum = (ys.map List.length).sum := by
  induction ys with
  | nil => rfl
  | cons y ys ih => simp only [List.map_cons, List.sum_cons, tx_len, ih]
theorem foldl_cps (g : Array Nat) (a : Array Nat) (ys : List (List Nat)) : ((ys.map tx).foldl (fun acc p => acc ++ g ++ p.cps) a) = (a.toList ++ (ys.map fun y => g.toList ++ y).flatten).toArray := by
  induction ys generalizing a with
  | nil => simp
  | cons y ys ih =>
    rw [List.map_cons, List.foldl_cons, ih]
    simp [tx]
/-- sep.join -/
def joined (sep : List Nat) : List (List Nat) → List Nat
  | [] => []
  | y :: ys => y ++ (ys.map fun z => sep ++ z).flatten
theorem glue_eq (sep : List Nat) (ys : List (List Nat)) : Txt.join (tx sep) (ys.map tx) = tx (joined sep ys) := by
  unfold Txt.join Builtin.Str.glued
  cases ys with
  | nil => rfl
  | cons y ys =>
    show Str.mk (((ys.map tx)).foldl (fun acc p => acc ++ (tx sep).cps ++ p.cps) (tx y).cps) = tx (y ++ _)
    rw [foldl_cps]
theorem joined_nil (ys : List (List Nat)) : joined [] ys = ys.flatten := by
  cases ys with
  | nil => rfl
  | cons y ys => simp [joined]
section
variable {K : PySem.W.Frag} {P : D → Prop} {PF : List D → Prop} {X : Cx}
abbrev rcv (r : V → List V → Hp → VK → Prop) : List V → Hp → VK → Prop := fun us H Q => ∃ u us', us = u :: us' ∧ r u us' H Q
def rJoin (K : PySem.W.Frag) : V → List V → Hp → VK → Prop := fun x xs H Q => ∃ a p, ∃ ys : List Str, x = .str a ∧ xs = [.ref p] ∧ (SqL K H p (ys.map V.str) ∨ SqT K H p (ys.map V.str)) ∧ (ys.map (·.length)).sum + ys.length * a.length ≤ 16777216 ∧ Q (.str (Txt.join a ys)) H
theorem mt_joinA : MtR X "str.join" (rJoin X.K) := mt_join
theorem ck_join {sep : List Nat} {ys : List (List Nat)} (hz : (ys.map List.length).sum + ys.length * sep.length ≤ 10000000) (k : P (.str (joined sep ys))) : CK K (rcv (rJoin K)) [.str sep, .lst (ys.map D.str)] P := ck2 fun B Fr ρ σ Hs H u v Q E h1 h2 q => by
  obtain ⟨p1, vs1, rfl, g1, i1⟩ := ish_lst E h2
  rw [iss_strs.mp i1] at g1
  refine ⟨u, _, rfl, tx sep, p1, ys.map tx, ish_str h1, rfl, .inl (.inl (.inl g1)), ?_, ?_⟩
  · rw [mapTx_len, List.length_map, tx_len]; omega
  · rw [glue_eq]; exact q _ _ Hs H k E (Same.refl _) (is_str.mpr rfl)
theorem ck_joinT {sep : List Nat} {ys : List (List Nat)} (hz : (ys.map List.length).sum + ys.length * sep.length ≤ 10000000) (k : P (.str (joined sep ys))) : CK K (rcv (rJoin K)) [.str sep, .tup (ys.map D.str)] P := ck2 fun B Fr ρ σ Hs H u v Q E h1 h2 q => by
  obtain ⟨p1, vs1, rfl, g1, i1⟩ := ish_tup E h2
  rw [iss_strs.mp i1] at g1
  refine ⟨u, _, rfl, tx sep, p1, ys.map tx, ish_str h1, rfl, .inr g1, ?_, ?_⟩
  · rw [mapTx_len, List.length_map, tx_len]; omega
  · rw [glue_eq]; exact q _ _ Hs H k E (Same.refl _) (is_str.mpr rfl)
/-- b stands in a from place i on -/
theorem subAt_eq (a b : List Nat) (i : Nat) : Builtin.Str.subAt (tx a) (tx b) i = decide ((a.drop i).take b.length = b) := by
  unfold Builtin.Str.subAt
  rw [tx_len]
  rw [Bool.eq_iff_iff, beq_iff_eq, decide_eq_true_eq]
  constructor
  · intro h
    have := congrArg Array.toList h
    simpa [tx, List.take_drop] using this
  · intro h
    apply Array.ext'
    show (Array.extract a.toArray i (i + b.length)).toList = b
    rw [Array.toList_extract]
    simpa [List.take_drop] using h
def rStarts : V → List V → Hp → VK → Prop := fun x xs H Q => ∃ a b, x = .str a ∧ xs = [.str b] ∧ Q (.bl (Txt.startswith a b)) H
theorem mt_startsA : MtR X "str.startswith" rStarts := mt_startswith
theorem ck_starts {a b : List Nat} (k : P (.bl (b.isPrefixOf a))) : CK K (rcv rStarts) [.str a, .str b] P := ck2 fun B Fr ρ σ Hs H u v Q E h1 h2 q => by
  refine ⟨u, _, rfl, tx a, tx b, ish_str h1, by rw [ish_str h2], ?_⟩
  have e : Txt.startswith (tx a) (tx b) = b.isPrefixOf a := by
    unfold Txt.startswith
    rw [subAt_eq, tx_len, tx_len, Bool.eq_iff_iff]
    simp only [Bool.and_eq_true, decide_eq_true_eq, List.isPrefixOf_iff_prefix, List.drop_zero]
    constructor
    · rintro ⟨_, h⟩
      exact List.prefix_iff_eq_take.mpr h.symm
    · intro h
      exact ⟨by have := h.length_le; omega, (List.prefix_iff_eq_take.mp h).symm⟩
  rw [e]
  exact q _ _ Hs H k E (Same.refl _) (is_bl.mpr rfl)
def rEnds : V → List V → Hp → VK → Prop := fun x xs H Q => ∃ a b, x = .str a ∧ xs = [.str b] ∧ Q (.bl (Txt.endswith a b)) H
theorem mt_endsA : MtR X "str.endswith" rEnds := mt_endswith
theorem ck_ends {a b : List Nat} (k : P (.bl (b.isSuffixOf a))) : CK K (rcv rEnds) [.str a, .str b] P := ck2 fun B Fr ρ σ Hs H u v Q E h1 h2 q => by
  refine ⟨u, _, rfl, tx a, tx b, ish_str h1, by rw [ish_str h2], ?_⟩
  have e : Txt.endswith (tx a) (tx b) = b.isSuffixOf a := by
    unfold Txt.endswith
    rw [subAt_eq, tx_len, tx_len, Bool.eq_iff_iff]
    simp only [Bool.and_eq_true, decide_eq_true_eq, List.isSuffixOf_iff_suffix]
    constructor
    · rintro ⟨h0, h⟩
      rw [List.take_of_length_le (by rw [List.length_drop]; omega)] at h
      exact List.suffix_iff_eq_drop.mpr h.symm
    · intro h
      have hl := h.length_le
      refine ⟨by omega, ?_⟩
      rw [List.take_of_length_le (by rw [List.length_drop]; omega)]
      exact (List.suffix_iff_eq_drop.mp h).symm
  rw [e]
  exact q _ _ Hs H k E (Same.refl _) (is_bl.mpr rfl)
/-! ### in -/
def rInAll (K : PySem.W.Frag) : R2 := fun x y H Q => ((fun x y (H : Hp) (Q : VK) => ∃ (c : Nat) (z : Str), x = .str ⟨#[c]⟩ ∧ y = .str z ∧ Q (.bl (decide (c ∈ z.cps.toList))) H) x y H Q) ∨ rIn K false x y H Q
theorem op_inAll : OpR X (compareOp .In) (rInAll X.K) := OpR.or op_in_sign op_in_seq
def rNotInAll (K : PySem.W.Frag) : R2 := fun x y H Q => ((fun x y (H : Hp) (Q : VK) => ∃ (c : Nat) (z : Str), x = .str ⟨#[c]⟩ ∧ y = .str z ∧ Q (.bl (!decide (c ∈ z.cps.toList))) H) x y H Q) ∨ rIn K true x y H Q
theorem op_notInAll : OpR X (compareOp .NotIn) (rNotInAll X.K) := OpR.or op_notIn_sign op_notIn_seq
theorem rb_in_sign {c : Nat} {w : List Nat} : RB K (rInAll K) (.str [c]) (.str w) (decide (c ∈ w)) := by
 with_unfolding_all
 exact fun B Fr ρ σ Hs H u v Q E h1 h2 q =>
  .inl ⟨c, tx w, ish_str h1, ish_str h2, by rw [tx_list]; exact q⟩
theorem rb_notIn_sign {c : Nat} {w : List Nat} : RB K (rNotInAll K) (.str [c]) (.str w) (!decide (c ∈ w)) := by
 with_unfolding_all
 exact fun B Fr ρ σ Hs H u v Q E h1 h2 q =>
  .inl ⟨c, tx w, ish_str h1, ish_str h2, by rw [tx_list]; exact q⟩
theorem inV_ints {i : Int} {ns : List Int} : inV (.int i) (ns.map V.int) = decide (i ∈ ns) := by
  unfold inV
  rw [Bool.eq_iff_iff, List.any_eq_true, decide_eq_true_eq]
  constructor
  · rintro ⟨y, hy, h⟩
    obtain ⟨n, hn, rfl⟩ := List.mem_map.mp hy
    have : n = i := by simpa [eqV] using h
    rwa [← this]
  · intro h
    exact ⟨.int i, List.mem_map.mpr ⟨i, h, rfl⟩, by simp [eqV]⟩
theorem inV_strs {w : List Nat} {ws : List (List Nat)} : inV (.str (tx w)) ((ws.map tx).map V.str) = decide (w ∈ ws) := by
  unfold inV
  rw [Bool.eq_iff_iff, List.any_eq_true, decide_eq_true_eq]
  constructor
  · rintro ⟨y, hy, h⟩
    obtain ⟨n, hn, rfl⟩ := List.mem_map.mp hy
    obtain ⟨m, hm, rfl⟩ := List.mem_map.mp hn
    have : tx m = tx w := by simpa [eqV] using h
    rwa [← tx_inj.mp this]
  · intro h
    exact ⟨.str (tx w), List.mem_map.mpr ⟨tx w, List.mem_map.mpr ⟨w, h, rfl⟩, rfl⟩, by simp [eqV]⟩
theorem flat_ints (ns : List Int) : (ns.map V.int).all flatV = true := by
  rw [List.all_eq_true]; intro x hx; obtain ⟨n, _, rfl⟩ := List.mem_map.mp hx; rfl
theorem flat_strs (ns : List Str) : (ns.map V.str).all flatV = true := by
  rw [List.all_eq_true]; intro x hx; obtain ⟨n, _, rfl⟩ := List.mem_map.mp hx; rfl
theorem rb_in_ints {i : Int} {ns : List Int} : RB K (rInAll K) (.int i) (.lst (ns.map D.int)) (decide (i ∈ ns)) := by
 with_unfolding_all
 exact fun B Fr ρ σ Hs H u v Q E h1 h2 q => by
  obtain ⟨p1, vs1, rfl, g1, i1⟩ := ish_lst E h2
  rw [iss_ints.mp i1] at g1
  rw [ish_int h1]
  exact .inr ⟨p1, _, rfl, .inl (.inl (.inl g1)), rfl, flat_ints ns, by rw [inV_ints]; exact q⟩
theorem rb_in_intsT {i : Int} {ns : List Int} : RB K (rInAll K) (.int i) (.tup (ns.map D.int)) (decide (i ∈ ns)) := by
 with_unfolding_all
 exact fun B Fr ρ σ Hs H u v Q E h1 h2 q => by
  obtain ⟨p1, vs1, rfl, g1, i1⟩ := ish_tup E h2
  rw [iss_ints.mp i1] at g1
  rw [ish_int h1]
  exact .inr ⟨p1, _, rfl, .inr g1, rfl, flat_ints ns, by rw [inV_ints]; exact q⟩
theorem rb_in_strs {w : List Nat} {ws : List (List Nat)} : RB K (rInAll K) (.str w) (.lst (ws.map D.str)) (decide (w ∈ ws)) := by
 with_unfolding_all
 exact fun B Fr ρ σ Hs H u v Q E h1 h2 q => by
  obtain ⟨p1, vs1, rfl, g1, i1⟩ := ish_lst E h2
  rw [iss_strs.mp i1] at g1
  rw [ish_str h1]
  exact .inr ⟨p1, _, rfl, .inl (.inl (.inl g1)), rfl, flat_strs _, by rw [inV_strs]; exact q⟩
theorem rb_in_strsT {w : List Nat} {ws : List (List Nat)} : RB K (rInAll K) (.str w) (.tup (ws.map D.str)) (decide (w ∈ ws)) := by
 with_unfolding_all
 exact fun B Fr ρ σ Hs H u v Q E h1 h2 q => by
  obtain ⟨p1, vs1, rfl, g1, i1⟩ := ish_tup E h2
  rw [iss_strs.mp i1] at g1
  rw [ish_str h1]
  exact .inr ⟨p1, _, rfl, .inr g1, rfl, flat_strs _, by rw [inV_strs]; exact q⟩
theorem rb_notIn_strs {w : List Nat} {ws : List (List Nat)} : RB K (rNotInAll K) (.str w) (.lst (ws.map D.str)) (!decide (w ∈ ws)) := by
 with_unfolding_all
 exact fun B Fr ρ σ Hs H u v Q E h1 h2 q => by
  obtain ⟨p1, vs1, rfl, g1, i1⟩ := ish_lst E h2
  rw [iss_strs.mp i1] at g1
  rw [ish_str h1]
  exact .inr ⟨p1, _, rfl, .inl (.inl (.inl g1)), rfl, flat_strs _, by rw [inV_strs]; exact q⟩
/-! ### the first place of a sign in a text without doubles -/
def rSIndex : V → List V → Hp → VK → Prop := fun x xs H Q => ∃ a b i rest, x = .str a ∧ xs = [.str b] ∧ Builtin.Str.occurrences a b 0 a.length 1 = i :: rest ∧ Q (.int (i : Nat)) H
theorem mt_sindexA : MtR X "str.index" rSIndex := mt_sindex
theorem ck_sindex {a b : List Nat} {i : Nat} {rest : List Nat} (h : Builtin.Str.occurrences (tx a) (tx b) 0 a.length 1 = i :: rest) (k : P (.int (i : Nat))) : CK K (rcv rSIndex) [.str a, .str b] P := ck2 fun B Fr ρ σ Hs H u v Q E h1 h2 q =>
  ⟨u, _, rfl, tx a, tx b, i, rest, ish_str h1, by rw [ish_str h2], by rw [tx_len]; exact h, q _ _ Hs H k E (Same.refl _) (is_int.mpr rfl)⟩
end
end DL
namespace DL
open PySem PySem.Spec PyProof.Rows L2
/-! ### * -/
theorem fold_cps (w : List Nat) : ∀ (n : Nat) (a : Array Nat), (List.replicate n (tx w).cps).foldl (· ++ ·) a = (a.toList ++ (List.replicate n w).flatten).toArray
  | 0, a => by simp
  | n + 1, a => by
    rw [List.replicate_succ, List.foldl_cons, fold_cps w n]
    simp [tx, List.replicate_succ]
theorem flat_len {α : Type} (n : Nat) (w : List α) : (List.replicate n w).flatten.length = n * w.length := by
  induction n with
  | zero => simp
  | succ n ih => rw [List.replicate_succ, List.flatten_cons, List.length_append, ih, Nat.succ_mul]; omega
def rMulStr : R2 := fun x y H Q => ∃ (w : List Nat) (n : Int), x = .str (tx w) ∧ y = .int n ∧ n ≤ 100000 ∧ -100000 ≤ n ∧ w.length * n.toNat ≤ 1000000 ∧ w.length ≤ 100000 ∧ Q (.str (tx (List.replicate n.toNat w).flatten)) H
theorem op_mulStr {X : Cx} : OpR X (binaryOp .Mult) rMulStr := by
  intro pins s σ H x y v u Q I rx ry h
  obtain ⟨w, n, rfl, rfl, hn, hn2, hz, hw, q⟩ := h
  obtain ⟨t, rfl⟩ := rx
  obtain ⟨t', rfl⟩ := ry
  have line : ∀ {k : Nat}, k ≤ 1000000 → k ≤ sizeLine := fun h => Nat.le_trans h (by decide)
  refine PySem.P.mul_str ?_ (fun h1 h2 => ?_) (fun h1 h2 => ?_) ?_
  · rw [decide_eq_false (by omega), decide_eq_false (by omega)]; rfl
  · rw [tx_len]
    intro hgt
    have hp : (0 : Int) < n := by omega
    have : (w.length : Int) * n ≤ 1000000 := by
      have h6 : ((w.length * n.toNat : Nat) : Int) ≤ ((1000000 : Nat) : Int) := Int.ofNat_le.mpr hz
      rw [Int.natCast_mul, Int.toNat_of_nonneg (by omega)] at h6
      exact h6
    have h4 : (2 ^ 63 - 1) / n < (w.length : Int) := hgt
    have h5 := (Int.ediv_lt_iff_lt_mul hp).mp h4
    omega
  · unfold Builtin.Str.tooLong
    rw [tx_len]
    exact decide_eq_false (by have := line hz; omega)
  · by_cases h1 : n < 1
    · rw [if_pos h1]
      have e : n.toNat = 0 := by omega
      rw [e, List.replicate_zero] at q
      exact ⟨by decide, .str (tx []), H, I.tok _, ⟨_, rfl⟩, q⟩
    · rw [if_neg h1]
      by_cases h2 : (n == 1 || (tx w).length == 0) = true
      · rw [if_pos h2]
        have e : (List.replicate n.toNat w).flatten = w := by
          rw [tx_len] at h2
          simp only [Bool.or_eq_true, beq_iff_eq] at h2
          rcases h2 with h2 | h2
          · subst h2; simp
          · have : w = [] := List.length_eq_zero_iff.mp h2
            subst this
            simp
        rw [e] at q
        exact ⟨.str (tx w), H, I, ⟨t, rfl⟩, q⟩
      · rw [if_neg h2]
        have e : (⟨(List.replicate n.toNat (tx w).cps).foldl (· ++ ·) #[]⟩ : Str) = tx (List.replicate n.toNat w).flatten := by
          rw [fold_cps]; simp [tx]
        rw [e]
        refine ⟨?_, .str _, H, I.tok _, ⟨_, rfl⟩, q⟩
        rw [tx_len, flat_len, Nat.mul_comm]
        exact line hz
def rMulAll (K : PySem.W.Frag) : R2 := fun x y H Q => (rI CMul fun i j => .int (i * j)) x y H Q ∨ (rMulStr x y H Q ∨ rRep x y H Q)
theorem op_mulAll {X : Cx} : OpR X (binaryOp .Mult) (rMulAll X.K) := OpR.or op_mul (OpR.or op_mulStr op_rep)
section
variable {K : PySem.W.Frag} {P : D → Prop} {PF : List D → Prop}
theorem rk_mul_int {i j : Int} (c : CMul i j) (k : P (.int (i * j))) : RK K (rMulAll K) (.int i) (.int j) P := by
 with_unfolding_all
 exact fun B Fr ρ σ Hs H u v Q E h1 h2 q =>
  .inl ⟨i, j, ish_int h1, ish_int h2, c, q _ _ Hs H k E (Same.refl _) (is_int.mpr rfl)⟩
theorem rk_mul_str {w : List Nat} {n : Int} (h : (n ≤ 100000 ∧ -100000 ≤ n) ∧ w.length * n.toNat ≤ 1000000 ∧ w.length ≤ 100000) (k : P (.str (List.replicate n.toNat w).flatten)) : RK K (rMulAll K) (.str w) (.int n) P := by
 with_unfolding_all
 exact fun B Fr ρ σ Hs H u v Q E h1 h2 q =>
  .inr (.inl ⟨w, n, ish_str h1, ish_int h2, h.1.1, h.1.2, h.2.1, h.2.2, q _ _ Hs H k E (Same.refl _) (is_str.mpr rfl)⟩)
theorem iss_rep {H : Hp} {ds : List D} {vs : List V} (i : Iss K H ds vs) : ∀ n : Nat, Iss K H (List.replicate n ds).flatten (List.replicate n vs).flatten
  | 0 => iss_nil.mpr rfl
  | n + 1 => by
    rw [List.replicate_succ, List.replicate_succ, List.flatten_cons, List.flatten_cons]
    exact iss_app i (iss_rep i n)
theorem rf_mul_lst {ds : List D} {n : Int} (h : (n ≤ 100000 ∧ -100000 ≤ n) ∧ ds.length * n.toNat ≤ 1000000) (k : PF (List.replicate n.toNat ds).flatten) : RF K (rMulAll K) (.lst ds) (.int n) PF := by
 with_unfolding_all
 exact fun B Fr ρ σ Hs H u v Q E h1 h2 q => by
  obtain ⟨p1, vs1, rfl, g1, i1⟩ := ish_lst E h1
  refine .inr (.inr ⟨p1, n, vs1, rfl, ish_int h2, g1, by omega, by omega, by rw [iss_len i1]; exact Nat.le_trans h.2 (by decide), fun p hp => ?_⟩)
  obtain ⟨E2, hps⟩ := E.allocOwn (o := .lst (List.replicate n.toNat vs1).flatten) hp
  obtain ⟨f1, f2⟩ := new_facts E hp
  exact q p _ _ _ k E2 upd_same hps (iss_rep i1 _) f1 f2
theorem rk_mul_lst {ds : List D} {n : Int} (h : (n ≤ 100000 ∧ -100000 ≤ n) ∧ ds.length * n.toNat ≤ 1000000) (k : P (.lst (List.replicate n.toNat ds).flatten)) : RK K (rMulAll K) (.lst ds) (.int n) P := by
 with_unfolding_all
 exact fun B Fr ρ σ Hs H u v Q E h1 h2 q => by
  obtain ⟨p1, vs1, rfl, g1, i1⟩ := ish_lst E h1
  refine .inr (.inr ⟨p1, n, vs1, rfl, ish_int h2, g1, by omega, by omega, by rw [iss_len i1]; exact Nat.le_trans h.2 (by decide), fun p hp => ?_⟩)
  have hps := (E.allocOwn (o := .lst (List.replicate n.toNat vs1).flatten) hp).2
  exact q _ _ _ _ k (E.alloc hp) (same_upd hps) (is_lst.mpr ⟨p, _, rfl, upd_same, Iss.mono (same_upd hps) _ _ (iss_rep i1 _)⟩)
end
/-! ### guards: which form, which name -/
section
variable {X : Cx} {PX : XP} {ρ : Lo} {e a b : Expr} {es : List Expr} {pos p : Pos} {x : Str} {W : Lo → D → Prop} {WH : Lo → Hn → Prop} {N : Lo → Prop} {NE : EndsD} {vs : List Nat} {d : D}
theorem isName (x : Str) (h : DE X PX ρ (.Name x pos) W) : DE X PX ρ (.Name x pos) W := h
theorem isNameH (x : Str) (h : DH X PX ρ (.Name x pos) WH) : DH X PX ρ (.Name x pos) WH := h
theorem isCall (x : Str) (h : DE X PX ρ (.Call (.Name x p) es [] pos) W) : DE X PX ρ (.Call (.Name x p) es [] pos) W := h
theorem isCallF {WF : Lo → List D → Prop} (x : Str) (h : DF X PX ρ (.Call (.Name x p) es [] pos) WF) : DF X PX ρ (.Call (.Name x p) es [] pos) WF := h
theorem isTg (x : Str) (h : DG X vs ρ (.Name x pos) d N) : DG X vs ρ (.Name x pos) d N := h
theorem isSet (x : Str) {p1 : Pos} (h : DS X PX ρ (.Assign [.Name x p1] e pos) NE) : DS X PX ρ (.Assign [.Name x p1] e pos) NE := h
theorem isAug (x : Str) {p1 : Pos} {op : Operator} (h : DS X PX ρ (.AugAssign (.Name x p1) op e pos) NE) : DS X PX ρ (.AugAssign (.Name x p1) op e pos) NE := h
theorem isPut (x : Str) {p1 p2 : Pos} {i : Expr} (h : DS X PX ρ (.Assign [.Subscript (.Name x p1) i p2] e pos) NE) : DS X PX ρ (.Assign [.Subscript (.Name x p1) i p2] e pos) NE := h
theorem isMeth (m : Str) {o : Expr} {ap : Pos} (h : DE X PX ρ (.Call (.Attribute o m ap) es [] pos) W) : DE X PX ρ (.Call (.Attribute o m ap) es [] pos) W := h
theorem isApp (x : Str) {p1 p2 p3 : Pos} (h : DS X PX ρ (.Expr (.Call (.Attribute (.Name x p1) "append" p2) [e] [] p3) pos) NE) : DS X PX ρ (.Expr (.Call (.Attribute (.Name x p1) "append" p2) [e] [] p3) pos) NE := h
theorem isAdd (h : DE X PX ρ (.BinOp a .Add b pos) W) : DE X PX ρ (.BinOp a .Add b pos) W := h
/-- all handles of a call -/
theorem hns1 {h : Hn} {d : D} (g : h.get ρ d) : Hns.get ρ [h] [d] := ⟨d, [], rfl, g, rfl⟩
theorem hns2 {h h' : Hn} {d d' : D} (g : h.get ρ d) (g' : h'.get ρ d') : Hns.get ρ [h, h'] [d, d'] := ⟨d, [d'], rfl, g, d', [], rfl, g', rfl⟩
theorem get_sh {d : D} : Hn.get ρ (.sh d) d := rfl
theorem get_own {i : Nat} {b : Bool} {ds : List D} (h : ρ[i]? = some (some (.own b ds))) : Hn.get ρ (.own i) (.lst ds) := ⟨b, ds, h, rfl⟩
/-- an if whose test's outcome is open -/
theorem ifb {A B : Prop} {c : Bool} (h1 : c = true → A) (h2 : c = false → B) : if c = true then A else B := by
  cases c with
  | true => rw [if_pos rfl]; exact h1 rfl
  | false => rw [if_neg (by decide)]; exact h2 rfl
theorem ifT {A B : Prop} {c : Bool} (hc : c = true) (h : A) : if c = true then A else B := by rw [if_pos hc]; exact h
theorem ifF {A B : Prop} {c : Bool} (hc : c = false) (h : B) : if c = true then A else B := by rw [if_neg (by rw [hc]; decide)]; exact h
end
section
variable {X : Cx} {PX : XP} {ρ : Lo} {e a b : Expr} {pos : Pos} {W : Lo → D → Prop} {WF : Lo → List D → Prop} {WT : Lo → Bool → Prop}
theorem de_add (h : DH X PX ρ a fun ρ1 x => DH X PX ρ1 b fun ρ2 y => ∃ d d', x.get ρ2 d ∧ y.get ρ2 d' ∧ RK X.K (rAddAll X.K) d d' (W ρ2)) : DE X PX ρ (.BinOp a .Add b pos) W := de_op op_addAll h
theorem de_sub (h : DH X PX ρ a fun ρ1 x => DH X PX ρ1 b fun ρ2 y => ∃ d d', x.get ρ2 d ∧ y.get ρ2 d' ∧ RK X.K (rI0 fun i j => .int (i - j)) d d' (W ρ2)) : DE X PX ρ (.BinOp a .Sub b pos) W := de_op op_sub h
theorem de_mul (h : DH X PX ρ a fun ρ1 x => DH X PX ρ1 b fun ρ2 y => ∃ d d', x.get ρ2 d ∧ y.get ρ2 d' ∧ RK X.K (rMulAll X.K) d d' (W ρ2)) : DE X PX ρ (.BinOp a .Mult b pos) W := de_op op_mulAll h
theorem de_mod (h : DH X PX ρ a fun ρ1 x => DH X PX ρ1 b fun ρ2 y => ∃ d d', x.get ρ2 d ∧ y.get ρ2 d' ∧ RK X.K (rI (fun _ j => 0 < j) fun i j => .int (i % j)) d d' (W ρ2)) : DE X PX ρ (.BinOp a .Mod b pos) W := de_op op_mod h
theorem de_div (h : DH X PX ρ a fun ρ1 x => DH X PX ρ1 b fun ρ2 y => ∃ d d', x.get ρ2 d ∧ y.get ρ2 d' ∧ RK X.K (rI CDiv fun i j => .int (i / j)) d d' (W ρ2)) : DE X PX ρ (.BinOp a .FloorDiv b pos) W := de_op op_fdiv h
theorem de_pow (h : DH X PX ρ a fun ρ1 x => DH X PX ρ1 b fun ρ2 y => ∃ d d', x.get ρ2 d ∧ y.get ρ2 d' ∧ RK X.K (rI CPow fun i j => .int (i ^ j.toNat)) d d' (W ρ2)) : DE X PX ρ (.BinOp a .Pow b pos) W := de_op op_pow h
theorem de_shl (h : DH X PX ρ a fun ρ1 x => DH X PX ρ1 b fun ρ2 y => ∃ d d', x.get ρ2 d ∧ y.get ρ2 d' ∧ RK X.K (rI CPow fun i j => .int (i * 2 ^ j.toNat)) d d' (W ρ2)) : DE X PX ρ (.BinOp a .LShift b pos) W := de_op op_shl h
theorem de_shr (h : DH X PX ρ a fun ρ1 x => DH X PX ρ1 b fun ρ2 y => ∃ d d', x.get ρ2 d ∧ y.get ρ2 d' ∧ RK X.K (rI (fun _ j => 0 ≤ j) fun i j => .int (i / 2 ^ j.toNat)) d d' (W ρ2)) : DE X PX ρ (.BinOp a .RShift b pos) W := de_op op_shr h
theorem de_band (h : DH X PX ρ a fun ρ1 x => DH X PX ρ1 b fun ρ2 y => ∃ d d', x.get ρ2 d ∧ y.get ρ2 d' ∧ RK X.K (rI0 fun i j => .int (Builtin.bitAnd i j)) d d' (W ρ2)) : DE X PX ρ (.BinOp a .BitAnd b pos) W := de_op op_and h
theorem de_bor (h : DH X PX ρ a fun ρ1 x => DH X PX ρ1 b fun ρ2 y => ∃ d d', x.get ρ2 d ∧ y.get ρ2 d' ∧ RK X.K (rI0 fun i j => .int (Builtin.bitOr i j)) d d' (W ρ2)) : DE X PX ρ (.BinOp a .BitOr b pos) W := de_op op_or h
theorem df_add (h : DH X PX ρ a fun ρ1 x => DH X PX ρ1 b fun ρ2 y => ∃ d d', x.get ρ2 d ∧ y.get ρ2 d' ∧ RF X.K (rAddAll X.K) d d' (WF ρ2)) : DF X PX ρ (.BinOp a .Add b pos) WF := df_op op_addAll h
theorem df_mul (h : DH X PX ρ a fun ρ1 x => DH X PX ρ1 b fun ρ2 y => ∃ d d', x.get ρ2 d ∧ y.get ρ2 d' ∧ RF X.K (rMulAll X.K) d d' (WF ρ2)) : DF X PX ρ (.BinOp a .Mult b pos) WF := df_op op_mulAll h
theorem de_gt (h : DH X PX ρ a fun ρ1 x => DH X PX ρ1 b fun ρ2 y => ∃ d d', x.get ρ2 d ∧ y.get ρ2 d' ∧ ∃ c, RB X.K (rGtAll X.K) d d' c ∧ W ρ2 (.bl c)) : DE X PX ρ (.Compare a [.Gt] [b] pos) W := de_cmp op_gtAll (nomark _) h
theorem dt_gt (h : DH X PX ρ a fun ρ1 x => DH X PX ρ1 b fun ρ2 y => ∃ d d', x.get ρ2 d ∧ y.get ρ2 d' ∧ ∃ c, RB X.K (rGtAll X.K) d d' c ∧ WT ρ2 c) : DT X PX ρ (.Compare a [.Gt] [b] pos) WT := dt_cmp op_gtAll (nomark _) h
theorem de_lt (h : DH X PX ρ a fun ρ1 x => DH X PX ρ1 b fun ρ2 y => ∃ d d', x.get ρ2 d ∧ y.get ρ2 d' ∧ ∃ c, RB X.K (rLtAll X.K) d d' c ∧ W ρ2 (.bl c)) : DE X PX ρ (.Compare a [.Lt] [b] pos) W := de_cmp op_ltAll (nomark _) h
theorem dt_lt (h : DH X PX ρ a fun ρ1 x => DH X PX ρ1 b fun ρ2 y => ∃ d d', x.get ρ2 d ∧ y.get ρ2 d' ∧ ∃ c, RB X.K (rLtAll X.K) d d' c ∧ WT ρ2 c) : DT X PX ρ (.Compare a [.Lt] [b] pos) WT := dt_cmp op_ltAll (nomark _) h
theorem de_le (h : DH X PX ρ a fun ρ1 x => DH X PX ρ1 b fun ρ2 y => ∃ d d', x.get ρ2 d ∧ y.get ρ2 d' ∧ ∃ c, RB X.K (rLeAll X.K) d d' c ∧ W ρ2 (.bl c)) : DE X PX ρ (.Compare a [.LtE] [b] pos) W := de_cmp op_leAll (nomark _) h
theorem dt_le (h : DH X PX ρ a fun ρ1 x => DH X PX ρ1 b fun ρ2 y => ∃ d d', x.get ρ2 d ∧ y.get ρ2 d' ∧ ∃ c, RB X.K (rLeAll X.K) d d' c ∧ WT ρ2 c) : DT X PX ρ (.Compare a [.LtE] [b] pos) WT := dt_cmp op_leAll (nomark _) h
theorem de_ge (h : DH X PX ρ a fun ρ1 x => DH X PX ρ1 b fun ρ2 y => ∃ d d', x.get ρ2 d ∧ y.get ρ2 d' ∧ ∃ c, RB X.K (rGeAll X.K) d d' c ∧ W ρ2 (.bl c)) : DE X PX ρ (.Compare a [.GtE] [b] pos) W := de_cmp op_geAll (nomark _) h
theorem dt_ge (h : DH X PX ρ a fun ρ1 x => DH X PX ρ1 b fun ρ2 y => ∃ d d', x.get ρ2 d ∧ y.get ρ2 d' ∧ ∃ c, RB X.K (rGeAll X.K) d d' c ∧ WT ρ2 c) : DT X PX ρ (.Compare a [.GtE] [b] pos) WT := dt_cmp op_geAll (nomark _) h
theorem de_eq (hu : X.A.units + 64 < cLine) (h : DH X PX ρ a fun ρ1 x => DH X PX ρ1 b fun ρ2 y => ∃ d d', x.get ρ2 d ∧ y.get ρ2 d' ∧ ∃ c, RB X.K (rEqAll X.K) d d' c ∧ W ρ2 (.bl c)) : DE X PX ρ (.Compare a [.Eq] [b] pos) W := de_cmp (op_eqAll hu) (nomark _) h
theorem dt_eq (hu : X.A.units + 64 < cLine) (h : DH X PX ρ a fun ρ1 x => DH X PX ρ1 b fun ρ2 y => ∃ d d', x.get ρ2 d ∧ y.get ρ2 d' ∧ ∃ c, RB X.K (rEqAll X.K) d d' c ∧ WT ρ2 c) : DT X PX ρ (.Compare a [.Eq] [b] pos) WT := dt_cmp (op_eqAll hu) (nomark _) h
theorem de_ne (hu : X.A.units + 64 < cLine) (h : DH X PX ρ a fun ρ1 x => DH X PX ρ1 b fun ρ2 y => ∃ d d', x.get ρ2 d ∧ y.get ρ2 d' ∧ ∃ c, RB X.K (rNeAll X.K) d d' c ∧ W ρ2 (.bl c)) : DE X PX ρ (.Compare a [.NotEq] [b] pos) W := de_cmp (op_neAll hu) (nomark _) h
theorem dt_ne (hu : X.A.units + 64 < cLine) (h : DH X PX ρ a fun ρ1 x => DH X PX ρ1 b fun ρ2 y => ∃ d d', x.get ρ2 d ∧ y.get ρ2 d' ∧ ∃ c, RB X.K (rNeAll X.K) d d' c ∧ WT ρ2 c) : DT X PX ρ (.Compare a [.NotEq] [b] pos) WT := dt_cmp (op_neAll hu) (nomark _) h
theorem de_in (h : DH X PX ρ a fun ρ1 x => DH X PX ρ1 b fun ρ2 y => ∃ d d', x.get ρ2 d ∧ y.get ρ2 d' ∧ ∃ c, RB X.K (rInAll X.K) d d' c ∧ W ρ2 (.bl c)) (hm : behindInMarks .In b = false := by with_unfolding_all rfl) : DE X PX ρ (.Compare a [.In] [b] pos) W := de_cmp op_inAll hm h
theorem dt_in (h : DH X PX ρ a fun ρ1 x => DH X PX ρ1 b fun ρ2 y => ∃ d d', x.get ρ2 d ∧ y.get ρ2 d' ∧ ∃ c, RB X.K (rInAll X.K) d d' c ∧ WT ρ2 c) (hm : behindInMarks .In b = false := by with_unfolding_all rfl) : DT X PX ρ (.Compare a [.In] [b] pos) WT := dt_cmp op_inAll hm h
theorem de_notIn (h : DH X PX ρ a fun ρ1 x => DH X PX ρ1 b fun ρ2 y => ∃ d d', x.get ρ2 d ∧ y.get ρ2 d' ∧ ∃ c, RB X.K (rNotInAll X.K) d d' c ∧ W ρ2 (.bl c)) (hm : behindInMarks .NotIn b = false := by with_unfolding_all rfl) : DE X PX ρ (.Compare a [.NotIn] [b] pos) W := de_cmp op_notInAll hm h
theorem dt_notIn (h : DH X PX ρ a fun ρ1 x => DH X PX ρ1 b fun ρ2 y => ∃ d d', x.get ρ2 d ∧ y.get ρ2 d' ∧ ∃ c, RB X.K (rNotInAll X.K) d d' c ∧ WT ρ2 c) (hm : behindInMarks .NotIn b = false := by with_unfolding_all rfl) : DT X PX ρ (.Compare a [.NotIn] [b] pos) WT := dt_cmp op_notInAll hm h
theorem de_is (h : DH X PX ρ a fun ρ1 x => DH X PX ρ1 b fun ρ2 y => ∃ d d', x.get ρ2 d ∧ y.get ρ2 d' ∧ ∃ c, RB X.K (fun x y (H : Hp) (Q : VK) => y = .non ∧ Q (.bl (decide (x = .non))) H) d d' c ∧ W ρ2 (.bl c)) : DE X PX ρ (.Compare a [.Is] [b] pos) W := de_cmp op_isN (nomark _) h
theorem dt_is (h : DH X PX ρ a fun ρ1 x => DH X PX ρ1 b fun ρ2 y => ∃ d d', x.get ρ2 d ∧ y.get ρ2 d' ∧ ∃ c, RB X.K (fun x y (H : Hp) (Q : VK) => y = .non ∧ Q (.bl (decide (x = .non))) H) d d' c ∧ WT ρ2 c) : DT X PX ρ (.Compare a [.Is] [b] pos) WT := dt_cmp op_isN (nomark _) h
theorem de_isnot (h : DH X PX ρ a fun ρ1 x => DH X PX ρ1 b fun ρ2 y => ∃ d d', x.get ρ2 d ∧ y.get ρ2 d' ∧ ∃ c, RB X.K (fun x y (H : Hp) (Q : VK) => y = .non ∧ Q (.bl (!decide (x = .non))) H) d d' c ∧ W ρ2 (.bl c)) : DE X PX ρ (.Compare a [.IsNot] [b] pos) W := de_cmp op_notN (nomark _) h
theorem dt_isnot (h : DH X PX ρ a fun ρ1 x => DH X PX ρ1 b fun ρ2 y => ∃ d d', x.get ρ2 d ∧ y.get ρ2 d' ∧ ∃ c, RB X.K (fun x y (H : Hp) (Q : VK) => y = .non ∧ Q (.bl (!decide (x = .non))) H) d d' c ∧ WT ρ2 c) : DT X PX ρ (.Compare a [.IsNot] [b] pos) WT := dt_cmp op_notN (nomark _) h
theorem de_lele (h : DH X PX ρ a fun ρ1 x => DH X PX ρ1 b fun ρ2 y => ∃ d d', x.get ρ2 d ∧ y.get ρ2 d' ∧ ∃ k, RB X.K (rLeAll X.K) d d' k ∧ (if k = true then DH X PX ρ2 e fun ρ3 z => ∃ d2 d3, y.get ρ3 d2 ∧ z.get ρ3 d3 ∧ ∃ k', RB X.K (rLeAll X.K) d2 d3 k' ∧ W ρ3 (.bl k') else W ρ2 (.bl false))) (hm : lastMarks [.LtE, .LtE] [b, e] = false := by with_unfolding_all rfl) : DE X PX ρ (.Compare a [.LtE, .LtE] [b, e] pos) W := de_chain op_leAll op_leAll h hm
theorem de_lelt (h : DH X PX ρ a fun ρ1 x => DH X PX ρ1 b fun ρ2 y => ∃ d d', x.get ρ2 d ∧ y.get ρ2 d' ∧ ∃ k, RB X.K (rLeAll X.K) d d' k ∧ (if k = true then DH X PX ρ2 e fun ρ3 z => ∃ d2 d3, y.get ρ3 d2 ∧ z.get ρ3 d3 ∧ ∃ k', RB X.K (rLtAll X.K) d2 d3 k' ∧ W ρ3 (.bl k') else W ρ2 (.bl false))) (hm : lastMarks [.LtE, .Lt] [b, e] = false := by with_unfolding_all rfl) : DE X PX ρ (.Compare a [.LtE, .Lt] [b, e] pos) W := de_chain op_leAll op_ltAll h hm
theorem de_ltle (h : DH X PX ρ a fun ρ1 x => DH X PX ρ1 b fun ρ2 y => ∃ d d', x.get ρ2 d ∧ y.get ρ2 d' ∧ ∃ k, RB X.K (rLtAll X.K) d d' k ∧ (if k = true then DH X PX ρ2 e fun ρ3 z => ∃ d2 d3, y.get ρ3 d2 ∧ z.get ρ3 d3 ∧ ∃ k', RB X.K (rLeAll X.K) d2 d3 k' ∧ W ρ3 (.bl k') else W ρ2 (.bl false))) (hm : lastMarks [.Lt, .LtE] [b, e] = false := by with_unfolding_all rfl) : DE X PX ρ (.Compare a [.Lt, .LtE] [b, e] pos) W := de_chain op_ltAll op_leAll h hm
theorem de_neg (h : DH X PX ρ a fun ρ1 x => ∃ d, x.get ρ1 d ∧ RK X.K (fun x _ => (rU fun i => .int (-i)) x) d .non (W ρ1)) : DE X PX ρ (.UnaryOp .USub a pos) W := de_un un_neg h
end
theorem room64 {k : Nat} {A : Around} (h : Room k A) : A.units + 64 < cLine := by
  have := h.un
  omega
theorem rk_div {K : PySem.W.Frag} {P : D → Prop} {i j : Int} (h1 : 0 < j) (h2 : j < 1073741824) (k : P (.int (i / j))) : RK K (rI CDiv fun i j => .int (i / j)) (.int i) (.int j) P := rk_I ⟨h1, h2⟩ k
theorem rk_mod {K : PySem.W.Frag} {P : D → Prop} {i j : Int} (h1 : 0 < j) (k : P (.int (i % j))) : RK K (rI (fun _ j => 0 < j) fun i j => .int (i % j)) (.int i) (.int j) P := rk_I h1 k
theorem rk_pow {K : PySem.W.Frag} {P : D → Prop} {i j : Int} (h1 : 0 ≤ j) (h2 : j ≤ 1000000) (h3 : i.natAbs < 2 ^ 64) (k : P (.int (i ^ j.toNat))) : RK K (rI CPow fun i j => .int (i ^ j.toNat)) (.int i) (.int j) P := rk_I ⟨h1, h2, h3⟩ k
theorem rk_shl {K : PySem.W.Frag} {P : D → Prop} {i j : Int} (h1 : 0 ≤ j) (h2 : j ≤ 1000000) (h3 : i.natAbs < 2 ^ 64) (k : P (.int (i * 2 ^ j.toNat))) : RK K (rI CPow fun i j => .int (i * 2 ^ j.toNat)) (.int i) (.int j) P := rk_I ⟨h1, h2, h3⟩ k
theorem rk_shr {K : PySem.W.Frag} {P : D → Prop} {i j : Int} (h1 : 0 ≤ j) (k : P (.int (i / 2 ^ j.toNat))) : RK K (rI (fun _ j => 0 ≤ j) fun i j => .int (i / 2 ^ j.toNat)) (.int i) (.int j) P := rk_I h1 k
theorem rk_band {K : PySem.W.Frag} {P : D → Prop} {i j : Int} (k : P (.int (Builtin.bitAnd i j))) : RK K (rI0 fun i j => .int (Builtin.bitAnd i j)) (.int i) (.int j) P := rk_I0 k
theorem rk_bor {K : PySem.W.Frag} {P : D → Prop} {i j : Int} (k : P (.int (Builtin.bitOr i j))) : RK K (rI0 fun i j => .int (Builtin.bitOr i j)) (.int i) (.int j) P := rk_I0 k
theorem ex_put {ρ : Lo} {j : Nat} {b : Bool} {ds : List D} {n : Int} {k : Nat} {Q : Bool → List D → Int → Nat → Prop} (h0 : ρ[j]? = some (some (.own b ds))) (h1 : ixN ds.length n = some k) (q : Q b ds n k) :
    ∃ b' ds' n' k', D.int n = .int n' ∧ ρ[j]? = some (some (.own b' ds')) ∧ ixN ds'.length n' = some k' ∧ Q b' ds' n' k' := ⟨b, ds, n, k, rfl, h0, h1, q⟩
theorem ex_own {ρ : Lo} {j : Nat} {b : Bool} {ds : List D} {Q : Bool → List D → Prop} (h0 : ρ[j]? = some (some (.own b ds))) (q : Q b ds) :
    ∃ b' ds', ρ[j]? = some (some (.own b' ds')) ∧ Q b' ds' := ⟨b, ds, h0, q⟩
end DL
namespace DL
open PySem PySem.Spec PyProof.Rows L2
section
variable {X : Cx} {PX : XP} {ρ : Lo} {e tg it a b : Expr} {es : List Expr} {pos : Pos} {N : EndsD}
/-- a, b = x, y -/
theorem ds_par (i j : Nat) {x y : Str} {px py pt : Pos} {kt k2 pt2} (h : DA X PX ρ [a, b] fun ρ' ds => ∃ d d', ds = [d, d'] ∧ N.nx ((ρ'.set i (some (.sh d))).set j (some (.sh d'))))
    (hc : X.calm = true := by rfl) (hN : X.N.Nodup := by first | assumption | decide +kernel) (hi : X.N[i]? = some x := by rfl) (hj : X.N[j]? = some y := by rfl) (hij : i ≠ j := by decide)
    (hx : X.env.scope.names.lookup x = some .local := by rfl) (hy : X.env.scope.names.lookup y = some .local := by rfl)
    (hw : swappedStores [.Tuple [.Name x px, .Name y py] kt pt] (.Tuple [a, b] k2 pt2) X.env = pure (some [x, y]) := by rfl)
    (hs : swapsWithSole [.Tuple [.Name x px, .Name y py] kt pt] (.Tuple [a, b] k2 pt2) pos.line X.env = pure false := by rfl) :
    DS X PX ρ (.Assign [.Tuple [.Name x px, .Name y py] kt pt] (.Tuple [a, b] k2 pt2) pos) N := by
 with_unfolding_all
 exact fun B Fr Wx σ Hs H D0 E tk kx ko => by
  refine w_ps (ps_par hc hN hi hj hij hx hy pa_w hw hs) ?_
  refine h B Fr Wx σ Hs H _ E tk kx fun vs ρ' ds Hs' H' w E' s i1 => ?_
  obtain ⟨d, d', rfl, n⟩ := w
  obtain ⟨v, r, rfl, i2, i3⟩ := iss_cons.mp i1
  obtain ⟨v', r', rfl, i4, i5⟩ := iss_cons.mp i3
  cases iss_nil.mp i5
  exact ⟨v, v', rfl, ko.1 _ _ Hs' H' n ((E'.set i2).set i4) s⟩
/-- (a, b) = a tuple -/
theorem ds_tupS (vs : List Nat) {k : Nat} {p : Pos} (h : DE X PX ρ e fun ρ' d => DG X vs ρ' (.Tuple es k p) d N.nx)
    (hs : swapsWithSole [.Tuple es k p] e pos.line X.env = pure false := by rfl) (hw : swappedStores [.Tuple es k p] e X.env = pure none := by rfl)
    (h1 : (assignEach [.Tuple es k p] X.env).map (·.2) = [assign (.Tuple es k p) X.env] := by rfl) : DS X PX ρ (.Assign [.Tuple es k p] e pos) N := by
 with_unfolding_all
 exact fun B Fr Wx σ Hs H D0 E tk kx ko => by
  refine w_ps (ps_asg pe_w pg_w hs hw h1) ?_
  refine h B Fr Wx σ Hs H _ E tk kx fun v ρ' d Hs' H' w E' s i1 => ?_
  exact w B Fr σ Hs' H' v _ E' i1 fun ρ2 σ2 Hs2 H2 n E2 s2 _ => ko.1 ρ2 σ2 Hs2 H2 n E2 (s.trans s2)

/-! ### comprehensions of two clauses -/
def iAll (X : Cx) (scope : Scope) (tg it : Expr) : TI := fun σ H R => ∀ b, wI (blkOf X scope b) tg it σ H R
theorem pi_all {scope : Scope} (s : Shared) (H : Hp) (C : Addr) (cl : List (Str × Addr)) (fp : List Addr) : PI (X.blk s H scope (compEnvC scope cl C X.env) fp) tg it (iAll X scope tg it) := ⟨fun pins s' σ H' R I h => h ⟨s, H, C, cl, fp⟩ pins s' I⟩
def CompD2 (X : Cx) (scope : Scope) (vs vs1 : List Nat) (tg elt : Expr) (ifs : List Expr) (tg1 it1 : Expr) (ifs1 : List Expr) (ρ1 : Lo) (xs : List D) (W : Lo → List D → Prop) : Prop :=
  ∃ I : Nat → Lo → List D → Prop, I 0 (wipeL ρ1 vs) [] ∧
    (∀ i ρ2 acc d, xs[i]? = some d → I i ρ2 acc → ∀ b, DG (blkOf X scope b) vs ρ2 tg d fun ρ3 => ∀ b, DTs (blkOf X scope b) ρ3 ifs fun ρ4 k =>
      if k = true then ∀ b, DI (blkOf X scope b) NoX ρ4 tg1 it1 fun ρ5 ys => ∃ J : Nat → Lo → List D → Prop, J 0 (wipeL ρ5 vs1) acc ∧
        (∀ j ρ6 acc d, ys[j]? = some d → J j ρ6 acc → ∀ b, DG (blkOf X scope b) vs1 ρ6 tg1 d fun ρ7 => ∀ b, DTs (blkOf X scope b) ρ7 ifs1 fun ρ8 k =>
          if k = true then ∀ b, DE (blkOf X scope b) NoX ρ8 elt fun ρ9 y => acc.length < 100000 ∧ J (j + 1) (wipeL ρ9 vs1) (acc ++ [y]) else J (j + 1) (wipeL ρ8 vs1) acc) ∧
        (∀ ρ6 acc, J ys.length ρ6 acc → I (i + 1) (wipeL ρ6 vs) acc) else I (i + 1) (wipeL ρ4 vs) acc) ∧
    (∀ ρ2 acc, I xs.length ρ2 acc → W (wipeL ρ2 vs) acc)
theorem wipe_through {σ σ2 : L2.St} {vs vs1 : List Nat} (hv : ∀ i ∈ vs1, i ∈ vs) (e : wipe σ2 vs = wipe σ vs) : ∀ i, i ∉ vs → (wipe σ vs)[i]? = (wipe σ2 vs1)[i]? := fun i hi => by
  rw [← e, wipe_out' hi, wipe_out' fun h => hi (hv i h)]
theorem lc2_data {scope : Scope} {vs vs1 : List Nat} {elt tg1 it1 : Expr} {ifs ifs1 : List Expr} {W : Lo → List D → Prop} (hv : ∀ i ∈ vs1, i ∈ vs) (h : DI X PX ρ tg it fun ρ1 xs => CompD2 X scope vs vs1 tg elt ifs tg1 it1 ifs1 ρ1 xs W)
    {B : Option Addr} {Fr : Addr → HO → Prop} {Wx : WX} {σ : L2.St} {Hs H : Hp} {Q : VK} (E : EnvOk X.K B Fr ρ σ Hs H) (tk : Takes X Wx) (kx : KX X.K B Fr Hs PX Wx)
    (q : ∀ a us ρ' ds Hs' H', W ρ' ds → EnvOk X.K B Fr ρ' σ Hs' H' → Same Hs Hs' → H' a = some (.lst us) → Hs' a = none → Iss X.K Hs' ds us →
      (∀ (i : Nat) (s : Sl), ρ'[i]? = some (some s) → s.isOwn = true → σ[i]? ≠ some (some (.ref a))) → (∀ q : Addr × HO, Fr q.1 q.2 → q.1 ≠ a) → Q (.ref a) H') :
    tLc2 (wI X tg it) (gAll X scope tg) (tAll X scope ifs) (iAll X scope tg1 it1) (gAll X scope tg1) (tAll X scope ifs1) (eAll X scope elt) vs vs1 σ H Q := by
 with_unfolding_all
  refine h B Fr Wx σ Hs H _ E tk kx fun J ρ1 xs Hs1 H1 w E1 s1 hJ => ?_
  intro L hL
  obtain ⟨I, i0, step, fin⟩ := w
  obtain ⟨EL, hLs⟩ := E1.allocOwn (o := .lst []) hL
  obtain ⟨f1, f2⟩ := new_facts E1 hL
  have E2 : EnvOk X.K B (addFr Fr L (.lst [])) (wipeL ρ1 vs) (wipe σ vs) Hs1 (upd H1 L (.lst [])) := (EL.addFr upd_same hLs f1).wiped
  refine ⟨fun i m H' => m = xs.length - i ∧ i ≤ xs.length ∧ ∃ ρ' acc accv Hs', I i ρ' acc ∧ EnvOk X.K B (addFr Fr L (.lst accv)) ρ' (wipe σ vs) Hs' H' ∧ Same Hs1 Hs' ∧ Iss X.K Hs' acc accv,
    ⟨xs.length, by simp, Nat.zero_le _, _, [], [], Hs1, i0, E2, Same.refl _, iss_nil.mpr rfl⟩, ?_⟩
  rintro i m H2 ⟨rfl, hi, ρ2, acc, accv, Hs2, ii, E2, s2, ia⟩
  obtain ⟨g1, g2⟩ := hJ B _ ρ2 (wipe σ vs) Hs2 H2 i E2 s2
  by_cases hlt : i < xs.length
  · have hx : xs[i]? = some xs[i] := List.getElem?_eq_getElem hlt
    obtain ⟨go, yl⟩ := g1 _ hx
    refine .inr ⟨go, fun H' => i + 1 ≤ xs.length ∧ ∃ ρ' acc accv Hs', I (i + 1) ρ' acc ∧ EnvOk X.K B (addFr Fr L (.lst accv)) ρ' (wipe σ vs) Hs' H' ∧ Same Hs1 Hs' ∧ Iss X.K Hs' acc accv, fun H' hh => ⟨xs.length - (i + 1), by omega, rfl, hh⟩, fun x H3 hy => ?_⟩
    obtain ⟨Hs3, E3, s3, i3⟩ := yl x H3 hy
    intro b0
    refine step i ρ2 acc _ hx ii b0 B _ (wipe σ vs) Hs3 H3 x _ E3 i3 fun ρ4 σ4 Hs4 H4 n4 E4 s4 e4 => ?_
    have ew : wipe σ4 vs = wipe σ vs := by
      rw [e4]
      exact wipe_idem fun _ h => h
    refine ⟨ew, fun b1 => ?_⟩
    refine dts_w (n4 b1) E4 fun k ρ5 Hs5 H5 n5 E5 s5 => ?_
    have s15 : Same Hs1 Hs5 := ((s2.trans s3).trans s4).trans s5
    cases k with
    | true =>
      rw [if_pos rfl] at n5 ⊢
      intro b2
      refine n5 b2 B _ (fun _ _ _ _ => False) σ4 Hs5 H5 _ E5 takes0 KX.no fun J1 ρ6 ys Hs6 H6 n6 E6 s6 hJ1 => ?_
      obtain ⟨I1, k0, step1, fin1⟩ := n6
      refine ⟨fun j m H' => m = ys.length - j ∧ j ≤ ys.length ∧ ∃ ρ' acc accv Hs', I1 j ρ' acc ∧ EnvOk X.K B (addFr Fr L (.lst accv)) ρ' (wipe σ4 vs1) Hs' H' ∧ Same Hs6 Hs' ∧ Iss X.K Hs' acc accv,
        ⟨ys.length, by simp, Nat.zero_le _, _, acc, accv, Hs6, k0, E6.wiped, Same.refl _, Iss.mono (((s3.trans s4).trans s5).trans s6) _ _ ia⟩, ?_⟩
      rintro j m1 H7 ⟨rfl, hj, ρ7, acc7, accv7, Hs7, ij, E7, s7, ia7⟩
      obtain ⟨r1, r2⟩ := hJ1 B _ ρ7 (wipe σ4 vs1) Hs7 H7 j E7 s7
      by_cases hlj : j < ys.length
      · have hyj : ys[j]? = some ys[j] := List.getElem?_eq_getElem hlj
        obtain ⟨go1, yl1⟩ := r1 _ hyj
        refine .inr ⟨go1, fun H' => j + 1 ≤ ys.length ∧ ∃ ρ' acc accv Hs', I1 (j + 1) ρ' acc ∧ EnvOk X.K B (addFr Fr L (.lst accv)) ρ' (wipe σ4 vs1) Hs' H' ∧ Same Hs6 Hs' ∧ Iss X.K Hs' acc accv, fun H' hh => ⟨ys.length - (j + 1), by omega, rfl, hh⟩, fun x1 H8 hy1 => ?_⟩
        obtain ⟨Hs8, E8, s8, i8⟩ := yl1 x1 H8 hy1
        intro b3
        refine step1 j ρ7 acc7 _ hyj ij b3 B _ (wipe σ4 vs1) Hs8 H8 x1 _ E8 i8 fun ρ9 σ9 Hs9 H9 n9 E9 s9 e9 => ?_
        have ew9 : wipe σ9 vs1 = wipe σ4 vs1 := by
          rw [e9]
          exact wipe_idem fun _ h => h
        refine ⟨ew9, fun b4 => ?_⟩
        refine dts_w (n9 b4) E9 fun k ρ10 Hs10 H10 n10 E10 s10 => ?_
        cases k with
        | true =>
          rw [if_pos rfl] at n10 ⊢
          intro b5
          refine n10 b5 B _ (fun _ _ _ _ => False) σ9 Hs10 H10 _ E10 takes0 KX.no fun y ρ11 d11 Hs11 H11 n11 E11 s11 i11 => ?_
          obtain ⟨k1, k2, k3⟩ := E11.frm (L, .lst accv7) (.inr ⟨rfl, rfl⟩)
          have ia11 : Iss X.K Hs11 acc7 accv7 := Iss.mono (((s8.trans s9).trans s10).trans s11) _ _ ia7
          refine ⟨accv7, k1, ?_, hlj, _, acc7 ++ [d11], accv7 ++ [y], Hs11, n11.2, ?_, (((s7.trans s8).trans s9).trans s10).trans s11, iss_app ia11 (iss_one i11)⟩
          · rw [iss_len ia11]
            exact Nat.lt_of_lt_of_le n11.1 (by decide)
          · exact (E11.wipedTo ew9).turnFr f2
        | false =>
          rw [if_neg (by decide)] at n10 ⊢
          exact ⟨hlj, _, acc7, accv7, Hs10, n10, E10.wipedTo ew9, ((s7.trans s8).trans s9).trans s10, Iss.mono ((s8.trans s9).trans s10) _ _ ia7⟩
      · have e : j = ys.length := by omega
        subst e
        refine .inl ⟨r2 (Nat.le_refl _), hlt, _, acc7, accv7, Hs7, fin1 ρ7 acc7 ij, ?_, (s15.trans s6).trans s7, ia7⟩
        exact E7.moved (by rw [wipe_length, wipe_length, ← wipe_length σ vs, ← ew, wipe_length]) (wipe_through hv ew)
    | false =>
      rw [if_neg (by decide)] at n5 ⊢
      exact ⟨hlt, _, acc, accv, Hs5, n5, E5.wipedTo ew, s15, Iss.mono ((s3.trans s4).trans s5) _ _ ia⟩
  · have e : i = xs.length := by omega
    subst e
    refine .inl ⟨g2 (Nat.le_refl _), ?_⟩
    obtain ⟨k1, k2, k3⟩ := E2.frm (L, .lst accv) (.inr ⟨rfl, rfl⟩)
    have E3 : EnvOk X.K B Fr (wipeL ρ2 vs) σ Hs2 H2 := (E2.subFr fun a o h => Or.inl h).moved (wipe_length σ vs).symm fun i hi => (wipe_out' hi).symm
    refine q L accv _ acc Hs2 H2 (fin ρ2 acc ii) E3 (s1.trans s2) k1 k2 ia (fun i s e o => ?_) f2
    obtain ⟨e, hv⟩ := wipeL_some e
    have := k3 i s e o
    rw [wipe_out' hv] at this
    exact this
theorem df_lc2 {scope : Scope} (own : List (Str × Nat)) (vs1 : List Nat) {elt tg1 it1 : Expr} {ifs ifs1 : List Expr} {W : Lo → List D → Prop} (h : DI X PX ρ tg it fun ρ1 xs => CompD2 X scope (own.map (·.2)) vs1 tg elt ifs tg1 it1 ifs1 ρ1 xs W)
    (ok : BlkOk X.N X.env.scope scope own) (hv : ∀ i ∈ vs1, i ∈ own.map (·.2) := by decide) (hc : X.calm = true := by rfl) (hN : X.N.Nodup := by first | assumption | decide +kernel) (hs : ∀ x, foldedSetIterable it X.env x = pure x := by intro _; rfl) (hs1 : ∀ env x, foldedSetIterable it1 env x = pure x := by intro _ _; rfl) :
    DF X PX ρ (.ListComp elt [⟨tg, it, ifs, 0⟩, ⟨tg1, it1, ifs1, 0⟩] scope pos) W := by
 with_unfolding_all
 exact fun B Fr Wx σ Hs H Q E tk kx q =>
  w_pe (pe_lc2 hc hN pi_w ok hv pg_all pts_all pi_all pg_all pts_all pe_all hs hs1) (lc2_data hv h E tk kx q)
theorem ds_setLc2 (i : Nat) {y : Str} {py spos : Pos} {scope : Scope} (own : List (Str × Nat)) (vs1 : List Nat) {elt tg1 it1 : Expr} {ifs ifs1 : List Expr} (h : DI X PX ρ tg it fun ρ1 xs => CompD2 X scope (own.map (·.2)) vs1 tg elt ifs tg1 it1 ifs1 ρ1 xs fun ρ' ds => N.nx (ρ'.set i (some (.own false ds))))
    (ok : BlkOk X.N X.env.scope scope own) (hsw : swapsWith (.ListComp elt [⟨tg, it, ifs, 0⟩, ⟨tg1, it1, ifs1, 0⟩] scope pos) (some (.Name y py)) spos.line X.env = pure true) (hv : ∀ i ∈ vs1, i ∈ own.map (·.2) := by decide) (hc : X.calm = true := by rfl) (hN : X.N.Nodup := by first | assumption | decide +kernel) (hy : X.N[i]? = some y := by rfl) (hyl : X.env.scope.names.lookup y = some .local := by rfl)
    (hs : ∀ x, foldedSetIterable it X.env x = pure x := by intro _; rfl) (hs1 : ∀ env x, foldedSetIterable it1 env x = pure x := by intro _ _; rfl) : DS X PX ρ (.Assign [.Name y py] (.ListComp elt [⟨tg, it, ifs, 0⟩, ⟨tg1, it1, ifs1, 0⟩] scope pos) spos) N := by
 with_unfolding_all
 exact fun B Fr Wx σ Hs H D0 E tk kx ko =>
  w_ps (ps_setLc2 hc hN hy hyl hsw pi_w ok hv pg_all pts_all pi_all pg_all pts_all pe_all hs hs1) (lc2_data hv h E tk kx fun a us ρ' ds Hs' H' w E' s h1 h2 h3 h4 h5 => ko.1 _ _ Hs' H' w (E'.setOwn h1 h2 h3 h4 h5) s)
end
end DL
namespace DL
open PySem PySem.Spec PyProof.Rows L2
/-- what a law is: true at every script -/
def lawS : FSpec := fun y ds P _ => ∃ ns : List Int, y = none ∧ ds = [.scr ns] ∧ ns.length ≤ 63 ∧ P none (.bl true)
theorem law_end {l : PySem.W.OpenLaw} {k : Nat} {q : Program} {loose : List Str} {XP : (Str → Option Value) → Heap → Prop} {YP : World → Heap → Prop} {d : DefRec} {x : Str}
    (hn : l.most = some 63) (hdf : d.params.defaults = []) (hr : Room k callerA)
    (F : ∀ (w : World) (mg : Str → Option Value) (fa : Addr) (h : Heap), YP w h → h.Ns mainGlobals mg → mg d.name = some (.ref fa) → ∃ (K : PySem.W.Frag) (fd : FuncData), K.In h ∧
        (∀ (s : Shared) (u : Value), BindsTo s fd ⟨[u], []⟩ [(x, u)]) ∧ ∀ base : Heap, K.In base → base.Ns mainGlobals mg → DFn l.prog w K mg base k fa fd [x] lawS) : PySem.W.WalkO q loose XP YP l.row.toRowW d [] (fun f vs => PySem.call f vs) := by
 with_unfolding_all
  refine Att.attach_call hn hdf fun w s₀ s₁ mg mb fa o pm cd doc a vs ns G Y ho hd hcd hmg hobj hints hlen hg => ?_
  obtain ⟨K, fd, KX, hb, hF⟩ := F w mg fa _ Y G.T.g hmg
  refine law_call KX G.T.g G.T.b G.T.builtins G.T.nolimit hg hobj hints (Nat.le_trans hlen (by decide)) hr hF hb (fun H hO hS => ?_) fun H e s' hc => ?_
  · refine ⟨none, fun _ _ => False, none, [.scr ns], H, fun _ d => d = .bl true, fun _ _ => False, ⟨ns, rfl, rfl, hlen, rfl⟩, ⟨fun _ _ h => h, rfl, fun i s e => ?_, fun i j s s' v e1 e2 o1 o2 => ?_, fun q hq => hq.elim⟩, fun y' d v Hs' H' p _ E s i => ?_, fun _ _ _ _ _ _ p => p.elim⟩
    · cases i with
      | zero =>
        cases e
        exact ⟨.ref a, rfl, a, rfl, hS⟩
      | succ i => cases i <;> cases e
    · cases i with
      | zero => cases e1; cases o1
      | succ i => cases i <;> cases e1
    · subst p
      exact is_bl.mp i
  · obtain ⟨_, _, _, _, _, _, _, _, _, _, _, _, z⟩ := hc
    exact z
end DL
namespace DL
open PySem PySem.Spec PyProof.Rows L2
section
variable {X : Cx} {PX : XP} {ρ : Lo} {e a b c : Expr} {es : List Expr} {pos p : Pos} {x : Str} {W : Lo → D → Prop} {WT : Lo → Bool → Prop} {WF : Lo → List D → Prop} {N : EndsD}
/-- a built-in type's name -/
theorem de_ty {n : String} (hm : X.mg x = none) (hv : bootBuiltins x = some (.type n)) (k : W ρ (.ty n)) (hg : Gl X x := by rfl) (hn : x ≠ "__name__" := by decide) (hd : (x == ("__debug__" : Str)) = false := by decide) : DE X PX ρ (.Name x pos) W := by
 with_unfolding_all
 exact fun B Fr Wx σ Hs H Q E tk kx q => w_pe (pe_bltn (v := .ty n) hg hm hv rfl hn hd) (q _ _ _ _ _ k E (Same.refl _) (is_ty.mpr rfl))
theorem do_none {W : Lo → Option Int → Prop} (k : W ρ none) : DO X PX ρ none W := k
theorem do_some {W : Lo → Option Int → Prop} (k : DE X PX ρ e fun ρ1 d => ∃ i, d = .int i ∧ W ρ1 (some i)) : DO X PX ρ (some e) W := k
theorem dts_nil {W : Lo → Bool → Prop} (k : W ρ true) : DTs X ρ [] W := k
theorem dts_one {W : Lo → Bool → Prop} (k : DT X NoX ρ e W) : DTs X ρ [e] W := k
/-! what stands there -/
theorem isStr (x : Str) {j : Nat} (h : DE X PX ρ (.Constant (.str x) j pos) W) : DE X PX ρ (.Constant (.str x) j pos) W := h
theorem gDE (h : DE X PX ρ e W) : DE X PX ρ e W := h
theorem gDT (h : DT X PX ρ e WT) : DT X PX ρ e WT := h
theorem gDW (h : DW X PX ρ e WT) : DW X PX ρ e WT := h
theorem gDF (h : DF X PX ρ e WF) : DF X PX ρ e WF := h
theorem gDS {st : Stmt} (h : DS X PX ρ st N) : DS X PX ρ st N := h
theorem gDSs {sts : List Stmt} (h : DSs X PX ρ sts N) : DSs X PX ρ sts N := h
theorem gDH {W : Lo → Hn → Prop} (h : DH X PX ρ e W) : DH X PX ρ e W := h
theorem gDA {W : Lo → List D → Prop} (h : DA X PX ρ es W) : DA X PX ρ es W := h
theorem gDAH {W : Lo → List Hn → Prop} (h : DAH X PX ρ es W) : DAH X PX ρ es W := h
theorem gDG {vs : List Nat} {d : D} {M : Lo → Prop} (h : DG X vs ρ e d M) : DG X vs ρ e d M := h
theorem gDI {V : Lo → List D → Prop} (h : DI X PX ρ a e V) : DI X PX ρ a e V := h
theorem gDO {o : Option Expr} {W : Lo → Option Int → Prop} (h : DO X PX ρ o W) : DO X PX ρ o W := h
theorem gRK {K : PySem.W.Frag} {r : R2} {d d' : D} {P : D → Prop} (h : RK K r d d' P) : RK K r d d' P := h
theorem gLK {K : PySem.W.Frag} {r : V → Option Int → Option Int → Hp → VK → Prop} {d : D} {l u : Option Int} {P : D → Prop} (h : LK K r d l u P) : LK K r d l u P := h
theorem gCK {K : PySem.W.Frag} {r : List V → Hp → VK → Prop} {ds : List D} {P : D → Prop} (h : CK K r ds P) : CK K r ds P := h
theorem gEx {α : Type} {P : α → Prop} (h : ∃ x, P x) : ∃ x, P x := h
theorem eName (h : DE X PX ρ (.Name x pos) W) : DE X PX ρ (.Name x pos) W := h
theorem eBin {op : Operator} (h : DE X PX ρ (.BinOp a op b pos) W) : DE X PX ρ (.BinOp a op b pos) W := h
theorem eCmp {op : CmpOp} (h : DE X PX ρ (.Compare a [op] [b] pos) W) : DE X PX ρ (.Compare a [op] [b] pos) W := h
theorem eCmp2 {op op' : CmpOp} (h : DE X PX ρ (.Compare a [op, op'] [b, c] pos) W) : DE X PX ρ (.Compare a [op, op'] [b, c] pos) W := h
theorem tCmp {op : CmpOp} (h : DT X PX ρ (.Compare a [op] [b] pos) WT) : DT X PX ρ (.Compare a [op] [b] pos) WT := h
theorem eConst {k : Const} {j : Nat} (h : DE X PX ρ (.Constant k j pos) W) : DE X PX ρ (.Constant k j pos) W := h
theorem eCall (h : DE X PX ρ (.Call (.Name x p) es [] pos) W) : DE X PX ρ (.Call (.Name x p) es [] pos) W := h
theorem eMeth {o : Expr} {m : Str} (h : DE X PX ρ (.Call (.Attribute o m p) es [] pos) W) : DE X PX ρ (.Call (.Attribute o m p) es [] pos) W := h
theorem eSub (h : DE X PX ρ (.Subscript a b pos) W) : DE X PX ρ (.Subscript a b pos) W := h
theorem eBool {op : BoolOp} (h : DE X PX ρ (.BoolOp op es pos) W) : DE X PX ρ (.BoolOp op es pos) W := h
theorem isCallH (x : Str) {W : Lo → Hn → Prop} (h : DH X PX ρ (.Call (.Name x p) es [] pos) W) : DH X PX ρ (.Call (.Name x p) es [] pos) W := h
end
/-! ### what is known of a def that is called -/
def Cl (P : Program) (w : World) (K : PySem.W.Frag) (mg : Str → Option Value) (base : Heap) (k : Nat) (x : Str) (dds : List D) (S : FSpec) : Prop :=
  ∃ (f : Addr) (fd : FuncData) (ps : List Str) (du : List Value) (dvs : List V), DFn P w K mg base k f fd ps S ∧ mg x = some (.ref f) ∧ PySem.W.keepIn K (.ref f) = true ∧ Binds K fd ps du ∧ Vals dvs du ∧ ∀ Hs : Hp, Iss K Hs dds dvs
section
variable {P : Program} {w : World} {K : PySem.W.Frag} {mg : Str → Option Value} {base : Heap}
theorem Cl.mono {j k : Nat} {x : Str} {dds : List D} {S : FSpec} (C : Cl P w K mg base j x dds S) (h : j ≤ k) : Cl P w K mg base k x dds S := by
  obtain ⟨f, fd, ps, du, dvs, h1, h2⟩ := C
  exact ⟨f, fd, ps, du, dvs, FnOk.mono h1 h, h2⟩
/-- a def of no defaults -/
theorem cl_mk {x qual : Str} {params : Arguments} {body : List Stmt} {scope : Scope} {dvs : List V} {kws : List (Str × V)} {f : Addr} {fd : FuncData} {ps : List Str} {k : Nat} {S : FSpec} (F : FunD K x qual params body scope dvs kws f fd)
    (h : DFn P w K mg base k f fd ps S) (hm : mg x = some (.ref f)) (hb : Binds K fd ps []) : Cl P w K mg base k x [] S := ⟨f, fd, ps, [], [], h, hm, F.kp, hb, .nil, fun _ => iss_nil.mpr rfl⟩
/-- a def of one default: all written; the default taken -/
theorem cl_mk0 {x qual : Str} {params : Arguments} {body : List Stmt} {scope : Scope} {d0 : V} {kws : List (Str × V)} {f : Addr} {fd : FuncData} {ps : List Str} {k : Nat} {S : FSpec} (F : FunD K x qual params body scope [d0] kws f fd)
    (h : DFn P w K mg base k f fd ps S) (hm : mg x = some (.ref f)) (hb : ∃ ds, Vals ([d0].drop 1) ds ∧ Binds K fd ps ds) : Cl P w K mg base k x [] S := by
  obtain ⟨ds, h1, h2⟩ := hb
  cases h1
  exact ⟨f, fd, ps, [], [], h, hm, F.kp, h2, .nil, fun _ => iss_nil.mpr rfl⟩
theorem cl_mk1 {x qual : Str} {params : Arguments} {body : List Stmt} {scope : Scope} {i : Int} {kws : List (Str × V)} {f : Addr} {fd : FuncData} {ps : List Str} {k : Nat} {S : FSpec} (F : FunD K x qual params body scope [V.int i] kws f fd)
    (h : DFn P w K mg base k f fd ps S) (hm : mg x = some (.ref f)) (hb : ∃ ds, Vals (([V.int i] : List V).drop 0) ds ∧ Binds K fd ps ds) : Cl P w K mg base k x [.int i] S := by
  obtain ⟨ds, h1, h2⟩ := hb
  exact ⟨f, fd, ps, ds, [.int i], h, hm, F.kp, h2, h1, fun _ => iss_one (is_int.mpr rfl)⟩
end
section
variable {X : Cx} {PX : XP} {ρ : Lo} {e : Expr} {es : List Expr} {pos p : Pos} {x y : Str} {W : Lo → D → Prop} {k : Nat} {dds : List D} {S : FSpec}
theorem de_cl (C : Cl X.prog X.w X.K X.mg X.base k x dds S) (hr : Room k X.A) (h : DA X PX ρ (e :: es) fun ρ1 ds => S none (ds ++ dds) (fun _ d => W ρ1 d) (fun cls fd => PX ρ1 cls fd)) (hg : Gl X x := by rfl) (hdb : (x == ("__debug__" : Str)) = false := by decide)
    (he : starEach (e :: es) X.env = (false, eval e X.env) :: starEach es X.env := by rfl) (hpl : (backTo pos (starEach es X.env)).any (·.1) = false := by rfl) : DE X PX ρ (.Call (.Name x p) (e :: es) [] pos) W := by
  obtain ⟨f, fd, ps, du, dvs, h1, h2, h3, h4, h5, h6⟩ := C
  exact de_call h1 hr h2 h3 h4 h5 h6 h hg hdb he hpl
theorem de_clL (C : Cl X.prog X.w X.K X.mg X.base k x [] S) (hr : Room k X.A) (i : Nat) {b : Bool} {xs : List D} {py : Pos} (h0 : ρ[i]? = some (some (.own b xs)))
    (h : DA X PX ρ es fun ρ1 ds => ∃ b' xs1, ρ1[i]? = some (some (.own b' xs1)) ∧ S (some xs1) ds (fun y' d => ∀ xs', y' = some xs' → W (ρ1.set i (some (.own b' xs'))) d) (fun cls fd => ∀ xs', PX (ρ1.set i (some (.own b' xs'))) cls fd))
    (hN : X.N[i]? = some y := by rfl) (hv : Vis X.env.scope y := by first | exact Or.inl rfl | exact Or.inr (Or.inl rfl) | exact Or.inr (Or.inr rfl)) (hg : Gl X x := by rfl) (hdb : (x == ("__debug__" : Str)) = false := by decide)
    (hd : (y == ("__debug__" : Str)) = false := by decide) (hcd : (y == ("__classdict__" : Str)) = false := by decide)
    (he : starEach (.Name y py :: es) X.env = (false, eval (.Name y py) X.env) :: starEach es X.env := by rfl) (hpl : (backTo pos (starEach es X.env)).any (·.1) = false := by rfl) : DE X PX ρ (.Call (.Name x p) (.Name y py :: es) [] pos) W := by
  obtain ⟨f, fd, ps, du, dvs, h1, h2, h3, h4, h5, h6⟩ := C
  have e1 : dvs = [] := iss_nil.mp (h6 fun _ => none)
  subst e1
  cases h5
  exact de_callL h1 hr h2 h3 h4 i h0 h hN hv hg hdb hd hcd he hpl
end
end DL
namespace DL
open PySem PySem.Spec PyProof.Rows L2
section
variable {X : Cx} {PX : XP} {ρ : Lo} {e : Expr} {W W' : Lo → D → Prop} {WT WT' : Lo → Bool → Prop} {vs : List Nat} {tg : Expr} {d : D} {M M' : Lo → Prop}
theorem DT.imp (h : DT X PX ρ e WT) (k : ∀ ρ d, WT ρ d → WT' ρ d) : DT X PX ρ e WT' := by
 with_unfolding_all
 exact fun B Fr Wx σ Hs H Q E tk kx q => h B Fr Wx σ Hs H Q E tk kx fun v ρ' Hs' H' w => q v ρ' Hs' H' (k _ _ w)
theorem DG.imp (h : DG X vs ρ tg d M) (k : ∀ ρ, M ρ → M' ρ) : DG X vs ρ tg d M' := by
 with_unfolding_all
 exact fun B Fr σ Hs H v Q E i q => h B Fr σ Hs H v Q E i fun ρ' σ' Hs' H' w => q ρ' σ' Hs' H' (k _ w)
end
theorem wipeL_out {ρ : Lo} {i : Nat} : ∀ {vs : List Nat}, i ∉ vs → (wipeL ρ vs)[i]? = ρ[i]?
  | [], _ => rfl
  | v :: vs, h => by
    unfold wipeL
    rw [List.getElem?_set_ne (fun e => h (by rw [e]; exact List.mem_cons_self)), wipeL_out fun z => h (List.mem_cons_of_mem _ z)]
theorem wipeL_in {ρ : Lo} {i : Nat} : ∀ {vs : List Nat}, i ∈ vs → i < ρ.length → (wipeL ρ vs)[i]? = some none
  | [], h, _ => by cases h
  | v :: vs, h, hl => by
    unfold wipeL
    by_cases e : v = i
    · subst e
      rw [List.getElem?_set_self (by rw [wipeL_length]; exact hl)]
    · rw [List.getElem?_set_ne e]
      rcases List.mem_cons.mp h with h | h
      · exact absurd h.symm e
      · exact wipeL_in h hl
theorem wipeL_idem {ρ : Lo} {vs : List Nat} : wipeL (wipeL ρ vs) vs = wipeL ρ vs := by
  apply List.ext_getElem?
  intro i
  by_cases h : i ∈ vs
  · by_cases hl : i < ρ.length
    · rw [wipeL_in h (by rw [wipeL_length]; exact hl), wipeL_in h hl]
    · rw [List.getElem?_eq_none (by rw [wipeL_length, wipeL_length]; omega), List.getElem?_eq_none (by rw [wipeL_length]; omega)]
  · rw [wipeL_out h]
/-! ### comprehensions in their usual forms -/
section
variable {X : Cx} {scope : Scope} {vs : List Nat} {tg elt c : Expr} {ρ1 : Lo} {W : Lo → List D → Prop} {α : Type}
/-- [f(y) for y in ys] -/
theorem comp_map {ys : List α} {g : α → D} (f : α → D) (hl : ys.length ≤ 100000)
    (h : ∀ y ∈ ys, ∀ b, DG (blkOf X scope b) vs (wipeL ρ1 vs) tg (g y) fun ρ3 => ∀ b, DE (blkOf X scope b) NoX ρ3 elt fun ρ5 d => d = f y ∧ wipeL ρ5 vs = wipeL ρ1 vs)
    (k : W (wipeL ρ1 vs) (ys.map f)) : CompD X scope vs tg elt [] ρ1 (ys.map g) W := by
  refine ⟨fun i ρ acc => ρ = wipeL ρ1 vs ∧ acc = (ys.take i).map f, ⟨rfl, rfl⟩, ?_, ?_⟩
  · rintro i ρ2 acc d hd ⟨rfl, rfl⟩ b
    rw [List.getElem?_map] at hd
    cases hy : ys[i]? with
    | none => rw [hy] at hd; cases hd
    | some y =>
      rw [hy] at hd
      cases hd
      refine DG.imp (h y (List.mem_of_getElem? hy) b) fun ρ3 h3 b2 => dts_nil ?_
      rw [if_pos rfl]
      intro b3
      refine DE.imp (h3 b3) fun ρ5 d h5 => ?_
      obtain ⟨rfl, h6⟩ := h5
      have hi := (List.getElem?_eq_some_iff.mp hy).1
      refine ⟨?_, h6, ?_⟩
      · rw [List.length_map, List.length_take]; omega
      · rw [List.take_add_one, hy, List.map_append]; rfl
  · rintro ρ2 acc ⟨rfl, rfl⟩
    rw [wipeL_idem, List.length_map, List.take_length]
    exact k
/-- [f(y) for y in ys if p(y)] -/
theorem comp_filter {ys : List α} {g : α → D} (p : α → Bool) (f : α → D) (hl : ys.length ≤ 100000)
    (h : ∀ y ∈ ys, ∀ b, DG (blkOf X scope b) vs (wipeL ρ1 vs) tg (g y) fun ρ3 => ∀ b, DT (blkOf X scope b) NoX ρ3 c fun ρ4 q => q = p y ∧ wipeL ρ4 vs = wipeL ρ1 vs ∧ (q = true → ∀ b, DE (blkOf X scope b) NoX ρ4 elt fun ρ5 d => d = f y ∧ wipeL ρ5 vs = wipeL ρ1 vs))
    (k : W (wipeL ρ1 vs) ((ys.filter p).map f)) : CompD X scope vs tg elt [c] ρ1 (ys.map g) W := by
  refine ⟨fun i ρ acc => ρ = wipeL ρ1 vs ∧ acc = ((ys.take i).filter p).map f, ⟨rfl, rfl⟩, ?_, ?_⟩
  · rintro i ρ2 acc d hd ⟨rfl, rfl⟩ b
    rw [List.getElem?_map] at hd
    cases hy : ys[i]? with
    | none => rw [hy] at hd; cases hd
    | some y =>
      rw [hy] at hd
      cases hd
      refine DG.imp (h y (List.mem_of_getElem? hy) b) fun ρ3 h3 b2 => dts_one (DT.imp (h3 b2) fun ρ4 q h4 => ?_)
      obtain ⟨rfl, h5, h6⟩ := h4
      have hi := (List.getElem?_eq_some_iff.mp hy).1
      have e : ((ys.take (i + 1)).filter p).map f = ((ys.take i).filter p).map f ++ (if p y = true then [f y] else []) := by
        rw [List.take_add_one, hy, List.filter_append, List.map_append]
        congr 1
        show ([y].filter p).map f = _
        cases hp : p y with
        | true => rw [List.filter_cons_of_pos hp]; rfl
        | false => rw [List.filter_cons_of_neg (by rw [hp]; decide)]; rfl
      cases hp : p y with
      | true =>
        rw [if_pos rfl]
        intro b3
        refine DE.imp (h6 hp b3) fun ρ5 d h7 => ?_
        obtain ⟨rfl, h8⟩ := h7
        refine ⟨?_, h8, ?_⟩
        · rw [List.length_map]
          have := List.length_filter_le p (ys.take i)
          rw [List.length_take] at this
          omega
        · rw [e, if_pos hp]
      | false =>
        rw [if_neg (by decide)]
        refine ⟨h5, ?_⟩
        rw [e, if_neg (by rw [hp]; decide), List.append_nil]
  · rintro ρ2 acc ⟨rfl, rfl⟩
    rw [wipeL_idem, List.length_map, List.take_length]
    exact k
end
/-! ### two clauses, nothing left out -/
section
variable {X : Cx} {scope : Scope} {vs vs1 : List Nat} {tg elt tg1 it1 : Expr} {ρ1 : Lo} {W : Lo → List D → Prop} {α β : Type}
theorem DI.imp {PX : XP} {ρ : Lo} {it : Expr} {V V' : Lo → List D → Prop} (h : DI X PX ρ tg it V) (k : ∀ ρ xs, V ρ xs → V' ρ xs) : DI X PX ρ tg it V' := by
 with_unfolding_all
 exact fun B Fr Wx σ Hs H R E tk kx q => h B Fr Wx σ Hs H R E tk kx fun J ρ' xs Hs' H' w => q J ρ' xs Hs' H' (k _ _ w)
/-- [f(y, z) for y in ys for z in r(y)] -/
theorem comp_map2 {ys : List α} {g : α → D} (r : α → List β) (g1 : β → D) (f : α → β → D) (hv : ∀ i ∈ vs1, i ∈ vs) (hl : (ys.map fun y => (r y).length).sum ≤ 100000)
    (h : ∀ y ∈ ys, ∀ b, DG (blkOf X scope b) vs (wipeL ρ1 vs) tg (g y) fun ρ3 => wipeL ρ3 vs = wipeL ρ1 vs ∧ ∀ b, DI (blkOf X scope b) NoX ρ3 tg1 it1 fun ρ4 zs => zs = (r y).map g1 ∧ ρ4 = ρ3 ∧
      ∀ z ∈ r y, ∀ b, DG (blkOf X scope b) vs1 (wipeL ρ3 vs1) tg1 (g1 z) fun ρ5 => ∀ b, DE (blkOf X scope b) NoX ρ5 elt fun ρ6 d => d = f y z ∧ wipeL ρ6 vs1 = wipeL ρ3 vs1)
    (k : W (wipeL ρ1 vs) (ys.flatMap fun y => (r y).map (f y))) : CompD2 X scope vs vs1 tg elt [] tg1 it1 [] ρ1 (ys.map g) W := by
  have ww : ∀ ρ3 : Lo, wipeL (wipeL ρ3 vs1) vs = wipeL ρ3 vs := fun ρ3 => by
    apply List.ext_getElem?
    intro i
    by_cases hi : i ∈ vs
    · by_cases hl : i < ρ3.length
      · rw [wipeL_in hi (by rw [wipeL_length]; exact hl), wipeL_in hi hl]
      · rw [List.getElem?_eq_none (by rw [wipeL_length, wipeL_length]; omega), List.getElem?_eq_none (by rw [wipeL_length]; omega)]
    · rw [wipeL_out hi, wipeL_out hi, wipeL_out fun z => hi (hv i z)]
  have len : ∀ i y j, ys[i]? = some y → j < (r y).length → ((ys.take i).flatMap fun y => (r y).map (f y)).length + j < 100000 := fun i y j hy hj => by
    have e : (ys.map fun y => (r y).length).sum = ((ys.take i).map fun y => (r y).length).sum + ((ys.drop i).map fun y => (r y).length).sum := by
      rw [← List.sum_append, ← List.map_append, List.take_append_drop]
    have hi := (List.getElem?_eq_some_iff.mp hy).1
    have e2 : ys.drop i = y :: ys.drop (i + 1) := by
      rw [List.drop_eq_getElem_cons hi]
      congr 1
      exact (List.getElem?_eq_some_iff.mp hy).2
    rw [e2, List.map_cons, List.sum_cons] at e
    rw [List.length_flatMap]
    have e3 : (ys.take i).map (fun y => ((r y).map (f y)).length) = (ys.take i).map fun y => (r y).length := by
      apply List.map_congr_left
      intro a _
      rw [List.length_map]
    rw [e3]
    omega
  refine ⟨fun i ρ acc => ρ = wipeL ρ1 vs ∧ acc = (ys.take i).flatMap fun y => (r y).map (f y), ⟨rfl, rfl⟩, ?_, ?_⟩
  · rintro i ρ2 acc d hd ⟨rfl, rfl⟩ b
    rw [List.getElem?_map] at hd
    cases hy : ys[i]? with
    | none => rw [hy] at hd; cases hd
    | some y =>
      rw [hy] at hd
      cases hd
      refine DG.imp (h y (List.mem_of_getElem? hy) b) fun ρ3 h3 b2 => dts_nil ?_
      obtain ⟨h30, h3⟩ := h3
      rw [if_pos rfl]
      intro b3
      refine DI.imp (h3 b3) fun ρ4 zs h4 => ?_
      obtain ⟨rfl, rfl, h4⟩ := h4
      refine ⟨fun j ρ acc => ρ = wipeL ρ4 vs1 ∧ acc = ((ys.take i).flatMap fun y => (r y).map (f y)) ++ ((r y).take j).map (f y), ⟨rfl, by simp⟩, ?_, ?_⟩
      · rintro j ρ6 acc d hd ⟨rfl, rfl⟩ b4
        rw [List.getElem?_map] at hd
        cases hz : (r y)[j]? with
        | none => rw [hz] at hd; cases hd
        | some z =>
          rw [hz] at hd
          cases hd
          refine DG.imp (h4 z (List.mem_of_getElem? hz) b4) fun ρ5 h5 b5 => dts_nil ?_
          rw [if_pos rfl]
          intro b6
          refine DE.imp (h5 b6) fun ρ7 d h7 => ?_
          obtain ⟨rfl, h8⟩ := h7
          have hj := (List.getElem?_eq_some_iff.mp hz).1
          refine ⟨?_, h8, ?_⟩
          · rw [List.length_append, List.length_map, List.length_take, Nat.min_eq_left (by omega)]
            exact len i y j hy hj
          · rw [List.take_add_one, hz, List.map_append, List.append_assoc]; rfl
      · rintro ρ6 acc ⟨rfl, rfl⟩
        refine ⟨by rw [ww]; exact h30, ?_⟩
        rw [List.length_map, List.take_length, List.take_add_one, hy, List.flatMap_append]
        congr 1
        show _ = List.flatMap _ [y]
        simp
  · rintro ρ2 acc ⟨rfl, rfl⟩
    rw [wipeL_idem, List.length_map, List.take_length]
    exact k
end
/-! ### built-ins over what a comprehension makes -/
section
variable {K : PySem.W.Frag} {P : D → Prop} {α : Type} {ys : List α}
theorem ck_allM {f : α → Bool} (k : P (.bl (ys.all f))) : CK K (rAll K) [.lst (ys.map fun y => .bl (f y))] P := by
  rw [show (ys.map fun y => D.bl (f y)) = (ys.map f).map D.bl by rw [List.map_map]; rfl]
  refine ck_all ?_
  rw [List.all_map]
  exact k
theorem ck_anyM {f : α → Bool} (k : P (.bl (ys.any f))) : CK K (rAny K) [.lst (ys.map fun y => .bl (f y))] P := by
  rw [show (ys.map fun y => D.bl (f y)) = (ys.map f).map D.bl by rw [List.map_map]; rfl]
  refine ck_any ?_
  rw [List.any_map]
  exact k
theorem ck_sumM {f : α → Int} (k : P (.int (ys.map f).sum)) : CK K (rSum K) [.lst (ys.map fun y => .int (f y))] P := by
  rw [show (ys.map fun y => D.int (f y)) = (ys.map f).map D.int by rw [List.map_map]; rfl]
  exact ck_sum k
theorem ck_joinM {f : α → List Nat} (hz : (ys.map fun y => (f y).length).sum ≤ 100000) (k : P (.str (ys.flatMap f))) : CK K (rcv (rJoin K)) [.str [], .lst (ys.map fun y => .str (f y))] P := by
  rw [show (ys.map fun y => D.str (f y)) = (ys.map f).map D.str by rw [List.map_map]; rfl]
  refine ck_join ?_ ?_
  · rw [List.map_map, List.length_nil, Nat.mul_zero]
    exact Nat.le_trans hz (by decide)
  · rw [joined_nil, ← List.flatMap_def]
    exact k
end
/-! ### the drawing list -/
def IsRow (xs : List D) : Prop := ∃ (ns : List Int) (i s r : Int), xs = [.scr ns, .int i, .int s, .int r] ∧ 0 ≤ i
/-- a def that draws: it asks pre of the other arguments, gives post -/
def rowS (pre : List D → Prop) (post : List D → D → Prop) : FSpec := fun y ds P _ => ∃ xs, y = some xs ∧ IsRow xs ∧ pre ds ∧ ∀ xs' d, IsRow xs' → post ds d → P (some xs') d
theorem row_use {ρ1 : Lo} {i : Nat} {b : Bool} {xs ds : List D} {pre : List D → Prop} {post : List D → D → Prop} {W : Lo → D → Prop} {PE : Value → Option (Str × D) → Prop} (h0 : ρ1[i]? = some (some (.own b xs))) (hr : IsRow xs) (hp : pre ds)
    (k : ∀ xs' d, IsRow xs' → post ds d → W (ρ1.set i (some (.own b xs'))) d) :
    ∃ b' xs1, ρ1[i]? = some (some (.own b' xs1)) ∧ rowS pre post (some xs1) ds (fun y' d => ∀ xs', y' = some xs' → W (ρ1.set i (some (.own b' xs'))) d) PE :=
  ⟨b, xs, h0, xs, rfl, hr, hp, fun xs' d h1 h2 xs2 e => by cases e; exact k _ _ h1 h2⟩
section
variable {X : Cx} {scope : Scope} {vs : List Nat} {tg elt : Expr} {ρ1 : Lo} {W : Lo → List D → Prop}
/-- [draw for .. in ..] -/
theorem comp_row {items : List D} (Q : D → Prop) (j : Nat) {b : Bool} {xs0 : List D} (h0 : (wipeL ρ1 vs)[j]? = some (some (.own b xs0))) (hr : IsRow xs0) (hl : items.length ≤ 100000)
    (h : ∀ d ∈ items, ∀ xs, IsRow xs → ∀ b', DG (blkOf X scope b') vs ((wipeL ρ1 vs).set j (some (.own b xs))) tg d fun ρ3 => ∀ b', DE (blkOf X scope b') NoX ρ3 elt fun ρ5 y => ∃ xs', IsRow xs' ∧ Q y ∧ wipeL ρ5 vs = (wipeL ρ1 vs).set j (some (.own b xs')))
    (k : ∀ xs' ys, IsRow xs' → (∀ y ∈ ys, Q y) → ys.length = items.length → W (wipeL ((wipeL ρ1 vs).set j (some (.own b xs'))) vs) ys) : CompD X scope vs tg elt [] ρ1 items W := by
  refine ⟨fun i ρ acc => ∃ xs, IsRow xs ∧ ρ = (wipeL ρ1 vs).set j (some (.own b xs)) ∧ (∀ y ∈ acc, Q y) ∧ acc.length = min i items.length, ⟨xs0, hr, ?_, ⟨fun y hy => (nomatch hy), by simp⟩⟩, ?_, ?_⟩
  · apply List.ext_getElem?
    intro i
    by_cases e : j = i
    · subst e
      rw [h0, List.getElem?_set_self ((List.getElem?_eq_some_iff.mp h0).1)]
    · rw [List.getElem?_set_ne e]
  · rintro i ρ2 acc d hd ⟨xs, hx, rfl, hq, hn⟩ b1
    refine DG.imp (h d (List.mem_of_getElem? hd) xs hx b1) fun ρ3 h3 b2 => dts_nil ?_
    rw [if_pos rfl]
    intro b3
    refine DE.imp (h3 b3) fun ρ5 y h5 => ?_
    obtain ⟨xs', h6, h7, h8⟩ := h5
    have hi := (List.getElem?_eq_some_iff.mp hd).1
    refine ⟨by omega, xs', h6, h8, fun z hz => ?_, ?_⟩
    · rcases List.mem_append.mp hz with hz | hz
      · exact hq z hz
      · rw [List.mem_singleton.mp hz]; exact h7
    · rw [List.length_append, hn, List.length_singleton]; omega
  · rintro ρ2 acc ⟨xs, hx, rfl, hq, hn⟩
    exact k xs acc hx hq (by rw [hn, Nat.min_self])
end
end DL
namespace DL
open PySem PySem.Spec PyProof.Rows L2
section
variable {X : Cx} {PX : XP} {ρ : Lo} {o e a b c : Expr} {es : List Expr} {pos p apos cpos : Pos} {x : Str} {W : Lo → D → Prop} {r : V → List V → Hp → VK → Prop}
/-- a text's method -/
theorem de_sm {name : Str} {nm : String} {id : String} (slot : Slot "str" nm id) (hty : typeOf (.builtin id) = pure (.type "method_descriptor")) (hm : MtR X id r)
    (h : DE X PX ρ o fun ρ1 x => ∃ s, x = .str s ∧ DAH X PX ρ1 (e :: es) fun ρ2 hs => ∃ ds, Hns.get ρ2 hs ds ∧ CK X.K (rcv r) (.str s :: ds) (W ρ2)) (hname : name = nm := by rfl)
    (hbase : attributeBase o nm X.env (eval o X.env) = eval o X.env := by rfl)
    (hfew : ((backTo cpos (starEach (e :: es) X.env)).all (fun x => !x.1) && (backToKw cpos (keywordEach [] X.env)).all (fun x => x.1.isSome) && decide ((e :: es).length + ([] : List Keyword).length + (if ([] : List Keyword).isEmpty then 0 else 1) < 30)) = true := by rfl)
    (hline : (apos.endLine == cpos.line) = true := by rfl) (hs : starEach (e :: es) X.env = (false, eval e X.env) :: starEach es X.env := by rfl) (hplain : (backTo cpos (starEach es X.env)).any (·.1) = false := by rfl) :
    DE X PX ρ (.Call (.Attribute o name apos) (e :: es) [] cpos) W := by
  subst hname
  refine de_bm PySem.F.plainAttrs_str slot hty hm ?_ hbase hfew hline hs hplain
  refine DE.imp h fun ρ1 d h => ?_
  obtain ⟨s, rfl, h⟩ := h
  refine ⟨fun B Fr σ Hs H u E i => ?_, h⟩
  rw [is_str.mp i]
  rfl
/-- a module's constant -/
def GV (K : PySem.W.Frag) (mg : Str → Option Value) (x : Str) (d : D) : Prop := ∃ (u : Value) (v : V), mg x = some u ∧ RelV v u ∧ ∀ Hs : Hp, Is K Hs d v
theorem de_gv {d : D} (h : GV X.K X.mg x d) (k : W ρ d) (hg : Gl X x := by rfl) (hd : (x == ("__debug__" : Str)) = false := by decide) : DE X PX ρ (.Name x pos) W := by
  obtain ⟨u, v, h1, h2, h3⟩ := h
  exact de_glob h1 h2 h3 k hg hd
theorem gv_int {K : PySem.W.Frag} {mg : Str → Option Value} {i : Int} (h : ∃ t, mg x = some (.int i t)) : GV K mg x (.int i) := by
  obtain ⟨t, h⟩ := h
  exact ⟨_, .int i, h, ⟨_, rfl⟩, fun _ => is_int.mpr rfl⟩
theorem gv_str {K : PySem.W.Frag} {mg : Str → Option Value} {z : Str} (w : List Nat) (e : z = tx w) (h : ∃ t, mg x = some (.str z t)) : GV K mg x (.str w) := by
  obtain ⟨t, h⟩ := h
  subst e
  exact ⟨_, .str (tx w), h, ⟨_, rfl⟩, fun _ => is_str.mpr rfl⟩
end
/-! ### the letters -/
abbrev LET : List Nat := [97, 98, 99, 100, 101, 102, 103, 104, 105, 106, 107, 108, 109, 110, 111, 112, 113, 114, 115, 116, 117, 118, 119, 120, 121, 122]
abbrev LET6 : List Nat := [97, 98, 99, 100, 101, 102]
theorem occ_let : ∀ k, k < 26 → ∃ rest, Builtin.Str.occurrences (tx LET) (tx [97 + k]) 0 26 1 = k :: rest := by
  intro k hk
  have h : ∀ k ∈ List.range 26, (Builtin.Str.occurrences (tx LET) (tx [97 + k]) 0 26 1).head? = some k := by decide +kernel
  have := h k (List.mem_range.mpr hk)
  cases e : Builtin.Str.occurrences (tx LET) (tx [97 + k]) 0 26 1 with
  | nil => rw [e] at this; cases this
  | cons i r => rw [e] at this; cases this; exact ⟨r, rfl⟩
theorem occ_let6 : ∀ k, k < 6 → ∃ rest, Builtin.Str.occurrences (tx LET6) (tx [97 + k]) 0 6 1 = k :: rest := by
  intro k hk
  have h : ∀ k ∈ List.range 6, (Builtin.Str.occurrences (tx LET6) (tx [97 + k]) 0 6 1).head? = some k := by decide +kernel
  have := h k (List.mem_range.mpr hk)
  cases e : Builtin.Str.occurrences (tx LET6) (tx [97 + k]) 0 6 1 with
  | nil => rw [e] at this; cases this
  | cons i r => rw [e] at this; cases this; exact ⟨r, rfl⟩
theorem ck_index_let {K : PySem.W.Frag} {P : D → Prop} {c : Nat} (h1 : 97 ≤ c) (h2 : c < 123) (k : P (.int ((c - 97 : Nat) : Int))) : CK K (rcv rSIndex) [.str LET, .str [c]] P := by
  obtain ⟨j, rfl⟩ : ∃ j, c = 97 + j := ⟨c - 97, by omega⟩
  obtain ⟨r, hr⟩ := occ_let j (by omega)
  rw [show 97 + j - 97 = j by omega] at k
  exact ck_sindex hr k
theorem ck_index_let6 {K : PySem.W.Frag} {P : D → Prop} {c : Nat} (h1 : 97 ≤ c) (h2 : c < 103) (k : P (.int ((c - 97 : Nat) : Int))) : CK K (rcv rSIndex) [.str LET6, .str [c]] P := by
  obtain ⟨j, rfl⟩ : ∃ j, c = 97 + j := ⟨c - 97, by omega⟩
  obtain ⟨r, hr⟩ := occ_let6 j (by omega)
  rw [show 97 + j - 97 = j by omega] at k
  exact ck_sindex hr k
theorem mem_let {c : Nat} : c ∈ LET ↔ 97 ≤ c ∧ c < 123 := by
  constructor
  · intro h
    have : ∀ c ∈ LET, 97 ≤ c ∧ c < 123 := by decide
    exact this c h
  · rintro ⟨h1, h2⟩
    obtain ⟨j, rfl⟩ : ∃ j, c = 97 + j := ⟨c - 97, by omega⟩
    have : ∀ j ∈ List.range 26, 97 + j ∈ LET := by decide
    exact this j (List.mem_range.mpr (by omega))
theorem let_take (n : Nat) (h : n ≤ 26) {c : Nat} : c ∈ LET.take n ↔ 97 ≤ c ∧ c < 97 + n := by
  have e : ∀ n ∈ List.range 27, LET.take n = (List.range n).map (97 + ·) := by decide
  rw [e n (List.mem_range.mpr (by omega)), List.mem_map]
  constructor
  · rintro ⟨j, hj, rfl⟩
    have := List.mem_range.mp hj
    omega
  · rintro ⟨h1, h2⟩
    exact ⟨c - 97, List.mem_range.mpr (by omega), by omega⟩
/-! ### where an item stands -/
theorem atI_get {α : Type} {xs : List α} {i : Int} {d : α} {j : Nat} (hj : i = j) (h : xs[j]? = some d) : atI xs i = some d := by
  subst hj
  have hl := (List.getElem?_eq_some_iff.mp h).1
  unfold atI ixN
  rw [if_pos (by omega), if_pos (by omega)]
  exact h
theorem cutL_to {α : Type} {xs : List α} {j : Int} (n : Nat) (hj : j = n) : cutL xs none (some j) = xs.take n := by
  subst hj
  unfold cutL
  rw [HT.sIx_none, HT.sIx_nat, List.drop_zero, Nat.sub_zero]
  by_cases h : n ≤ xs.length
  · rw [Nat.min_eq_left h]
  · rw [Nat.min_eq_right (by omega), List.take_length, List.take_of_length_le (by omega)]
theorem cutL_from {α : Type} {xs : List α} {j : Int} (n : Nat) (hj : j = n) : cutL xs (some j) none = xs.drop n := by
  subst hj
  unfold cutL
  rw [HT.sIx_none, HT.sIx_nat]
  by_cases h : n ≤ xs.length
  · rw [Nat.min_eq_left h, List.take_of_length_le (by rw [List.length_drop]; omega)]
  · rw [Nat.min_eq_right (by omega), List.drop_length, List.drop_of_length_le (by omega), List.take_nil]
theorem cutL_mid {α : Type} {xs : List α} {i j : Int} (m n : Nat) (hi : i = m) (hj : j = n) : cutL xs (some i) (some j) = (xs.drop m).take (n - m) := by
  subst hi hj
  unfold cutL
  rw [HT.sIx_nat, HT.sIx_nat]
  by_cases h : m ≤ xs.length
  · rw [Nat.min_eq_left h]
    by_cases h2 : n ≤ xs.length
    · rw [Nat.min_eq_left h2]
    · rw [Nat.min_eq_right (by omega), List.take_of_length_le (by rw [List.length_drop]; exact Nat.le_refl _), List.take_of_length_le (by rw [List.length_drop]; omega)]
  · rw [Nat.min_eq_right (show xs.length ≤ m by omega), List.drop_length, List.drop_of_length_le (show xs.length ≤ m by omega), List.take_nil, List.take_nil]
section
variable {X : Cx} {PX : XP} {ρ : Lo} {a b c : Expr} {pos : Pos} {WT : Lo → Bool → Prop}
/-- a chain as a test -/
theorem dt_chain {op op' : CmpOp} {r r' : R2} (ho : OpR X (compareOp op) r) (ho' : OpR X (compareOp op') r')
    (h : DH X PX ρ a fun ρ1 x => DH X PX ρ1 b fun ρ2 y => ∃ d d', x.get ρ2 d ∧ y.get ρ2 d' ∧ ∃ k, RB X.K r d d' k ∧ (if k = true then DH X PX ρ2 c fun ρ3 z => ∃ d2 d3, y.get ρ3 d2 ∧ z.get ρ3 d3 ∧ ∃ k', RB X.K r' d2 d3 k' ∧ WT ρ3 k' else WT ρ2 false))
    (hm : lastMarks [op, op'] [b, c] = false := by with_unfolding_all rfl) : DT X PX ρ (.Compare a [op, op'] [b, c] pos) WT := by
 with_unfolding_all
 exact fun B Fr Wx σ Hs H Q E tk kx q => by
  refine w_pt (pt_chain ho ho' pe_w pe_w pe_w hm) ?_
  refine h B Fr Wx σ Hs H _ E tk kx fun u ρ1 x Hs1 H1 h1 E1 s1 i1 => ?_
  refine h1 B Fr Wx σ Hs1 H1 _ E1 tk (kx.up s1) fun v ρ2 y Hs2 H2 h2 E2 s2 i2 => ?_
  obtain ⟨d, d', g1, g2, k, hk, hc⟩ := h2
  refine hk B Fr ρ2 σ Hs2 H2 u v _ E2 (hn_is E2 (i1.mono s2) g1) (hn_is E2 i2 g2) ⟨k, rfl, ?_⟩
  cases k with
  | true =>
    rw [if_pos rfl] at hc ⊢
    refine hc B Fr Wx σ Hs2 H2 _ E2 tk (kx.up (s1.trans s2)) fun z ρ3 hz Hs3 H3 h3 E3 s3 i3 => ?_
    obtain ⟨d2, d3, g3, g4, k', hk', w⟩ := h3
    exact hk' B Fr ρ3 σ Hs3 H3 v z _ E3 (hn_is E3 (i2.mono s3) g3) (hn_is E3 i3 g4) ⟨_, rfl, q _ ρ3 Hs3 H3 w E3 ((s1.trans s2).trans s3)⟩
  | false =>
    rw [if_neg (by decide)] at hc ⊢
    exact ⟨_, rfl, q _ ρ2 Hs2 H2 hc E2 (s1.trans s2)⟩
theorem dt_lele (h : DH X PX ρ a fun ρ1 x => DH X PX ρ1 b fun ρ2 y => ∃ d d', x.get ρ2 d ∧ y.get ρ2 d' ∧ ∃ k, RB X.K (rLeAll X.K) d d' k ∧ (if k = true then DH X PX ρ2 c fun ρ3 z => ∃ d2 d3, y.get ρ3 d2 ∧ z.get ρ3 d3 ∧ ∃ k', RB X.K (rLeAll X.K) d2 d3 k' ∧ WT ρ3 k' else WT ρ2 false)) (hm : lastMarks [.LtE, .LtE] [b, c] = false := by with_unfolding_all rfl) : DT X PX ρ (.Compare a [.LtE, .LtE] [b, c] pos) WT := dt_chain op_leAll op_leAll h hm
theorem dt_lelt (h : DH X PX ρ a fun ρ1 x => DH X PX ρ1 b fun ρ2 y => ∃ d d', x.get ρ2 d ∧ y.get ρ2 d' ∧ ∃ k, RB X.K (rLeAll X.K) d d' k ∧ (if k = true then DH X PX ρ2 c fun ρ3 z => ∃ d2 d3, y.get ρ3 d2 ∧ z.get ρ3 d3 ∧ ∃ k', RB X.K (rLtAll X.K) d2 d3 k' ∧ WT ρ3 k' else WT ρ2 false)) (hm : lastMarks [.LtE, .Lt] [b, c] = false := by with_unfolding_all rfl) : DT X PX ρ (.Compare a [.LtE, .Lt] [b, c] pos) WT := dt_chain op_leAll op_ltAll h hm
theorem dt_ltle (h : DH X PX ρ a fun ρ1 x => DH X PX ρ1 b fun ρ2 y => ∃ d d', x.get ρ2 d ∧ y.get ρ2 d' ∧ ∃ k, RB X.K (rLtAll X.K) d d' k ∧ (if k = true then DH X PX ρ2 c fun ρ3 z => ∃ d2 d3, y.get ρ3 d2 ∧ z.get ρ3 d3 ∧ ∃ k', RB X.K (rLeAll X.K) d2 d3 k' ∧ WT ρ3 k' else WT ρ2 false)) (hm : lastMarks [.Lt, .LtE] [b, c] = false := by with_unfolding_all rfl) : DT X PX ρ (.Compare a [.Lt, .LtE] [b, c] pos) WT := dt_chain op_ltAll op_leAll h hm
theorem dt_ltlt (h : DH X PX ρ a fun ρ1 x => DH X PX ρ1 b fun ρ2 y => ∃ d d', x.get ρ2 d ∧ y.get ρ2 d' ∧ ∃ k, RB X.K (rLtAll X.K) d d' k ∧ (if k = true then DH X PX ρ2 c fun ρ3 z => ∃ d2 d3, y.get ρ3 d2 ∧ z.get ρ3 d3 ∧ ∃ k', RB X.K (rLtAll X.K) d2 d3 k' ∧ WT ρ3 k' else WT ρ2 false)) (hm : lastMarks [.Lt, .Lt] [b, c] = false := by with_unfolding_all rfl) : DT X PX ρ (.Compare a [.Lt, .Lt] [b, c] pos) WT := dt_chain op_ltAll op_ltAll h hm
theorem tCmp2 {op op' : CmpOp} (h : DT X PX ρ (.Compare a [op, op'] [b, c] pos) WT) : DT X PX ρ (.Compare a [op, op'] [b, c] pos) WT := h
end
/-! ### values that two ways of making have alike -/
def Scal (d : D) : Prop := d = .non ∨ (∃ b, d = .bl b) ∨ (∃ i, d = .int i) ∨ ∃ w, d = .str w
def Ok : Nat → D → Prop
  | 0, d => Scal d
  | n + 1, d => Scal d ∨ ∃ xs : List D, (d = .lst xs ∨ d = .tup xs) ∧ xs.length ≤ 100000 ∧ ∀ x ∈ xs, Ok n x
theorem Ok.cases {n : Nat} {d : D} (h : Ok n d) : Scal d ∨ ∃ (m : Nat) (xs : List D), n = m + 1 ∧ (d = .lst xs ∨ d = .tup xs) ∧ xs.length ≤ 100000 ∧ ∀ x ∈ xs, Ok m x := by
  cases n with
  | zero => exact .inl h
  | succ m =>
    rcases h with h | ⟨xs, h⟩
    · exact .inl h
    · exact .inr ⟨m, xs, rfl, h⟩
theorem ok_str {n : Nat} {w : List Nat} : Ok n (.str w) := by cases n <;> simp [Ok, Scal]
theorem ok_int {n : Nat} {i : Int} : Ok n (.int i) := by cases n <;> simp [Ok, Scal]
theorem ok_bl {n : Nat} {i : Bool} : Ok n (.bl i) := by cases n <;> simp [Ok, Scal]
theorem ok_non {n : Nat} : Ok n .non := by cases n <;> simp [Ok, Scal]
theorem ok_tup {n : Nat} {xs : List D} (h : xs.length ≤ 100000) (k : ∀ x ∈ xs, Ok n x) : Ok (n + 1) (.tup xs) := .inr ⟨xs, .inr rfl, h, k⟩
theorem ok_lst {n : Nat} {xs : List D} (h : xs.length ≤ 100000) (k : ∀ x ∈ xs, Ok n x) : Ok (n + 1) (.lst xs) := .inr ⟨xs, .inl rfl, h, k⟩
def alikeS (n : Nat) : FSpec := fun y ds P _ => y = none ∧ ∃ d, ds = [d, d] ∧ Ok n d ∧ P none (.bl true)
theorem rb_eq_non {K : PySem.W.Frag} : RB K (rEqAll K) .non .non true := by
 with_unfolding_all
 exact fun B Fr ρ σ Hs H u v Q E h1 h2 q => .inl (by
  rw [ish_non h1, ish_non h2]
  refine ⟨rfl, ?_⟩
  have e : decide (V.non = V.non) = true := decide_eq_true rfl
  rw [e]
  exact q)
theorem eqv_nil : PyData.eqv (D.lst []).toP (D.lst []).toP = true := by decide +kernel
theorem rb_eq_nil {K : PySem.W.Frag} : RB K (rEqAll K) (.lst []) (.lst []) true := by
  have := rb_eq_deep (K := K) (x := .lst []) (y := .lst []) rfl rfl rfl rfl
  rw [eqv_nil] at this
  exact this
theorem dec_self {α : Type} [DecidableEq α] (a : α) : decide (a = a) = true := decide_eq_true rfl
theorem isPar {X : Cx} {PX : XP} {ρ : Lo} {N : EndsD} {e : Expr} {pos p1 p2 p3 : Pos} {kk : Nat} (x y : Str) (h : DS X PX ρ (.Assign [.Tuple [.Name x p1, .Name y p2] kk p3] e pos) N) : DS X PX ρ (.Assign [.Tuple [.Name x p1, .Name y p2] kk p3] e pos) N := h
section
variable {X : Cx} {vs : List Nat} {ρ : Lo} {t : Expr} {ts : List Expr} {d : D} {ds : List D} {M : Lo → Prop}
theorem dgs_cons (h : DG X vs ρ t d fun ρ' => DGs X vs ρ' ts ds M) (ha : (assignEach (t :: ts) X.env).map (·.2) = assign t X.env :: (assignEach ts X.env).map (·.2) := by rfl) : DGs X vs ρ (t :: ts) (d :: ds) M := ⟨ha, h⟩
theorem dgs_nil (h : M ρ) : DGs X vs ρ [] [] M := h
theorem gDGs (h : DGs X vs ρ ts ds M) : DGs X vs ρ ts ds M := h
end
end DL
namespace A
open PySem PySem.Spec PyProof.Rows L2 DL
def topS (i : Nat) : Stmt := PySem.Challenge.pw_avoidwords_k25_whole_images.main.body.getD i (.Pass ⟨0, 0, 0, 0⟩)
/-! steps -/
local macro_rules | `(tactic| exists "side") => `(tactic| first | rfl | assumption | omega | decide | (simp; done) | (simp; omega))
local macro_rules | `(tactic| exists "room") => `(tactic| exact room64 (by assumption))
local macro_rules | `(tactic| exists "nm") => `(tactic| fail)
local macro_rules | `(tactic| exists "par") => `(tactic| fail)
local macro_rules | `(tactic| exists "user") => `(tactic| fail)
local macro_rules | `(tactic| exists "meth") => `(tactic| first
  | ((with_reducible refine isMeth "join" ?_); refine de_sm PySem.F.slot_str_join PySem.F.type_str_join mt_joinA ?_)
  | ((with_reducible refine isMeth "index" ?_); refine de_sm PySem.F.slot_str_index PySem.F.type_str_index mt_sindexA ?_)
  | ((with_reducible refine isMeth "startswith" ?_); refine de_sm PySem.F.slot_str_startswith PySem.F.type_str_startswith mt_startsA ?_)
  | ((with_reducible refine isMeth "endswith" ?_); refine de_sm PySem.F.slot_str_endswith PySem.F.type_str_endswith mt_endsA ?_))
local macro_rules | `(tactic| exists "const") => `(tactic| fail)
local macro_rules | `(tactic| exists "lc") => `(tactic| fail)
local macro_rules | `(tactic| exists "rk") => `(tactic| first
  | refine rk_add_int ?_
  | refine rk_sub ?_
  | (refine rk_ix_lst (d := ?d1) ?h1 ?_; (case h1 => first | rfl | assumption))
  | (refine rk_ix_tup (d := ?d1) ?h1 ?_; (case h1 => first | rfl | assumption))
  | (refine rk_ix_scr (n := ?d1) ?h1 ?_; (case h1 => first | rfl | assumption))
  | (refine rk_ix_str (c := ?d1) ?h0 ?h1 ?_; (case h0 => exists "side"); (case h1 => first | rfl | assumption))
  | (refine rk_mod ?h1 ?_; (case h1 => exists "side"))
  | (refine rk_div ?h1 ?h2 ?_; (case h1 => exists "side"); (case h2 => exists "side"))
  | (refine rk_mul_int ?h1 ?_; (case h1 => first | exact .inl ⟨by omega, by omega⟩ | exact .inr ⟨by omega, by omega⟩ | skip))
  | (refine rk_add_str ?h1 ?_; (case h1 => first | (exists "side"; done) | skip))
  | (refine rk_add_lst ?h1 ?_; (case h1 => first | (exists "side"; done) | skip))
  | (refine rk_add_tup ?h1 ?_; (case h1 => first | (exists "side"; done) | skip))
  | (refine rk_mul_str ?h1 ?_; (case h1 => first | (exists "side"; done) | skip))
  | (refine rk_mul_lst ?h1 ?_; (case h1 => first | (exists "side"; done) | skip))
  | (refine rk_pow ?h1 ?h2 ?h3 ?_; (case h1 => exists "side"); (case h2 => exists "side"); (case h3 => exists "side"))
  | refine rk_neg ?_
  | refine rk_ip_add ?_
  | refine rk_ip_sub ?_)
local macro_rules | `(tactic| exists "ck") => `(tactic| first
  | refine ck_int ?_
  | refine ck_len_lst ?_
  | refine ck_len_tup ?_
  | refine ck_len_scr ?_
  | (refine ck_len_str ?h1 ?_; (case h1 => first | (exists "side"; done) | skip))
  | refine ck_isi (b := true) rfl (by decide +kernel) ?_
  | refine ck_isi (b := false) rfl (by decide +kernel) ?_
  | refine ck_all ?_
  | refine ck_any ?_
  | refine ck_sum ?_
  | refine ck_tup_lst ?_
  | refine ck_max2 ?_
  | refine ck_min2 ?_
  | refine ck_starts ?_
  | refine ck_ends ?_)
local macro_rules | `(tactic| exists "ex") => `(tactic| first
  | refine ⟨_, _, get_sh, get_sh, ?_⟩
  | refine ⟨_, get_sh, ?_⟩
  | refine ⟨_, hns1 get_sh, ?_⟩
  | refine ⟨_, hns2 get_sh get_sh, ?_⟩
  | refine ⟨_, rfl, ?_⟩
  | refine ⟨_, rb_lt, ?_⟩
  | refine ⟨_, rb_le, ?_⟩
  | refine ⟨_, rb_gt, ?_⟩
  | refine ⟨_, rb_ge, ?_⟩
  | refine ⟨_, rb_eq_int, ?_⟩
  | refine ⟨_, rb_ne_int, ?_⟩
  | refine ⟨_, rb_eq_str, ?_⟩
  | refine ⟨_, rb_ne_str, ?_⟩
  | refine ⟨_, rb_eq_bl, ?_⟩
  | refine ⟨_, rb_ne_bl, ?_⟩
  | refine ⟨_, rb_in_sign, ?_⟩
  | refine ⟨_, rb_notIn_sign, ?_⟩
  | refine ⟨_, rb_lt_str, ?_⟩
  | refine ⟨_, rb_le_str, ?_⟩
  | refine ⟨_, rb_isN rfl, ?_⟩
  | refine ⟨_, rb_eq_non, ?_⟩
  | refine ⟨_, rb_eq_nil, ?_⟩
  | refine ⟨_, _, rfl, ?_⟩
  | refine ⟨_, _, ["tuple", "list"], true, get_sh, rfl, by decide, rfl, by decide +kernel, ?_⟩
  | refine ⟨_, _, ["tuple", "list"], false, get_sh, rfl, by decide, rfl, by decide +kernel, ?_⟩
  | refine ⟨_, rb_notN rfl, ?_⟩
  | refine ⟨_, _, get_own rfl, get_sh, ?_⟩
  | refine ⟨_, _, get_sh, get_own rfl, ?_⟩
  | refine ⟨_, _, get_own rfl, get_own rfl, ?_⟩
  | refine ⟨_, get_own rfl, ?_⟩
  | refine ⟨_, hns1 (get_own rfl), ?_⟩
  | (refine ex_put (k := ?k1) rfl ?h1 ?_; (case h1 => first | rfl | assumption))
  | refine ex_own rfl ?_)
local macro_rules | `(tactic| exists "eCall") => `(tactic| first
  | ((with_reducible refine isCall "len" ?_); refine de_bi call_lenAll (by assumption) PySem.boot_len ?_)
  | ((with_reducible refine isCall "isinstance" ?_); first | refine de_isiT (by assumption) ?_ | refine de_bi call_isi (by assumption) (by decide +kernel) ?_)
  | ((with_reducible refine isCall "int" ?_); refine de_bt call_intA (by assumption) PyProof.Rows.boot_int ?_)
  | ((with_reducible refine isCall "all" ?_); refine de_bi (cr_all rfl) (by assumption) (by decide +kernel) ?_)
  | ((with_reducible refine isCall "any" ?_); refine de_bi (cr_any rfl) (by assumption) (by decide +kernel) ?_)
  | ((with_reducible refine isCall "sum" ?_); refine de_bi (cr_sum rfl) (by assumption) (by decide +kernel) ?_)
  | ((with_reducible refine isCall "tuple" ?_); refine de_bt call_tupA (by assumption) (by decide +kernel) ?_)
  | ((with_reducible refine isCall "max" ?_); refine de_bi call_max2A (by assumption) (by decide +kernel) ?_)
  | ((with_reducible refine isCall "min" ?_); refine de_bi call_min2A (by assumption) (by decide +kernel) ?_)
  | exists "user")
local macro_rules | `(tactic| exists "eBin") => `(tactic| first
  | refine de_add ?_
  | refine de_sub ?_
  | refine de_mul ?_
  | refine de_mod ?_
  | refine de_div ?_
  | refine de_pow ?_)
local macro_rules | `(tactic| exists "eCmp") => `(tactic| first
  | refine de_eq (by exists "room") ?_
  | refine de_ne (by exists "room") ?_
  | refine de_gt ?_
  | refine de_lt ?_
  | refine de_le ?_
  | refine de_ge ?_
  | refine de_in ?_
  | refine de_notIn ?_
  | refine de_is ?_
  | refine de_isnot ?_)
local macro_rules | `(tactic| exists "tCmp") => `(tactic| first
  | refine dt_eq (by exists "room") ?_
  | refine dt_ne (by exists "room") ?_
  | refine dt_gt ?_
  | refine dt_lt ?_
  | refine dt_le ?_
  | refine dt_ge ?_
  | refine dt_in ?_
  | refine dt_notIn ?_
  | refine dt_is ?_
  | refine dt_isnot ?_)
local macro_rules | `(tactic| exists "ty") => `(tactic| first
  | ((with_reducible refine isName "int" ?_); refine de_ty (n := "int") (by assumption) (by decide +kernel) ?_)
  | ((with_reducible refine isName "bool" ?_); refine de_ty (n := "bool") (by assumption) (by decide +kernel) ?_)
  | ((with_reducible refine isName "str" ?_); refine de_ty (n := "str") (by assumption) (by decide +kernel) ?_)
  | ((with_reducible refine isName "tuple" ?_); refine de_ty (n := "tuple") (by assumption) (by decide +kernel) ?_)
  | ((with_reducible refine isName "list" ?_); refine de_ty (n := "list") (by assumption) (by decide +kernel) ?_))
local macro_rules | `(tactic| exists "e") => `(tactic| first
  | ((with_reducible refine eName ?_); first | exists "nm" | exists "const" | exists "ty")
  | ((with_reducible refine eBin ?_); exists "eBin")
  | ((with_reducible refine eCmp ?_); exists "eCmp")
  | ((with_reducible refine eCall ?_); exists "eCall")
  | ((with_reducible refine eMeth ?_); exists "meth")
  | ((with_reducible refine eSub ?_); first | refine de_ix ix_seq (fun _ _ => rfl) ?_ | refine de_sl sl_all ?_)
  | ((with_reducible refine eConst ?_); first | refine de_int ?_ | exists "const" | refine de_bl ?_ | refine de_non ?_)
  | ((with_reducible refine eBool ?_); first | refine de_and ?_ | refine de_or ?_ | refine de_bone ?_)
  | ((with_reducible refine eCmp2 ?_); first | refine de_lele ?_ | refine de_lelt ?_ | refine de_ltle ?_)
  | refine de_not ?_
  | refine de_if ?_
  | refine de_neg ?_
  | refine de_tup ?_
  | refine de_df (df_lst ?_)
  | exists "lc")
local macro_rules | `(tactic| exists "t") => `(tactic| first
  | ((with_reducible refine tCmp ?_); exists "tCmp")
  | ((with_reducible refine tCmp2 ?_); first | refine dt_lele ?_ | refine dt_lelt ?_ | refine dt_ltle ?_ | refine dt_ltlt ?_)
  | refine dt_not ?_
  | refine dt_dw (dw_and ?_)
  | refine dt_dw (dw_or ?_)
  | refine dt_de ?_)
local macro_rules | `(tactic| exists "s") => `(tactic| first
  | exists "nm"
  | exists "par"
  | refine ds_if ?_
  | refine ds_ret ?_
  | refine ds_pass ?_
  | refine ds_brk ?_
  | refine ds_cont ?_
  | refine ds_expr ?_)
local macro_rules | `(tactic| exists "dw") => `(tactic| repeat (first
  | ((with_reducible refine gDSs ?_); first | refine dss_cons ?_ | refine dss_nil ?_)
  | ((with_reducible refine gDS ?_); exists "s")
  | ((with_reducible refine gDE ?_); exists "e")
  | ((with_reducible refine gDH ?_); first | exists "nm" | refine dh_de ?_)
  | ((with_reducible refine gRK ?_); exists "rk")
  | ((with_reducible refine gEx ?_); exists "ex")
  | ((with_reducible refine gCK ?_); exists "ck")
  | ((with_reducible refine gLK ?_); first | (refine lk_str ?h1 ?_; (case h1 => first | (exists "side"; done) | skip)) | refine lk_lst ?_ | refine lk_tup ?_)
  | ((with_reducible refine gDT ?_); exists "t")
  | ((with_reducible refine gDA ?_); first | refine da_cons ?_ | refine da_nil ?_)
  | ((with_reducible refine gDAH ?_); first | refine dah_cons ?_ | refine dah_nil ?_)
  | ((with_reducible refine gDW ?_); first | refine dw_and ?_ | refine dw_or ?_ | refine dw_and1 ?_ | refine dw_or1 ?_)
  | ((with_reducible refine gDO ?_); first | refine do_none ?_ | refine do_some ?_)
  | ((with_reducible refine gDG ?_); first | exists "nm" | refine dg_tup rfl ?_)
  | ((with_reducible refine gDGs ?_); first | refine dgs_cons ?_ | refine dgs_nil ?_)
  | ((with_reducible refine gDI ?_); first | refine di_range1 (by assumption) ?_ | refine di_range2 (by assumption) ?_)
  | dsimp only [List.set, wipeL, List.map]
  | exists "fin"))
local macro_rules | `(tactic| exists "fin") => `(tactic| first
  | refine ifT rfl ?_
  | refine ifF rfl ?_
  | ((with_reducible refine And.intro ?h1 ?_); (case h1 => exists "side"; done)))
def takenS : FSpec := rowS (fun ds => ∃ n : Int, ds = [.int n] ∧ 1 ≤ n ∧ n < 1073741824) (fun ds d => ∃ n k : Int, ds = [.int n] ∧ d = .int k ∧ 0 ≤ k ∧ k < n)
theorem taken_go {xs : List D} {n : Int} {W : List D → D → Prop} {PE : Value → Option (Str × D) → Prop} (hr : IsRow xs) (h1 : 1 ≤ n) (h2 : n < 1073741824) (k : ∀ xs' j, IsRow xs' → 0 ≤ j → j < n → W xs' (.int j)) :
    takenS (some xs) [.int n] (fun y' d => ∀ xs', y' = some xs' → W xs' d) PE := ⟨xs, rfl, hr, ⟨n, rfl, h1, h2⟩, fun xs' d hx hd xs2 e => by
    cases e
    obtain ⟨n', j, e, rfl, h3, h4⟩ := hd
    cases e
    exact k xs' j hx h3 h4⟩
def WordIn (sz lo hi : Int) (w : List Nat) : Prop := lo ≤ w.length ∧ w.length ≤ hi ∧ ∀ c ∈ w, 97 ≤ c ∧ (c : Int) < 97 + sz
def wordS : FSpec := rowS (fun ds => ∃ sz lo hi : Int, ds = [.int sz, .int lo, .int hi] ∧ 1 ≤ sz ∧ sz ≤ 6 ∧ 0 ≤ lo ∧ lo ≤ hi ∧ hi ≤ 1000) (fun ds d => ∃ (sz lo hi : Int) (w : List Nat), ds = [.int sz, .int lo, .int hi] ∧ d = .str w ∧ WordIn sz lo hi w)
theorem word_go {xs : List D} {sz lo hi : Int} {W : List D → D → Prop} {PE : Value → Option (Str × D) → Prop} (hr : IsRow xs) (h1 : 1 ≤ sz ∧ sz ≤ 6 ∧ 0 ≤ lo ∧ lo ≤ hi ∧ hi ≤ 1000) (k : ∀ xs' w, IsRow xs' → WordIn sz lo hi w → W xs' (.str w)) :
    wordS (some xs) [.int sz, .int lo, .int hi] (fun y' d => ∀ xs', y' = some xs' → W xs' d) PE := ⟨xs, rfl, hr, ⟨sz, lo, hi, rfl, h1⟩, fun xs' d hx hd xs2 e => by
    cases e
    obtain ⟨sz', lo', hi', w, e, rfl, h3⟩ := hd
    cases e
    exact k xs' w hx h3⟩

section
variable {P : Program} {w : World} {K : PySem.W.Frag} {mg : Str → Option Value} {base : Heap}
local macro_rules | `(tactic| exists "nm") => `(tactic| first
  | ((with_reducible refine isName "_law_row" ?_); first | refine de_var 0 rfl ?_ | refine de_varF 0 rfl ?_)
  | ((with_reducible refine isNameH "_law_row" ?_); refine dh_own 0 rfl ?_)
  | ((with_reducible refine isTg "_law_row" ?_); refine dg_name 0 ?_)
  | ((with_reducible refine isSet "_law_row" ?_); first | (refine ds_setL 0 ?_; (with_reducible refine df_lst ?_)) | refine ds_set 0 ?_)
  | ((with_reducible refine isAug "_law_row" ?_); first | refine ds_aug 0 ip_add rfl ?_ | refine ds_aug 0 ip_sub rfl ?_)
  | ((with_reducible refine isPut "_law_row" ?_); refine ds_put 0 ?_)
  | ((with_reducible refine isApp "_law_row" ?_); refine ds_append 0 rfl ?_)
  | ((with_reducible refine isName "_law_many" ?_); first | refine de_var 1 rfl ?_ | refine de_varF 1 rfl ?_)
  | ((with_reducible refine isNameH "_law_many" ?_); refine dh_own 1 rfl ?_)
  | ((with_reducible refine isTg "_law_many" ?_); refine dg_name 1 ?_)
  | ((with_reducible refine isSet "_law_many" ?_); first | (refine ds_setL 1 ?_; (with_reducible refine df_lst ?_)) | refine ds_set 1 ?_)
  | ((with_reducible refine isAug "_law_many" ?_); first | refine ds_aug 1 ip_add rfl ?_ | refine ds_aug 1 ip_sub rfl ?_)
  | ((with_reducible refine isPut "_law_many" ?_); refine ds_put 1 ?_)
  | ((with_reducible refine isApp "_law_many" ?_); refine ds_append 1 rfl ?_)
  | ((with_reducible refine isName "_law_found" ?_); first | refine de_var 2 rfl ?_ | refine de_varF 2 rfl ?_)
  | ((with_reducible refine isNameH "_law_found" ?_); refine dh_own 2 rfl ?_)
  | ((with_reducible refine isTg "_law_found" ?_); refine dg_name 2 ?_)
  | ((with_reducible refine isSet "_law_found" ?_); first | (refine ds_setL 2 ?_; (with_reducible refine df_lst ?_)) | refine ds_set 2 ?_)
  | ((with_reducible refine isAug "_law_found" ?_); first | refine ds_aug 2 ip_add rfl ?_ | refine ds_aug 2 ip_sub rfl ?_)
  | ((with_reducible refine isPut "_law_found" ?_); refine ds_put 2 ?_)
  | ((with_reducible refine isApp "_law_found" ?_); refine ds_append 2 rfl ?_)
  | ((with_reducible refine isName "_law_cell" ?_); first | refine de_var 3 rfl ?_ | refine de_varF 3 rfl ?_)
  | ((with_reducible refine isNameH "_law_cell" ?_); refine dh_own 3 rfl ?_)
  | ((with_reducible refine isTg "_law_cell" ?_); refine dg_name 3 ?_)
  | ((with_reducible refine isSet "_law_cell" ?_); first | (refine ds_setL 3 ?_; (with_reducible refine df_lst ?_)) | refine ds_set 3 ?_)
  | ((with_reducible refine isAug "_law_cell" ?_); first | refine ds_aug 3 ip_add rfl ?_ | refine ds_aug 3 ip_sub rfl ?_)
  | ((with_reducible refine isPut "_law_cell" ?_); refine ds_put 3 ?_)
  | ((with_reducible refine isApp "_law_cell" ?_); refine ds_append 3 rfl ?_))
theorem sc__law_taken : FnScope ["_law_row", "_law_many", "_law_found", "_law_cell"] ["_law_row", "_law_many"] (defScope (topS 27)) := ⟨rfl, rfl, rfl, by decide +kernel, rfl, by decide +kernel, by decide +kernel⟩
theorem ok__law_taken {f : Addr} {fd : FuncData} {k : Nat} (F : FunD K "_law_taken" "_law_taken" (defArgs (topS 27)) (defBody (topS 27)) (defScope (topS 27)) [] [] f fd) (b_len : mg "len" = none) (b_int : mg "int" = none) :
    DFn P w K mg base (k + 1) f fd ["_law_row", "_law_many"] takenS := by
  refine dfn F sc__law_taken ?_ ?_
  · rintro y ds P' PE ⟨xs, rfl, _, ⟨n, rfl, _⟩, _⟩
    rfl
  · rintro cdv A outer s H E hr y ds P' PE ⟨xs, rfl, ⟨ns, i, sd, r, rfl, hi⟩, ⟨n, rfl, h1, h2⟩, q⟩
    have nd := sc__law_taken.nd
    show DSs _ _ [some (.own true [.scr ns, .int i, .int sd, .int r]), some (.sh (.int n)), none, none] _ _
    exists "dw"
    refine ifb (fun c1 => ?_) (fun c1 => ?_)
    · exists "dw"
      exact .inr ⟨_, rfl, rfl, q _ _ ⟨ns, _, _, _, rfl, hi⟩ ⟨_, _, rfl, rfl, Int.emod_nonneg _ (by omega), Int.emod_lt_of_pos _ (by omega)⟩⟩
    · exists "dw"
      refine ifb (fun c2 => ?_) (fun c2 => ?_)
      · exists "dw"
        exact .inr ⟨_, rfl, rfl, q _ _ ⟨ns, _, _, _, rfl, by omega⟩ ⟨_, _, rfl, rfl, Int.emod_nonneg _ (by omega), Int.emod_lt_of_pos _ (by omega)⟩⟩
      · have c3 : i.toNat < ns.length := by
          have := of_decide_eq_false c2
          omega
        have c4 : atI ns (i + 1 - 1) = some (ns[i.toNat]) := atI_get (j := i.toNat) (by omega) (List.getElem?_eq_getElem c3)
        exists "dw"
        refine ifb (fun c5 => ?_) (fun c5 => ?_)
        · exists "dw"
          exact .inr ⟨_, rfl, rfl, q _ _ ⟨ns, _, _, _, rfl, by omega⟩ ⟨_, _, rfl, rfl, Int.emod_nonneg _ (by omega), Int.emod_lt_of_pos _ (by omega)⟩⟩
        · exists "dw"
          exact .inr ⟨_, rfl, rfl, q _ _ ⟨ns, _, _, _, rfl, by omega⟩ ⟨_, _, rfl, rfl, Int.emod_nonneg _ (by omega), Int.emod_lt_of_pos _ (by omega)⟩⟩
end

section
variable {P : Program} {w : World} {K : PySem.W.Frag} {mg : Str → Option Value} {base : Heap}
local macro_rules | `(tactic| exists "nm") => `(tactic| first
  | ((with_reducible refine isName "_law_row" ?_); first | refine de_var 0 rfl ?_ | refine de_varF 0 rfl ?_)
  | ((with_reducible refine isNameH "_law_row" ?_); refine dh_own 0 rfl ?_)
  | ((with_reducible refine isTg "_law_row" ?_); refine dg_name 0 ?_)
  | ((with_reducible refine isSet "_law_row" ?_); first | (refine ds_setL 0 ?_; (with_reducible refine df_lst ?_)) | refine ds_set 0 ?_)
  | ((with_reducible refine isAug "_law_row" ?_); first | refine ds_aug 0 ip_add rfl ?_ | refine ds_aug 0 ip_sub rfl ?_)
  | ((with_reducible refine isPut "_law_row" ?_); refine ds_put 0 ?_)
  | ((with_reducible refine isApp "_law_row" ?_); refine ds_append 0 rfl ?_)
  | ((with_reducible refine isName "_law_size" ?_); first | refine de_var 1 rfl ?_ | refine de_varF 1 rfl ?_)
  | ((with_reducible refine isNameH "_law_size" ?_); refine dh_own 1 rfl ?_)
  | ((with_reducible refine isTg "_law_size" ?_); refine dg_name 1 ?_)
  | ((with_reducible refine isSet "_law_size" ?_); first | (refine ds_setL 1 ?_; (with_reducible refine df_lst ?_)) | refine ds_set 1 ?_)
  | ((with_reducible refine isAug "_law_size" ?_); first | refine ds_aug 1 ip_add rfl ?_ | refine ds_aug 1 ip_sub rfl ?_)
  | ((with_reducible refine isPut "_law_size" ?_); refine ds_put 1 ?_)
  | ((with_reducible refine isApp "_law_size" ?_); refine ds_append 1 rfl ?_)
  | ((with_reducible refine isName "_law_least" ?_); first | refine de_var 2 rfl ?_ | refine de_varF 2 rfl ?_)
  | ((with_reducible refine isNameH "_law_least" ?_); refine dh_own 2 rfl ?_)
  | ((with_reducible refine isTg "_law_least" ?_); refine dg_name 2 ?_)
  | ((with_reducible refine isSet "_law_least" ?_); first | (refine ds_setL 2 ?_; (with_reducible refine df_lst ?_)) | refine ds_set 2 ?_)
  | ((with_reducible refine isAug "_law_least" ?_); first | refine ds_aug 2 ip_add rfl ?_ | refine ds_aug 2 ip_sub rfl ?_)
  | ((with_reducible refine isPut "_law_least" ?_); refine ds_put 2 ?_)
  | ((with_reducible refine isApp "_law_least" ?_); refine ds_append 2 rfl ?_)
  | ((with_reducible refine isName "_law_most" ?_); first | refine de_var 3 rfl ?_ | refine de_varF 3 rfl ?_)
  | ((with_reducible refine isNameH "_law_most" ?_); refine dh_own 3 rfl ?_)
  | ((with_reducible refine isTg "_law_most" ?_); refine dg_name 3 ?_)
  | ((with_reducible refine isSet "_law_most" ?_); first | (refine ds_setL 3 ?_; (with_reducible refine df_lst ?_)) | refine ds_set 3 ?_)
  | ((with_reducible refine isAug "_law_most" ?_); first | refine ds_aug 3 ip_add rfl ?_ | refine ds_aug 3 ip_sub rfl ?_)
  | ((with_reducible refine isPut "_law_most" ?_); refine ds_put 3 ?_)
  | ((with_reducible refine isApp "_law_most" ?_); refine ds_append 3 rfl ?_)
  | ((with_reducible refine isName "_law_at" ?_); first | refine de_var 4 rfl ?_ | refine de_varF 4 rfl ?_)
  | ((with_reducible refine isNameH "_law_at" ?_); refine dh_own 4 rfl ?_)
  | ((with_reducible refine isTg "_law_at" ?_); refine dg_name 4 ?_)
  | ((with_reducible refine isSet "_law_at" ?_); first | (refine ds_setL 4 ?_; (with_reducible refine df_lst ?_)) | refine ds_set 4 ?_)
  | ((with_reducible refine isAug "_law_at" ?_); first | refine ds_aug 4 ip_add rfl ?_ | refine ds_aug 4 ip_sub rfl ?_)
  | ((with_reducible refine isPut "_law_at" ?_); refine ds_put 4 ?_)
  | ((with_reducible refine isApp "_law_at" ?_); refine ds_append 4 rfl ?_))
local macro_rules | `(tactic| exists "lc") => `(tactic| first
  | refine de_df (df_lc [("_law_at", 4)] ?_ (blkOk_by (N := ["_law_row", "_law_size", "_law_least", "_law_most", "_law_at"]) (sc := defScope (topS 29)) (by decide +kernel))))
local macro_rules | `(tactic| exists "const") => `(tactic| first
  | ((with_reducible refine isStr "abcdef" ?_); refine de_str LET6 rfl ?_)
  | ((with_reducible refine isStr "" ?_); refine de_str [] rfl ?_)
  | refine de_gv (by assumption) ?_)
local macro_rules | `(tactic| exists "user") => `(tactic| first
  | ((with_reducible refine isCall "_law_taken" ?_); refine de_clL (by assumption) (by assumption) 0 rfl ?_)
  | refine de_cl (by assumption) (by assumption) ?_)
theorem sc__law_word : FnScope ["_law_row", "_law_size", "_law_least", "_law_most", "_law_at"] ["_law_row", "_law_size", "_law_least", "_law_most"] (defScope (topS 29)) := ⟨rfl, rfl, rfl, by decide +kernel, rfl, by decide +kernel, by decide +kernel⟩
theorem drawn_signs {sz : Int} : ∀ {ys : List D}, (∀ y ∈ ys, ∃ c : Nat, y = .str [c] ∧ 97 ≤ c ∧ (c : Int) < 97 + sz) → ∃ cs : List Nat, ys = cs.map (fun c => .str [c]) ∧ ∀ c ∈ cs, 97 ≤ c ∧ (c : Int) < 97 + sz
  | [], _ => ⟨[], rfl, fun c hc => nomatch hc⟩
  | y :: ys, h => by
    obtain ⟨cs, rfl, h1⟩ := drawn_signs (ys := ys) fun y hy => h y (List.mem_cons_of_mem _ hy)
    obtain ⟨c, rfl, h2⟩ := h y List.mem_cons_self
    exact ⟨c :: cs, rfl, fun c' hc => by
      rcases List.mem_cons.mp hc with e | hc
      · rw [e]; exact h2
      · exact h1 c' hc⟩
theorem sum_one : ∀ cs : List Nat, (cs.map fun y => [y].length).sum = cs.length
  | [] => rfl
  | c :: cs => by rw [List.map_cons, List.sum_cons, sum_one cs]; show 1 + _ = _ + 1; omega
theorem flat_one (cs : List Nat) : cs.flatMap (fun c => [c]) = cs := by
  induction cs with
  | nil => rfl
  | cons c cs ih => rw [List.flatMap_cons, ih]; rfl
theorem ok__law_word {f : Addr} {fd : FuncData} {k : Nat} (F : FunD K "_law_word" "_law_word" (defArgs (topS 29)) (defBody (topS 29)) (defScope (topS 29)) [] [] f fd) (b_range : mg "range" = none) (C__law_taken : Cl P w K mg base k "_law_taken" [] takenS) :
    DFn P w K mg base (k + 1) f fd ["_law_row", "_law_size", "_law_least", "_law_most"] wordS := by
  refine dfn F sc__law_word ?_ ?_
  · rintro y ds P' PE ⟨xs, rfl, _, ⟨sz, lo, hi, rfl, _⟩, _⟩
    rfl
  · rintro cdv A outer s H E hr y ds P' PE ⟨xs, rfl, hx, ⟨sz, lo, hi, rfl, h1, h2, h3, h4, h5⟩, q⟩
    have nd := sc__law_word.nd
    show DSs _ _ [some (.own true xs), some (.sh (.int sz)), some (.sh (.int lo)), some (.sh (.int hi)), none] _ _
    exists "dw"
    refine taken_go hx (by omega) (by omega) fun xs1 j hx1 j1 j2 => ?_
    exists "dw"
    refine comp_row (fun y => ∃ c : Nat, y = .str [c] ∧ 97 ≤ c ∧ (c : Int) < 97 + sz) 0 rfl hx1 ?_ ?_ ?_
    · rw [ups_len]; omega
    · intro d hd xs2 hx2 b1
      exists "dw"
      intro b2
      exists "dw"
      refine taken_go hx2 (by omega) (by omega) fun xs3 t hx3 t1 t2 => ?_
      exists "dw"
      refine rk_ix_str (c := 97 + t.toNat) (by decide) (atI_get (j := t.toNat) (by omega) ?_) ?_
      · have e : ∀ m ∈ List.range 6, LET6[m]? = some (97 + m) := by decide
        exact e _ (List.mem_range.mpr (by omega))
      · exact ⟨xs3, hx3, ⟨_, rfl, by omega, by omega⟩, rfl⟩
    · intro xs4 ys hx4 hy hn
      obtain ⟨cs, rfl, hc⟩ : ∃ cs : List Nat, ys = cs.map (fun c => .str [c]) ∧ ∀ c ∈ cs, 97 ≤ c ∧ (c : Int) < 97 + sz := drawn_signs hy
      rw [List.length_map, ups_len] at hn
      exists "dw"
      refine ck_joinM (f := fun c => [c]) ?_ ?_
      · rw [sum_one]; omega
      · rw [flat_one]
        refine .inr ⟨_, rfl, rfl, q _ _ hx4 ⟨_, _, _, _, rfl, rfl, ?_, ?_, hc⟩⟩ <;> omega
end

def isWordS : FSpec := fun y ds P _ => y = none ∧ ∃ (w : List Nat) (n : Int), ds = [.str w, .int n] ∧ w.length ≤ 100000 ∧ P none (.bl (decide ((w.length : Int) ≤ n) && w.all fun c => decide (c ∈ LET)))
def Letters (w : List Nat) : Prop := ∀ c ∈ w, c ∈ LET
theorem word_yes {w : List Nat} {n : Int} (h : (w.length : Int) ≤ n) (hl : Letters w) : (decide ((w.length : Int) ≤ n) && w.all fun c => decide (c ∈ LET)) = true := by
  rw [decide_eq_true h, Bool.true_and, List.all_eq_true]
  exact fun c hc => decide_eq_true (hl c hc)
def needWordS : FSpec := fun y ds P _ => y = none ∧ ∃ (w : List Nat), ds = [.str w] ∧ w.length ≤ 200 ∧ Letters w ∧ P none .non
def isIntS : FSpec := fun y ds P _ => y = none ∧ ∃ i : Int, ds = [.int i] ∧ P none (.bl true)
def isInS : FSpec := fun y ds P _ => y = none ∧ ∃ i lo hi : Int, ds = [.int i, .int lo, .int hi] ∧ P none (.bl (decide (lo ≤ i) && decide (i ≤ hi)))
def MapOk (ws : List (List Nat)) : Prop := 1 ≤ ws.length ∧ ws.length ≤ 6 ∧ ∀ u ∈ ws, 1 ≤ u.length ∧ u.length ≤ 40 ∧ Letters u
def isMapS : FSpec := fun y ds P _ => y = none ∧ ∃ ws : List (List Nat), ds = [.tup (ws.map .str)] ∧ MapOk ws ∧ P none (.bl true)
def needMapS : FSpec := fun y ds P _ => y = none ∧ ∃ ws : List (List Nat), ds = [.tup (ws.map .str)] ∧ MapOk ws ∧ P none .non
def Inner (ws : List (List Nat)) (n : Nat) : Prop := ∀ u ∈ ws, ∀ c ∈ u, 97 ≤ c ∧ c < 97 + n
def needInnerS : FSpec := fun y ds P _ => y = none ∧ ∃ ws : List (List Nat), ds = [.tup (ws.map .str)] ∧ MapOk ws ∧ Inner ws ws.length ∧ P none .non
def Of (n : Nat) (w : List Nat) : Prop := ∀ c ∈ w, 97 ≤ c ∧ c < 97 + n
theorem Of.letters {n : Nat} {w : List Nat} (h : Of n w) (hn : n ≤ 26) : Letters w := fun c hc => mem_let.mpr ⟨(h c hc).1, by have := (h c hc).2; omega⟩
def needLettersS : FSpec := fun y ds P _ => y = none ∧ ∃ (ws : List (List Nat)) (w : List Nat), ds = [.tup (ws.map .str), .str w] ∧ ws.length ≤ 26 ∧ w.length ≤ 200 ∧ Of ws.length w ∧ P none .non
def imgW (ws : List (List Nat)) (w : List Nat) : List Nat := w.flatMap fun c => ws.getD (c - 97) []
def imageOfS : FSpec := fun y ds P _ => y = none ∧ ∃ (ws : List (List Nat)) (w : List Nat), ds = [.tup (ws.map .str), .str w] ∧ ws.length ≤ 26 ∧ w.length ≤ 100000 ∧ Of ws.length w ∧ (imgW ws w).length ≤ 100000 ∧ P none (.str (imgW ws w))
def lawImageS : FSpec := fun y ds P _ => y = none ∧ ∃ (ws : List (List Nat)) (w : List Nat), ds = [.tup (ws.map .str), .str w] ∧ ws.length ≤ 6 ∧ w.length ≤ 100000 ∧ Of ws.length w ∧ (imgW ws w).length ≤ 100000 ∧ P none (.str (imgW ws w))
def imageS : FSpec := fun y ds P _ => y = none ∧ ∃ (ws : List (List Nat)) (w : List Nat), ds = [.tup (ws.map .str), .str w] ∧ MapOk ws ∧ w.length ≤ 200 ∧ Of ws.length w ∧ (imgW ws w).length ≤ 100000 ∧ P none (.str (imgW ws w))
def composedS : FSpec := fun y ds P _ => y = none ∧ ∃ (ws vs : List (List Nat)), ds = [.tup (ws.map .str), .tup (vs.map .str)] ∧ MapOk ws ∧ MapOk vs ∧ Inner ws vs.length ∧ MapOk (ws.map (imgW vs)) ∧ P none (.tup ((ws.map (imgW vs)).map .str))
def itW (ws : List (List Nat)) : Nat → List Nat → List Nat
  | 0, w => w
  | n + 1, w => imgW ws (itW ws n w)
def iteratedS : FSpec := fun y ds P _ => y = none ∧ ∃ (ws : List (List Nat)) (w : List Nat) (t : Int), ds = [.tup (ws.map .str), .str w, .int t] ∧ MapOk ws ∧ Inner ws ws.length ∧ w.length ≤ 200 ∧ Of ws.length w ∧ 0 ≤ t ∧ t ≤ 40 ∧ (∀ i : Nat, i ≤ t.toNat → (itW ws i w).length ≤ 20000) ∧ P none (.str (itW ws t.toNat w))
theorem img_at {ws : List (List Nat)} {c : Nat} (h : 97 ≤ c ∧ c < 97 + ws.length) : atI (ws.map D.str) ((c - 97 : Nat) : Int) = some (.str (ws.getD (c - 97) [])) := by
  refine atI_get (j := c - 97) rfl ?_
  have hl : c - 97 < ws.length := by omega
  rw [List.getElem?_map, List.getElem?_eq_getElem hl, List.getD_eq_getElem?_getD, List.getElem?_eq_getElem hl]
  rfl
theorem img_of {ws : List (List Nat)} {w : List Nat} {m : Nat} (h : Of ws.length w) (hi : Inner ws m) : Of m (imgW ws w) := by
  intro c hc
  obtain ⟨b, hb, hc⟩ := List.mem_flatMap.mp hc
  have hl := h b hb
  have e : ws.getD (b - 97) [] ∈ ws := by
    rw [List.getD_eq_getElem?_getD, List.getElem?_eq_getElem (show b - 97 < ws.length by omega)]
    exact List.getElem_mem _
  exact hi _ e c hc

section
variable {P : Program} {w : World} {K : PySem.W.Frag} {mg : Str → Option Value} {base : Heap}
local macro_rules | `(tactic| exists "nm") => `(tactic| first
  | ((with_reducible refine isName "value" ?_); first | refine de_var 0 rfl ?_ | refine de_varF 0 rfl ?_)
  | ((with_reducible refine isNameH "value" ?_); refine dh_own 0 rfl ?_)
  | ((with_reducible refine isTg "value" ?_); refine dg_name 0 ?_)
  | ((with_reducible refine isSet "value" ?_); first | (refine ds_setL 0 ?_; (with_reducible refine df_lst ?_)) | refine ds_set 0 ?_)
  | ((with_reducible refine isAug "value" ?_); first | refine ds_aug 0 ip_add rfl ?_ | refine ds_aug 0 ip_sub rfl ?_)
  | ((with_reducible refine isPut "value" ?_); refine ds_put 0 ?_)
  | ((with_reducible refine isApp "value" ?_); refine ds_append 0 rfl ?_))
local macro_rules | `(tactic| exists "const") => `(tactic| first
  | refine de_gv (by assumption) ?_)
theorem sc_is_int : FnScope ["value"] ["value"] (defScope (topS 10)) := ⟨rfl, rfl, rfl, by decide +kernel, rfl, by decide +kernel, by decide +kernel⟩
theorem ok_is_int {f : Addr} {fd : FuncData} {k : Nat} (F : FunD K "is_int" "is_int" (defArgs (topS 10)) (defBody (topS 10)) (defScope (topS 10)) [] [] f fd) (b_isinstance : mg "isinstance" = none) (b_int : mg "int" = none) (b_bool : mg "bool" = none) :
    DFn P w K mg base (k + 1) f fd ["value"] isIntS := by
  refine dfn F sc_is_int ?_ ?_
  · rintro y ds P' PE ⟨rfl, i, rfl, _⟩
    rfl
  · rintro cdv A outer s H E hr y ds P' PE ⟨rfl, i, rfl, q⟩
    have nd := sc_is_int.nd
    show DSs _ _ [some (.sh (.int i))] _ _
    exists "dw"
    exact .inl ⟨rfl, q⟩
end

section
variable {P : Program} {w : World} {K : PySem.W.Frag} {mg : Str → Option Value} {base : Heap}
local macro_rules | `(tactic| exists "nm") => `(tactic| first
  | ((with_reducible refine isName "value" ?_); first | refine de_var 0 rfl ?_ | refine de_varF 0 rfl ?_)
  | ((with_reducible refine isNameH "value" ?_); refine dh_own 0 rfl ?_)
  | ((with_reducible refine isTg "value" ?_); refine dg_name 0 ?_)
  | ((with_reducible refine isSet "value" ?_); first | (refine ds_setL 0 ?_; (with_reducible refine df_lst ?_)) | refine ds_set 0 ?_)
  | ((with_reducible refine isAug "value" ?_); first | refine ds_aug 0 ip_add rfl ?_ | refine ds_aug 0 ip_sub rfl ?_)
  | ((with_reducible refine isPut "value" ?_); refine ds_put 0 ?_)
  | ((with_reducible refine isApp "value" ?_); refine ds_append 0 rfl ?_)
  | ((with_reducible refine isName "least" ?_); first | refine de_var 1 rfl ?_ | refine de_varF 1 rfl ?_)
  | ((with_reducible refine isNameH "least" ?_); refine dh_own 1 rfl ?_)
  | ((with_reducible refine isTg "least" ?_); refine dg_name 1 ?_)
  | ((with_reducible refine isSet "least" ?_); first | (refine ds_setL 1 ?_; (with_reducible refine df_lst ?_)) | refine ds_set 1 ?_)
  | ((with_reducible refine isAug "least" ?_); first | refine ds_aug 1 ip_add rfl ?_ | refine ds_aug 1 ip_sub rfl ?_)
  | ((with_reducible refine isPut "least" ?_); refine ds_put 1 ?_)
  | ((with_reducible refine isApp "least" ?_); refine ds_append 1 rfl ?_)
  | ((with_reducible refine isName "most" ?_); first | refine de_var 2 rfl ?_ | refine de_varF 2 rfl ?_)
  | ((with_reducible refine isNameH "most" ?_); refine dh_own 2 rfl ?_)
  | ((with_reducible refine isTg "most" ?_); refine dg_name 2 ?_)
  | ((with_reducible refine isSet "most" ?_); first | (refine ds_setL 2 ?_; (with_reducible refine df_lst ?_)) | refine ds_set 2 ?_)
  | ((with_reducible refine isAug "most" ?_); first | refine ds_aug 2 ip_add rfl ?_ | refine ds_aug 2 ip_sub rfl ?_)
  | ((with_reducible refine isPut "most" ?_); refine ds_put 2 ?_)
  | ((with_reducible refine isApp "most" ?_); refine ds_append 2 rfl ?_))
local macro_rules | `(tactic| exists "const") => `(tactic| first
  | refine de_gv (by assumption) ?_)
local macro_rules | `(tactic| exists "user") => `(tactic| first
  | refine de_cl (by assumption) (by assumption) ?_)
theorem sc_is_in : FnScope ["value", "least", "most"] ["value", "least", "most"] (defScope (topS 11)) := ⟨rfl, rfl, rfl, by decide +kernel, rfl, by decide +kernel, by decide +kernel⟩
theorem ok_is_in {f : Addr} {fd : FuncData} {k : Nat} (F : FunD K "is_in" "is_in" (defArgs (topS 11)) (defBody (topS 11)) (defScope (topS 11)) [] [] f fd) (C_is_int : Cl P w K mg base k "is_int" [] isIntS) :
    DFn P w K mg base (k + 1) f fd ["value", "least", "most"] isInS := by
  refine dfn F sc_is_in ?_ ?_
  · rintro y ds P' PE ⟨rfl, i, lo, hi, rfl, _⟩
    rfl
  · rintro cdv A outer s H E hr y ds P' PE ⟨rfl, i, lo, hi, rfl, q⟩
    have nd := sc_is_in.nd
    show DSs _ _ [some (.sh (.int i)), some (.sh (.int lo)), some (.sh (.int hi))] _ _
    exists "dw"
    refine ⟨rfl, i, rfl, ?_⟩
    exists "dw"
    refine ifb (fun c1 => ?_) (fun c1 => ?_)
    · exists "dw"
      exact .inl ⟨rfl, by rw [c1] at q; exact q⟩
    · exact .inl ⟨rfl, by rw [c1] at q; exact q⟩
end

section
variable {P : Program} {w : World} {K : PySem.W.Frag} {mg : Str → Option Value} {base : Heap}
local macro_rules | `(tactic| exists "nm") => `(tactic| first
  | ((with_reducible refine isName "value" ?_); first | refine de_var 0 rfl ?_ | refine de_varF 0 rfl ?_)
  | ((with_reducible refine isNameH "value" ?_); refine dh_own 0 rfl ?_)
  | ((with_reducible refine isTg "value" ?_); refine dg_name 0 ?_)
  | ((with_reducible refine isSet "value" ?_); first | (refine ds_setL 0 ?_; (with_reducible refine df_lst ?_)) | refine ds_set 0 ?_)
  | ((with_reducible refine isAug "value" ?_); first | refine ds_aug 0 ip_add rfl ?_ | refine ds_aug 0 ip_sub rfl ?_)
  | ((with_reducible refine isPut "value" ?_); refine ds_put 0 ?_)
  | ((with_reducible refine isApp "value" ?_); refine ds_append 0 rfl ?_)
  | ((with_reducible refine isName "most" ?_); first | refine de_var 1 rfl ?_ | refine de_varF 1 rfl ?_)
  | ((with_reducible refine isNameH "most" ?_); refine dh_own 1 rfl ?_)
  | ((with_reducible refine isTg "most" ?_); refine dg_name 1 ?_)
  | ((with_reducible refine isSet "most" ?_); first | (refine ds_setL 1 ?_; (with_reducible refine df_lst ?_)) | refine ds_set 1 ?_)
  | ((with_reducible refine isAug "most" ?_); first | refine ds_aug 1 ip_add rfl ?_ | refine ds_aug 1 ip_sub rfl ?_)
  | ((with_reducible refine isPut "most" ?_); refine ds_put 1 ?_)
  | ((with_reducible refine isApp "most" ?_); refine ds_append 1 rfl ?_)
  | ((with_reducible refine isName "sign" ?_); first | refine de_var 2 rfl ?_ | refine de_varF 2 rfl ?_)
  | ((with_reducible refine isNameH "sign" ?_); refine dh_own 2 rfl ?_)
  | ((with_reducible refine isTg "sign" ?_); refine dg_name 2 ?_)
  | ((with_reducible refine isSet "sign" ?_); first | (refine ds_setL 2 ?_; (with_reducible refine df_lst ?_)) | refine ds_set 2 ?_)
  | ((with_reducible refine isAug "sign" ?_); first | refine ds_aug 2 ip_add rfl ?_ | refine ds_aug 2 ip_sub rfl ?_)
  | ((with_reducible refine isPut "sign" ?_); refine ds_put 2 ?_)
  | ((with_reducible refine isApp "sign" ?_); refine ds_append 2 rfl ?_))
local macro_rules | `(tactic| exists "lc") => `(tactic| first
  | refine de_df (df_lc [("sign", 2)] ?_ (blkOk_by (N := ["value", "most", "sign"]) (sc := defScope (topS 12)) (by decide +kernel))))
local macro_rules | `(tactic| exists "const") => `(tactic| first
  | refine de_gv (by assumption) ?_)
theorem sc_is_word : FnScope ["value", "most", "sign"] ["value", "most"] (defScope (topS 12)) := ⟨rfl, rfl, rfl, by decide +kernel, rfl, by decide +kernel, by decide +kernel⟩
theorem ok_is_word {f : Addr} {fd : FuncData} {k : Nat} (F : FunD K "is_word" "is_word" (defArgs (topS 12)) (defBody (topS 12)) (defScope (topS 12)) [.int 200] [] f fd) (b_isinstance : mg "isinstance" = none) (b_str : mg "str" = none) (b_len : mg "len" = none) (b_all : mg "all" = none) (g_LETTERS : GV K mg "LETTERS" (.str LET)) :
    DFn P w K mg base (k + 1) f fd ["value", "most"] isWordS := by
  refine dfn F sc_is_word ?_ ?_
  · rintro y ds P' PE ⟨rfl, w, n, rfl, _⟩
    rfl
  · rintro cdv A outer s H E hr y ds P' PE ⟨rfl, w, n, rfl, hw, q⟩
    have nd := sc_is_word.nd
    show DSs _ _ [some (.sh (.str w)), some (.sh (.int n)), none] _ _
    exists "dw"
    refine ifb (fun c1 => ?_) (fun c1 => ?_)
    · exists "dw"
      refine di_str ?_
      exists "dw"
      refine comp_map (ys := w) (g := fun c => .str [c]) (fun c => .bl (decide (c ∈ LET))) hw ?_ ?_
      · intro c hc b
        exists "dw"
        intro b2
        exists "dw"
      · exists "dw"
        refine ck_allM (f := fun c => decide (c ∈ LET)) ?_
        exact .inl ⟨rfl, by rw [c1] at q; exact q⟩
    · exact .inl ⟨rfl, by rw [c1] at q; exact q⟩
end

section
variable {P : Program} {w : World} {K : PySem.W.Frag} {mg : Str → Option Value} {base : Heap}
local macro_rules | `(tactic| exists "nm") => `(tactic| first
  | ((with_reducible refine isName "value" ?_); first | refine de_var 0 rfl ?_ | refine de_varF 0 rfl ?_)
  | ((with_reducible refine isNameH "value" ?_); refine dh_own 0 rfl ?_)
  | ((with_reducible refine isTg "value" ?_); refine dg_name 0 ?_)
  | ((with_reducible refine isSet "value" ?_); first | (refine ds_setL 0 ?_; (with_reducible refine df_lst ?_)) | refine ds_set 0 ?_)
  | ((with_reducible refine isAug "value" ?_); first | refine ds_aug 0 ip_add rfl ?_ | refine ds_aug 0 ip_sub rfl ?_)
  | ((with_reducible refine isPut "value" ?_); refine ds_put 0 ?_)
  | ((with_reducible refine isApp "value" ?_); refine ds_append 0 rfl ?_))
local macro_rules | `(tactic| exists "const") => `(tactic| first
  | refine de_gv (by assumption) ?_)
local macro_rules | `(tactic| exists "user") => `(tactic| first
  | refine de_cl (by assumption) (by assumption) ?_)
theorem sc_need_word : FnScope ["value"] ["value"] (defScope (topS 13)) := ⟨rfl, rfl, rfl, by decide +kernel, rfl, by decide +kernel, by decide +kernel⟩
theorem ok_need_word {f : Addr} {fd : FuncData} {k : Nat} (F : FunD K "need_word" "need_word" (defArgs (topS 13)) (defBody (topS 13)) (defScope (topS 13)) [] [] f fd) (C_is_word : Cl P w K mg base k "is_word" [.int 200] isWordS) :
    DFn P w K mg base (k + 1) f fd ["value"] needWordS := by
  refine dfn F sc_need_word ?_ ?_
  · rintro y ds P' PE ⟨rfl, w, rfl, _⟩
    rfl
  · rintro cdv A outer s H E hr y ds P' PE ⟨rfl, w, rfl, hw, hl, q⟩
    have nd := sc_need_word.nd
    show DSs _ _ [some (.sh (.str w))] _ _
    exists "dw"
    refine ⟨rfl, w, 200, rfl, by omega, ?_⟩
    rw [word_yes (by omega) hl]
    exists "dw"
    exact .inl ⟨rfl, q⟩
end

section
variable {P : Program} {w : World} {K : PySem.W.Frag} {mg : Str → Option Value} {base : Heap}
local macro_rules | `(tactic| exists "nm") => `(tactic| first
  | ((with_reducible refine isName "value" ?_); first | refine de_var 0 rfl ?_ | refine de_varF 0 rfl ?_)
  | ((with_reducible refine isNameH "value" ?_); refine dh_own 0 rfl ?_)
  | ((with_reducible refine isTg "value" ?_); refine dg_name 0 ?_)
  | ((with_reducible refine isSet "value" ?_); first | (refine ds_setL 0 ?_; (with_reducible refine df_lst ?_)) | refine ds_set 0 ?_)
  | ((with_reducible refine isAug "value" ?_); first | refine ds_aug 0 ip_add rfl ?_ | refine ds_aug 0 ip_sub rfl ?_)
  | ((with_reducible refine isPut "value" ?_); refine ds_put 0 ?_)
  | ((with_reducible refine isApp "value" ?_); refine ds_append 0 rfl ?_)
  | ((with_reducible refine isName "one" ?_); first | refine de_var 1 rfl ?_ | refine de_varF 1 rfl ?_)
  | ((with_reducible refine isNameH "one" ?_); refine dh_own 1 rfl ?_)
  | ((with_reducible refine isTg "one" ?_); refine dg_name 1 ?_)
  | ((with_reducible refine isSet "one" ?_); first | (refine ds_setL 1 ?_; (with_reducible refine df_lst ?_)) | refine ds_set 1 ?_)
  | ((with_reducible refine isAug "one" ?_); first | refine ds_aug 1 ip_add rfl ?_ | refine ds_aug 1 ip_sub rfl ?_)
  | ((with_reducible refine isPut "one" ?_); refine ds_put 1 ?_)
  | ((with_reducible refine isApp "one" ?_); refine ds_append 1 rfl ?_))
local macro_rules | `(tactic| exists "lc") => `(tactic| first
  | refine de_df (df_lc [("one", 1)] ?_ (blkOk_by (N := ["value", "one"]) (sc := defScope (topS 18)) (by decide +kernel))))
local macro_rules | `(tactic| exists "const") => `(tactic| first
  | ((with_reducible refine isStr "" ?_); refine de_str [] rfl ?_)
  | refine de_gv (by assumption) ?_)
local macro_rules | `(tactic| exists "user") => `(tactic| first
  | refine de_cl (by assumption) (by assumption) ?_)
theorem sc_is_map : FnScope ["value", "one"] ["value"] (defScope (topS 18)) := ⟨rfl, rfl, rfl, by decide +kernel, rfl, by decide +kernel, by decide +kernel⟩
theorem ok_is_map {f : Addr} {fd : FuncData} {k : Nat} (F : FunD K "is_map" "is_map" (defArgs (topS 18)) (defBody (topS 18)) (defScope (topS 18)) [] [] f fd) (b_isinstance : mg "isinstance" = none) (b_tuple : mg "tuple" = none) (b_len : mg "len" = none) (b_all : mg "all" = none) (g_MOST_SIZE : GV K mg "MOST_SIZE" (.int 6)) (g_MOST_IMAGE : GV K mg "MOST_IMAGE" (.int 40)) (C_is_word : Cl P w K mg base k "is_word" [] isWordS) :
    DFn P w K mg base (k + 1) f fd ["value"] isMapS := by
  refine dfn F sc_is_map ?_ ?_
  · rintro y ds P' PE ⟨rfl, ws, rfl, _⟩
    rfl
  · rintro cdv A outer s H E hr y ds P' PE ⟨rfl, ws, rfl, hm, q⟩
    have nd := sc_is_map.nd
    obtain ⟨m1, m2, m3⟩ := hm
    show DSs _ _ [some (.sh (.tup (ws.map .str))), none] _ _
    exists "dw"
    rw [List.length_map]
    rw [decide_eq_true (show (1 : Int) ≤ ws.length by omega)]
    exists "dw"
    rw [decide_eq_true (show (ws.length : Int) ≤ 6 by omega)]
    exists "dw"
    refine di_tup ?_
    exists "dw"
    refine comp_map (ys := ws) (g := D.str) (fun u => .bl (!decide (u = []))) (by omega) ?_ ?_
    · intro u hu b
      obtain ⟨u1, u2, u3⟩ := m3 u hu
      exists "dw"
      intro b2
      exists "dw"
      refine ⟨rfl, u, 40, rfl, by omega, ?_⟩
      rw [word_yes (by omega) u3]
      exists "dw"
    · exists "dw"
      refine ck_allM (f := fun u => !decide (u = [])) ?_
      rw [show (ws.all fun u => !decide (u = [])) = true from List.all_eq_true.mpr fun u hu => by
        have := (m3 u hu).1
        cases u with
        | nil => cases this
        | cons a r => rfl]
      exact .inl ⟨rfl, q⟩
end

section
variable {P : Program} {w : World} {K : PySem.W.Frag} {mg : Str → Option Value} {base : Heap}
local macro_rules | `(tactic| exists "nm") => `(tactic| first
  | ((with_reducible refine isName "value" ?_); first | refine de_var 0 rfl ?_ | refine de_varF 0 rfl ?_)
  | ((with_reducible refine isNameH "value" ?_); refine dh_own 0 rfl ?_)
  | ((with_reducible refine isTg "value" ?_); refine dg_name 0 ?_)
  | ((with_reducible refine isSet "value" ?_); first | (refine ds_setL 0 ?_; (with_reducible refine df_lst ?_)) | refine ds_set 0 ?_)
  | ((with_reducible refine isAug "value" ?_); first | refine ds_aug 0 ip_add rfl ?_ | refine ds_aug 0 ip_sub rfl ?_)
  | ((with_reducible refine isPut "value" ?_); refine ds_put 0 ?_)
  | ((with_reducible refine isApp "value" ?_); refine ds_append 0 rfl ?_))
local macro_rules | `(tactic| exists "const") => `(tactic| first
  | refine de_gv (by assumption) ?_)
local macro_rules | `(tactic| exists "user") => `(tactic| first
  | refine de_cl (by assumption) (by assumption) ?_)
theorem sc_need_map : FnScope ["value"] ["value"] (defScope (topS 19)) := ⟨rfl, rfl, rfl, by decide +kernel, rfl, by decide +kernel, by decide +kernel⟩
theorem ok_need_map {f : Addr} {fd : FuncData} {k : Nat} (F : FunD K "need_map" "need_map" (defArgs (topS 19)) (defBody (topS 19)) (defScope (topS 19)) [] [] f fd) (C_is_map : Cl P w K mg base k "is_map" [] isMapS) :
    DFn P w K mg base (k + 1) f fd ["value"] needMapS := by
  refine dfn F sc_need_map ?_ ?_
  · rintro y ds P' PE ⟨rfl, ws, rfl, _⟩
    rfl
  · rintro cdv A outer s H E hr y ds P' PE ⟨rfl, ws, rfl, hm, q⟩
    have nd := sc_need_map.nd
    show DSs _ _ [some (.sh (.tup (ws.map .str)))] _ _
    exists "dw"
    refine ⟨rfl, ws, rfl, hm, ?_⟩
    exists "dw"
    exact .inl ⟨rfl, q⟩
end

section
variable {P : Program} {w : World} {K : PySem.W.Frag} {mg : Str → Option Value} {base : Heap}
local macro_rules | `(tactic| exists "nm") => `(tactic| first
  | ((with_reducible refine isName "value" ?_); first | refine de_var 0 rfl ?_ | refine de_varF 0 rfl ?_)
  | ((with_reducible refine isNameH "value" ?_); refine dh_own 0 rfl ?_)
  | ((with_reducible refine isTg "value" ?_); refine dg_name 0 ?_)
  | ((with_reducible refine isSet "value" ?_); first | (refine ds_setL 0 ?_; (with_reducible refine df_lst ?_)) | refine ds_set 0 ?_)
  | ((with_reducible refine isAug "value" ?_); first | refine ds_aug 0 ip_add rfl ?_ | refine ds_aug 0 ip_sub rfl ?_)
  | ((with_reducible refine isPut "value" ?_); refine ds_put 0 ?_)
  | ((with_reducible refine isApp "value" ?_); refine ds_append 0 rfl ?_)
  | ((with_reducible refine isName "one" ?_); first | refine de_var 1 rfl ?_ | refine de_varF 1 rfl ?_)
  | ((with_reducible refine isNameH "one" ?_); refine dh_own 1 rfl ?_)
  | ((with_reducible refine isTg "one" ?_); refine dg_name 1 ?_)
  | ((with_reducible refine isSet "one" ?_); first | (refine ds_setL 1 ?_; (with_reducible refine df_lst ?_)) | refine ds_set 1 ?_)
  | ((with_reducible refine isAug "one" ?_); first | refine ds_aug 1 ip_add rfl ?_ | refine ds_aug 1 ip_sub rfl ?_)
  | ((with_reducible refine isPut "one" ?_); refine ds_put 1 ?_)
  | ((with_reducible refine isApp "one" ?_); refine ds_append 1 rfl ?_)
  | ((with_reducible refine isName "sign" ?_); first | refine de_var 2 rfl ?_ | refine de_varF 2 rfl ?_)
  | ((with_reducible refine isNameH "sign" ?_); refine dh_own 2 rfl ?_)
  | ((with_reducible refine isTg "sign" ?_); refine dg_name 2 ?_)
  | ((with_reducible refine isSet "sign" ?_); first | (refine ds_setL 2 ?_; (with_reducible refine df_lst ?_)) | refine ds_set 2 ?_)
  | ((with_reducible refine isAug "sign" ?_); first | refine ds_aug 2 ip_add rfl ?_ | refine ds_aug 2 ip_sub rfl ?_)
  | ((with_reducible refine isPut "sign" ?_); refine ds_put 2 ?_)
  | ((with_reducible refine isApp "sign" ?_); refine ds_append 2 rfl ?_))
local macro_rules | `(tactic| exists "lc") => `(tactic| first
  | refine de_df (df_lc2 [("one", 1), ("sign", 2)] [2] ?_ (blkOk_by (N := ["value", "one", "sign"]) (sc := defScope (topS 20)) (by decide +kernel))))
local macro_rules | `(tactic| exists "const") => `(tactic| first
  | refine de_gv (by assumption) ?_)
local macro_rules | `(tactic| exists "user") => `(tactic| first
  | refine de_cl (by assumption) (by assumption) ?_)
theorem sc_need_inner : FnScope ["value", "one", "sign"] ["value"] (defScope (topS 20)) := ⟨rfl, rfl, rfl, by decide +kernel, rfl, by decide +kernel, by decide +kernel⟩
theorem inner_sum {ws : List (List Nat)} (h : ∀ u ∈ ws, u.length ≤ 40) (hl : ws.length ≤ 6) : (ws.map fun u => u.length).sum ≤ 100000 := by
  have : (ws.map fun u => u.length).sum ≤ ws.length * 40 := by
    clear hl
    induction ws with
    | nil => exact Nat.zero_le _
    | cons u ws ih =>
      rw [List.map_cons, List.sum_cons, List.length_cons]
      have h1 := h u List.mem_cons_self
      have h2 := ih fun v hv => h v (List.mem_cons_of_mem _ hv)
      omega
  omega
theorem flat_all {ws : List (List Nat)} {L : List Nat} (h : ∀ u ∈ ws, ∀ c ∈ u, c ∈ L) : (ws.flatMap fun u => u.map fun c => D.bl (!decide (c ∈ L))) = ws.flatten.map fun _ => D.bl false := by
  induction ws with
  | nil => rfl
  | cons u ws ih =>
    rw [List.flatMap_cons, ih fun v hv => h v (List.mem_cons_of_mem _ hv), List.flatten_cons, List.map_append]
    congr 1
    refine List.map_congr_left fun c hc => ?_
    rw [decide_eq_true (h u List.mem_cons_self c hc)]
    rfl
theorem any_false {α : Type} (xs : List α) : (xs.any fun _ => false) = false := by
  induction xs with
  | nil => rfl
  | cons x xs ih => rw [List.any_cons, ih]; rfl
theorem ok_need_inner {f : Addr} {fd : FuncData} {k : Nat} (F : FunD K "need_inner" "need_inner" (defArgs (topS 20)) (defBody (topS 20)) (defScope (topS 20)) [] [] f fd) (b_any : mg "any" = none) (b_len : mg "len" = none) (g_LETTERS : GV K mg "LETTERS" (.str LET)) (C_need_map : Cl P w K mg base k "need_map" [] needMapS) :
    DFn P w K mg base (k + 1) f fd ["value"] needInnerS := by
  refine dfn F sc_need_inner ?_ ?_
  · rintro y ds P' PE ⟨rfl, ws, rfl, _⟩
    rfl
  · rintro cdv A outer s H E hr y ds P' PE ⟨rfl, ws, rfl, hm, hi, q⟩
    have nd := sc_need_inner.nd
    obtain ⟨m1, m2, m3⟩ := hm
    show DSs _ _ [some (.sh (.tup (ws.map .str))), none, none] _ _
    exists "dw"
    refine ⟨rfl, ws, rfl, ⟨m1, m2, m3⟩, ?_⟩
    exists "dw"
    refine di_tup ?_
    exists "dw"
    refine comp_map2 (ys := ws) (g := D.str) (fun u => u) (fun c => D.str [c]) (fun _ c => .bl (!decide (c ∈ LET.take ws.length))) (by decide) (inner_sum (fun u hu => (m3 u hu).2.1) m2) ?_ ?_
    · intro u hu b
      exists "dw"
      intro b2
      refine di_str ?_
      exists "dw"
      intro c hc b3
      exists "dw"
      intro b4
      exists "dw"
      rw [List.length_map, cutL_to ws.length rfl]
      exists "dw"
    · rw [flat_all fun u hu c hc => (let_take ws.length (by omega)).mpr (hi u hu c hc)]
      exists "dw"
      refine ck_anyM (f := fun _ => false) ?_
      rw [any_false]
      exists "dw"
      exact .inl ⟨rfl, q⟩
end

section
variable {P : Program} {w : World} {K : PySem.W.Frag} {mg : Str → Option Value} {base : Heap}
local macro_rules | `(tactic| exists "nm") => `(tactic| first
  | ((with_reducible refine isName "told" ?_); first | refine de_var 0 rfl ?_ | refine de_varF 0 rfl ?_)
  | ((with_reducible refine isNameH "told" ?_); refine dh_own 0 rfl ?_)
  | ((with_reducible refine isTg "told" ?_); refine dg_name 0 ?_)
  | ((with_reducible refine isSet "told" ?_); first | (refine ds_setL 0 ?_; (with_reducible refine df_lst ?_)) | refine ds_set 0 ?_)
  | ((with_reducible refine isAug "told" ?_); first | refine ds_aug 0 ip_add rfl ?_ | refine ds_aug 0 ip_sub rfl ?_)
  | ((with_reducible refine isPut "told" ?_); refine ds_put 0 ?_)
  | ((with_reducible refine isApp "told" ?_); refine ds_append 0 rfl ?_)
  | ((with_reducible refine isName "word" ?_); first | refine de_var 1 rfl ?_ | refine de_varF 1 rfl ?_)
  | ((with_reducible refine isNameH "word" ?_); refine dh_own 1 rfl ?_)
  | ((with_reducible refine isTg "word" ?_); refine dg_name 1 ?_)
  | ((with_reducible refine isSet "word" ?_); first | (refine ds_setL 1 ?_; (with_reducible refine df_lst ?_)) | refine ds_set 1 ?_)
  | ((with_reducible refine isAug "word" ?_); first | refine ds_aug 1 ip_add rfl ?_ | refine ds_aug 1 ip_sub rfl ?_)
  | ((with_reducible refine isPut "word" ?_); refine ds_put 1 ?_)
  | ((with_reducible refine isApp "word" ?_); refine ds_append 1 rfl ?_)
  | ((with_reducible refine isName "sign" ?_); first | refine de_var 2 rfl ?_ | refine de_varF 2 rfl ?_)
  | ((with_reducible refine isNameH "sign" ?_); refine dh_own 2 rfl ?_)
  | ((with_reducible refine isTg "sign" ?_); refine dg_name 2 ?_)
  | ((with_reducible refine isSet "sign" ?_); first | (refine ds_setL 2 ?_; (with_reducible refine df_lst ?_)) | refine ds_set 2 ?_)
  | ((with_reducible refine isAug "sign" ?_); first | refine ds_aug 2 ip_add rfl ?_ | refine ds_aug 2 ip_sub rfl ?_)
  | ((with_reducible refine isPut "sign" ?_); refine ds_put 2 ?_)
  | ((with_reducible refine isApp "sign" ?_); refine ds_append 2 rfl ?_))
local macro_rules | `(tactic| exists "lc") => `(tactic| first
  | refine de_df (df_lc [("sign", 2)] ?_ (blkOk_by (N := ["told", "word", "sign"]) (sc := defScope (topS 21)) (by decide +kernel))))
local macro_rules | `(tactic| exists "const") => `(tactic| first
  | refine de_gv (by assumption) ?_)
local macro_rules | `(tactic| exists "user") => `(tactic| first
  | refine de_cl (by assumption) (by assumption) ?_)
theorem sc_need_letters : FnScope ["told", "word", "sign"] ["told", "word"] (defScope (topS 21)) := ⟨rfl, rfl, rfl, by decide +kernel, rfl, by decide +kernel, by decide +kernel⟩
theorem ok_need_letters {f : Addr} {fd : FuncData} {k : Nat} (F : FunD K "need_letters" "need_letters" (defArgs (topS 21)) (defBody (topS 21)) (defScope (topS 21)) [] [] f fd) (b_any : mg "any" = none) (b_len : mg "len" = none) (g_LETTERS : GV K mg "LETTERS" (.str LET)) (C_need_word : Cl P w K mg base k "need_word" [] needWordS) :
    DFn P w K mg base (k + 1) f fd ["told", "word"] needLettersS := by
  refine dfn F sc_need_letters ?_ ?_
  · rintro y ds P' PE ⟨rfl, ws, w, rfl, _⟩
    rfl
  · rintro cdv A outer s H E hr y ds P' PE ⟨rfl, ws, w, rfl, h1, h2, h3, q⟩
    have nd := sc_need_letters.nd
    show DSs _ _ [some (.sh (.tup (ws.map .str))), some (.sh (.str w)), none] _ _
    exists "dw"
    refine ⟨rfl, w, rfl, h2, h3.letters h1, ?_⟩
    exists "dw"
    refine di_str ?_
    exists "dw"
    refine comp_map (ys := w) (g := fun c => D.str [c]) (fun c => .bl (!decide (c ∈ LET.take ws.length))) (by omega) ?_ ?_
    · intro c hc b
      exists "dw"
      intro b2
      exists "dw"
      rw [List.length_map, cutL_to ws.length rfl]
      exists "dw"
    · exists "dw"
      refine ck_anyM (f := fun c => !decide (c ∈ LET.take ws.length)) ?_
      rw [show (w.any fun c => !decide (c ∈ LET.take ws.length)) = false from List.any_eq_false.mpr fun c hc => by rw [decide_eq_true ((let_take ws.length h1).mpr (h3 c hc))]; decide]
      exists "dw"
      exact .inl ⟨rfl, q⟩
end

section
variable {P : Program} {w : World} {K : PySem.W.Frag} {mg : Str → Option Value} {base : Heap}
local macro_rules | `(tactic| exists "nm") => `(tactic| first
  | ((with_reducible refine isName "told" ?_); first | refine de_var 0 rfl ?_ | refine de_varF 0 rfl ?_)
  | ((with_reducible refine isNameH "told" ?_); refine dh_own 0 rfl ?_)
  | ((with_reducible refine isTg "told" ?_); refine dg_name 0 ?_)
  | ((with_reducible refine isSet "told" ?_); first | (refine ds_setL 0 ?_; (with_reducible refine df_lst ?_)) | refine ds_set 0 ?_)
  | ((with_reducible refine isAug "told" ?_); first | refine ds_aug 0 ip_add rfl ?_ | refine ds_aug 0 ip_sub rfl ?_)
  | ((with_reducible refine isPut "told" ?_); refine ds_put 0 ?_)
  | ((with_reducible refine isApp "told" ?_); refine ds_append 0 rfl ?_)
  | ((with_reducible refine isName "word" ?_); first | refine de_var 1 rfl ?_ | refine de_varF 1 rfl ?_)
  | ((with_reducible refine isNameH "word" ?_); refine dh_own 1 rfl ?_)
  | ((with_reducible refine isTg "word" ?_); refine dg_name 1 ?_)
  | ((with_reducible refine isSet "word" ?_); first | (refine ds_setL 1 ?_; (with_reducible refine df_lst ?_)) | refine ds_set 1 ?_)
  | ((with_reducible refine isAug "word" ?_); first | refine ds_aug 1 ip_add rfl ?_ | refine ds_aug 1 ip_sub rfl ?_)
  | ((with_reducible refine isPut "word" ?_); refine ds_put 1 ?_)
  | ((with_reducible refine isApp "word" ?_); refine ds_append 1 rfl ?_)
  | ((with_reducible refine isName "sign" ?_); first | refine de_var 2 rfl ?_ | refine de_varF 2 rfl ?_)
  | ((with_reducible refine isNameH "sign" ?_); refine dh_own 2 rfl ?_)
  | ((with_reducible refine isTg "sign" ?_); refine dg_name 2 ?_)
  | ((with_reducible refine isSet "sign" ?_); first | (refine ds_setL 2 ?_; (with_reducible refine df_lst ?_)) | refine ds_set 2 ?_)
  | ((with_reducible refine isAug "sign" ?_); first | refine ds_aug 2 ip_add rfl ?_ | refine ds_aug 2 ip_sub rfl ?_)
  | ((with_reducible refine isPut "sign" ?_); refine ds_put 2 ?_)
  | ((with_reducible refine isApp "sign" ?_); refine ds_append 2 rfl ?_))
local macro_rules | `(tactic| exists "lc") => `(tactic| first
  | refine de_df (df_lc [("sign", 2)] ?_ (blkOk_by (N := ["told", "word", "sign"]) (sc := defScope (topS 22)) (by decide +kernel))))
local macro_rules | `(tactic| exists "const") => `(tactic| first
  | ((with_reducible refine isStr "" ?_); refine de_str [] rfl ?_)
  | ((with_reducible refine isStr "abcdef" ?_); refine de_str LET6 rfl ?_)
  | refine de_gv (by assumption) ?_)
local macro_rules | `(tactic| exists "user") => `(tactic| first
  | refine de_cl (by assumption) (by assumption) ?_)
theorem sc_image_of : FnScope ["told", "word", "sign"] ["told", "word"] (defScope (topS 22)) := ⟨rfl, rfl, rfl, by decide +kernel, rfl, by decide +kernel, by decide +kernel⟩
theorem ok_image_of {f : Addr} {fd : FuncData} {k : Nat} (F : FunD K "image_of" "image_of" (defArgs (topS 22)) (defBody (topS 22)) (defScope (topS 22)) [] [] f fd) (g_LETTERS : GV K mg "LETTERS" (.str LET)) :
    DFn P w K mg base (k + 1) f fd ["told", "word"] imageOfS := by
  refine dfn F sc_image_of ?_ ?_
  · rintro y ds P' PE ⟨rfl, ws, w, rfl, _⟩
    rfl
  · rintro cdv A outer s H E hr y ds P' PE ⟨rfl, ws, w, rfl, h1, h2, h3, h4, q⟩
    have nd := sc_image_of.nd
    show DSs _ _ [some (.sh (.tup (ws.map .str))), some (.sh (.str w)), none] _ _
    exists "dw"
    refine di_str ?_
    exists "dw"
    refine comp_map (ys := w) (g := fun c => D.str [c]) (fun c => .str (ws.getD (c - 97) [])) h2 ?_ ?_
    · intro c hc b
      have hc1 := h3 c hc
      have hc2 := img_at hc1
      exists "dw"
      intro b2
      exists "dw"
      refine ck_index_let hc1.1 (by omega) ?_
      exists "dw"
    · exists "dw"
      refine ck_joinM (f := fun c => ws.getD (c - 97) []) ?_ ?_
      · rw [← List.length_flatMap]; exact h4
      · exact .inl ⟨rfl, q⟩
end

section
variable {P : Program} {w : World} {K : PySem.W.Frag} {mg : Str → Option Value} {base : Heap}
local macro_rules | `(tactic| exists "nm") => `(tactic| first
  | ((with_reducible refine isName "told" ?_); first | refine de_var 0 rfl ?_ | refine de_varF 0 rfl ?_)
  | ((with_reducible refine isNameH "told" ?_); refine dh_own 0 rfl ?_)
  | ((with_reducible refine isTg "told" ?_); refine dg_name 0 ?_)
  | ((with_reducible refine isSet "told" ?_); first | (refine ds_setL 0 ?_; (with_reducible refine df_lst ?_)) | refine ds_set 0 ?_)
  | ((with_reducible refine isAug "told" ?_); first | refine ds_aug 0 ip_add rfl ?_ | refine ds_aug 0 ip_sub rfl ?_)
  | ((with_reducible refine isPut "told" ?_); refine ds_put 0 ?_)
  | ((with_reducible refine isApp "told" ?_); refine ds_append 0 rfl ?_)
  | ((with_reducible refine isName "word" ?_); first | refine de_var 1 rfl ?_ | refine de_varF 1 rfl ?_)
  | ((with_reducible refine isNameH "word" ?_); refine dh_own 1 rfl ?_)
  | ((with_reducible refine isTg "word" ?_); refine dg_name 1 ?_)
  | ((with_reducible refine isSet "word" ?_); first | (refine ds_setL 1 ?_; (with_reducible refine df_lst ?_)) | refine ds_set 1 ?_)
  | ((with_reducible refine isAug "word" ?_); first | refine ds_aug 1 ip_add rfl ?_ | refine ds_aug 1 ip_sub rfl ?_)
  | ((with_reducible refine isPut "word" ?_); refine ds_put 1 ?_)
  | ((with_reducible refine isApp "word" ?_); refine ds_append 1 rfl ?_))
local macro_rules | `(tactic| exists "const") => `(tactic| first
  | refine de_gv (by assumption) ?_)
local macro_rules | `(tactic| exists "user") => `(tactic| first
  | refine de_cl (by assumption) (by assumption) ?_)
theorem sc_image : FnScope ["told", "word"] ["told", "word"] (defScope (topS 23)) := ⟨rfl, rfl, rfl, by decide +kernel, rfl, by decide +kernel, by decide +kernel⟩
theorem ok_image {f : Addr} {fd : FuncData} {k : Nat} (F : FunD K "image" "image" (defArgs (topS 23)) (defBody (topS 23)) (defScope (topS 23)) [] [] f fd) (C_need_map : Cl P w K mg base k "need_map" [] needMapS) (C_need_letters : Cl P w K mg base k "need_letters" [] needLettersS) (C_image_of : Cl P w K mg base k "image_of" [] imageOfS) :
    DFn P w K mg base (k + 1) f fd ["told", "word"] imageS := by
  refine dfn F sc_image ?_ ?_
  · rintro y ds P' PE ⟨rfl, ws, w, rfl, _⟩
    rfl
  · rintro cdv A outer s H E hr y ds P' PE ⟨rfl, ws, w, rfl, h1, h2, h3, h4, q⟩
    have nd := sc_image.nd
    show DSs _ _ [some (.sh (.tup (ws.map .str))), some (.sh (.str w))] _ _
    have h5 := h1.2.1
    exists "dw"
    refine ⟨rfl, ws, rfl, h1, ?_⟩
    exists "dw"
    refine ⟨rfl, ws, w, rfl, by omega, h2, h3, ?_⟩
    exists "dw"
    refine ⟨rfl, ws, w, rfl, by omega, by omega, h3, h4, ?_⟩
    exact .inl ⟨rfl, q⟩
end

section
variable {P : Program} {w : World} {K : PySem.W.Frag} {mg : Str → Option Value} {base : Heap}
local macro_rules | `(tactic| exists "nm") => `(tactic| first
  | ((with_reducible refine isName "one" ?_); first | refine de_var 0 rfl ?_ | refine de_varF 0 rfl ?_)
  | ((with_reducible refine isNameH "one" ?_); refine dh_own 0 rfl ?_)
  | ((with_reducible refine isTg "one" ?_); refine dg_name 0 ?_)
  | ((with_reducible refine isSet "one" ?_); first | (refine ds_setL 0 ?_; (with_reducible refine df_lst ?_)) | refine ds_set 0 ?_)
  | ((with_reducible refine isAug "one" ?_); first | refine ds_aug 0 ip_add rfl ?_ | refine ds_aug 0 ip_sub rfl ?_)
  | ((with_reducible refine isPut "one" ?_); refine ds_put 0 ?_)
  | ((with_reducible refine isApp "one" ?_); refine ds_append 0 rfl ?_)
  | ((with_reducible refine isName "other" ?_); first | refine de_var 1 rfl ?_ | refine de_varF 1 rfl ?_)
  | ((with_reducible refine isNameH "other" ?_); refine dh_own 1 rfl ?_)
  | ((with_reducible refine isTg "other" ?_); refine dg_name 1 ?_)
  | ((with_reducible refine isSet "other" ?_); first | (refine ds_setL 1 ?_; (with_reducible refine df_lst ?_)) | refine ds_set 1 ?_)
  | ((with_reducible refine isAug "other" ?_); first | refine ds_aug 1 ip_add rfl ?_ | refine ds_aug 1 ip_sub rfl ?_)
  | ((with_reducible refine isPut "other" ?_); refine ds_put 1 ?_)
  | ((with_reducible refine isApp "other" ?_); refine ds_append 1 rfl ?_)
  | ((with_reducible refine isName "found" ?_); first | refine de_var 2 rfl ?_ | refine de_varF 2 rfl ?_)
  | ((with_reducible refine isNameH "found" ?_); refine dh_own 2 rfl ?_)
  | ((with_reducible refine isTg "found" ?_); refine dg_name 2 ?_)
  | ((with_reducible refine isSet "found" ?_); first | (refine ds_setL 2 ?_; (with_reducible refine df_lst ?_)) | refine ds_set 2 ?_)
  | ((with_reducible refine isAug "found" ?_); first | refine ds_aug 2 ip_add rfl ?_ | refine ds_aug 2 ip_sub rfl ?_)
  | ((with_reducible refine isPut "found" ?_); refine ds_put 2 ?_)
  | ((with_reducible refine isApp "found" ?_); refine ds_append 2 rfl ?_)
  | ((with_reducible refine isName "word" ?_); first | refine de_var 3 rfl ?_ | refine de_varF 3 rfl ?_)
  | ((with_reducible refine isNameH "word" ?_); refine dh_own 3 rfl ?_)
  | ((with_reducible refine isTg "word" ?_); refine dg_name 3 ?_)
  | ((with_reducible refine isSet "word" ?_); first | (refine ds_setL 3 ?_; (with_reducible refine df_lst ?_)) | refine ds_set 3 ?_)
  | ((with_reducible refine isAug "word" ?_); first | refine ds_aug 3 ip_add rfl ?_ | refine ds_aug 3 ip_sub rfl ?_)
  | ((with_reducible refine isPut "word" ?_); refine ds_put 3 ?_)
  | ((with_reducible refine isApp "word" ?_); refine ds_append 3 rfl ?_)
  | ((with_reducible refine isName "sign" ?_); first | refine de_var 4 rfl ?_ | refine de_varF 4 rfl ?_)
  | ((with_reducible refine isNameH "sign" ?_); refine dh_own 4 rfl ?_)
  | ((with_reducible refine isTg "sign" ?_); refine dg_name 4 ?_)
  | ((with_reducible refine isSet "sign" ?_); first | (refine ds_setL 4 ?_; (with_reducible refine df_lst ?_)) | refine ds_set 4 ?_)
  | ((with_reducible refine isAug "sign" ?_); first | refine ds_aug 4 ip_add rfl ?_ | refine ds_aug 4 ip_sub rfl ?_)
  | ((with_reducible refine isPut "sign" ?_); refine ds_put 4 ?_)
  | ((with_reducible refine isApp "sign" ?_); refine ds_append 4 rfl ?_))
local macro_rules | `(tactic| exists "lc") => `(tactic| first
  | refine de_df (df_lc2 [("word", 3), ("sign", 4)] [4] ?_ (blkOk_by (N := ["one", "other", "found", "word", "sign"]) (sc := defScope (topS 24)) (by decide +kernel)))
  | refine de_df (df_lc [("word", 3)] ?_ (blkOk_by (N := ["one", "other", "found", "word", "sign"]) (sc := defScope (topS 24)) (by decide +kernel))))
local macro_rules | `(tactic| exists "const") => `(tactic| first
  | refine de_gv (by assumption) ?_)
local macro_rules | `(tactic| exists "user") => `(tactic| first
  | refine de_cl (by assumption) (by assumption) ?_)
theorem sc_composed : FnScope ["one", "other", "found", "word", "sign"] ["one", "other"] (defScope (topS 24)) := ⟨rfl, rfl, rfl, by decide +kernel, rfl, by decide +kernel, by decide +kernel⟩
theorem ok_composed {f : Addr} {fd : FuncData} {k : Nat} (F : FunD K "composed" "composed" (defArgs (topS 24)) (defBody (topS 24)) (defScope (topS 24)) [] [] f fd) (b_any : mg "any" = none) (b_len : mg "len" = none) (b_tuple : mg "tuple" = none) (g_LETTERS : GV K mg "LETTERS" (.str LET)) (C_need_map : Cl P w K mg base k "need_map" [] needMapS) (C_image_of : Cl P w K mg base k "image_of" [] imageOfS) :
    DFn P w K mg base (k + 1) f fd ["one", "other"] composedS := by
  refine dfn F sc_composed ?_ ?_
  · rintro y ds P' PE ⟨rfl, ws, vs, rfl, _⟩
    rfl
  · rintro cdv A outer s H E hr y ds P' PE ⟨rfl, ws, vs, rfl, h1, h2, h3, h4, q⟩
    have nd := sc_composed.nd
    show DSs _ _ [some (.sh (.tup (ws.map .str))), some (.sh (.tup (vs.map .str))), none, none, none] _ _
    have h5 := h1.2.1
    have h6 := h2.2.1
    exists "dw"
    refine ⟨rfl, ws, rfl, h1, ?_⟩
    exists "dw"
    refine ⟨rfl, vs, rfl, h2, ?_⟩
    exists "dw"
    refine di_tup ?_
    exists "dw"
    refine comp_map2 (ys := ws) (g := D.str) (fun u => u) (fun c => D.str [c]) (fun _ c => .bl (!decide (c ∈ LET.take vs.length))) (by decide) (inner_sum (fun u hu => (h1.2.2 u hu).2.1) h1.2.1) ?_ ?_
    · intro u hu b
      exists "dw"
      intro b2
      refine di_str ?_
      exists "dw"
      intro c hc b3
      exists "dw"
      intro b4
      exists "dw"
      rw [List.length_map, cutL_to vs.length rfl]
      exists "dw"
    · rw [flat_all fun u hu c hc => (let_take vs.length (by omega)).mpr (h3 u hu c hc)]
      exists "dw"
      refine ck_anyM (f := fun _ => false) ?_
      rw [any_false]
      exists "dw"
      refine di_tup ?_
      exists "dw"
      refine comp_map (ys := ws) (g := D.str) (fun u => .str (imgW vs u)) (by omega) ?_ ?_
      · intro u hu b
        have hu2 := (h1.2.2 u hu).2.1
        have hu3 := (h4.2.2 _ (List.mem_map.mpr ⟨u, hu, rfl⟩)).2.1
        exists "dw"
        intro b2
        exists "dw"
        refine ⟨rfl, vs, u, rfl, by omega, by omega, h3 u hu, by omega, ?_⟩
        exists "dw"
      · exists "dw"
        rw [show (ws.map fun u => D.str (imgW vs u)) = (ws.map (imgW vs)).map D.str by rw [List.map_map]; rfl]
        refine ⟨rfl, _, rfl, h4, ?_⟩
        exists "dw"
        exact .inl ⟨rfl, q⟩
end

section
variable {P : Program} {w : World} {K : PySem.W.Frag} {mg : Str → Option Value} {base : Heap}
local macro_rules | `(tactic| exists "nm") => `(tactic| first
  | ((with_reducible refine isName "told" ?_); first | refine de_var 0 rfl ?_ | refine de_varF 0 rfl ?_)
  | ((with_reducible refine isNameH "told" ?_); refine dh_own 0 rfl ?_)
  | ((with_reducible refine isTg "told" ?_); refine dg_name 0 ?_)
  | ((with_reducible refine isSet "told" ?_); first | (refine ds_setL 0 ?_; (with_reducible refine df_lst ?_)) | refine ds_set 0 ?_)
  | ((with_reducible refine isAug "told" ?_); first | refine ds_aug 0 ip_add rfl ?_ | refine ds_aug 0 ip_sub rfl ?_)
  | ((with_reducible refine isPut "told" ?_); refine ds_put 0 ?_)
  | ((with_reducible refine isApp "told" ?_); refine ds_append 0 rfl ?_)
  | ((with_reducible refine isName "word" ?_); first | refine de_var 1 rfl ?_ | refine de_varF 1 rfl ?_)
  | ((with_reducible refine isNameH "word" ?_); refine dh_own 1 rfl ?_)
  | ((with_reducible refine isTg "word" ?_); refine dg_name 1 ?_)
  | ((with_reducible refine isSet "word" ?_); first | (refine ds_setL 1 ?_; (with_reducible refine df_lst ?_)) | refine ds_set 1 ?_)
  | ((with_reducible refine isAug "word" ?_); first | refine ds_aug 1 ip_add rfl ?_ | refine ds_aug 1 ip_sub rfl ?_)
  | ((with_reducible refine isPut "word" ?_); refine ds_put 1 ?_)
  | ((with_reducible refine isApp "word" ?_); refine ds_append 1 rfl ?_)
  | ((with_reducible refine isName "times" ?_); first | refine de_var 2 rfl ?_ | refine de_varF 2 rfl ?_)
  | ((with_reducible refine isNameH "times" ?_); refine dh_own 2 rfl ?_)
  | ((with_reducible refine isTg "times" ?_); refine dg_name 2 ?_)
  | ((with_reducible refine isSet "times" ?_); first | (refine ds_setL 2 ?_; (with_reducible refine df_lst ?_)) | refine ds_set 2 ?_)
  | ((with_reducible refine isAug "times" ?_); first | refine ds_aug 2 ip_add rfl ?_ | refine ds_aug 2 ip_sub rfl ?_)
  | ((with_reducible refine isPut "times" ?_); refine ds_put 2 ?_)
  | ((with_reducible refine isApp "times" ?_); refine ds_append 2 rfl ?_)
  | ((with_reducible refine isName "turn" ?_); first | refine de_var 3 rfl ?_ | refine de_varF 3 rfl ?_)
  | ((with_reducible refine isNameH "turn" ?_); refine dh_own 3 rfl ?_)
  | ((with_reducible refine isTg "turn" ?_); refine dg_name 3 ?_)
  | ((with_reducible refine isSet "turn" ?_); first | (refine ds_setL 3 ?_; (with_reducible refine df_lst ?_)) | refine ds_set 3 ?_)
  | ((with_reducible refine isAug "turn" ?_); first | refine ds_aug 3 ip_add rfl ?_ | refine ds_aug 3 ip_sub rfl ?_)
  | ((with_reducible refine isPut "turn" ?_); refine ds_put 3 ?_)
  | ((with_reducible refine isApp "turn" ?_); refine ds_append 3 rfl ?_))
local macro_rules | `(tactic| exists "const") => `(tactic| first
  | refine de_gv (by assumption) ?_)
local macro_rules | `(tactic| exists "user") => `(tactic| first
  | refine de_cl (by assumption) (by assumption) ?_)
theorem sc_iterated : FnScope ["told", "word", "times", "turn"] ["told", "word", "times"] (defScope (topS 25)) := ⟨rfl, rfl, rfl, by decide +kernel, rfl, by decide +kernel, by decide +kernel⟩
theorem ok_iterated {f : Addr} {fd : FuncData} {k : Nat} (F : FunD K "iterated" "iterated" (defArgs (topS 25)) (defBody (topS 25)) (defScope (topS 25)) [] [] f fd) (b_range : mg "range" = none) (b_len : mg "len" = none) (g_MOST_TIMES : GV K mg "MOST_TIMES" (.int 40)) (g_MOST_MADE : GV K mg "MOST_MADE" (.int 20000)) (C_need_inner : Cl P w K mg base k "need_inner" [] needInnerS) (C_need_letters : Cl P w K mg base k "need_letters" [] needLettersS) (C_is_in : Cl P w K mg base k "is_in" [] isInS) (C_image_of : Cl P w K mg base k "image_of" [] imageOfS) :
    DFn P w K mg base (k + 1) f fd ["told", "word", "times"] iteratedS := by
  refine dfn F sc_iterated ?_ ?_
  · rintro y ds P' PE ⟨rfl, ws, w, t, rfl, _⟩
    rfl
  · rintro cdv A outer s H E hr y ds P' PE ⟨rfl, ws, w, t, rfl, h1, h2, h3, h4, h5, h6, h7, q⟩
    have nd := sc_iterated.nd
    show DSs _ _ [some (.sh (.tup (ws.map .str))), some (.sh (.str w)), some (.sh (.int t)), none] _ _
    have h8 := h1.2.1
    exists "dw"
    refine ⟨rfl, ws, rfl, h1, h2, ?_⟩
    exists "dw"
    refine ⟨rfl, ws, w, rfl, by omega, h3, h4, ?_⟩
    exists "dw"
    refine ⟨rfl, t, 0, 40, rfl, ?_⟩
    rw [decide_eq_true h5, decide_eq_true h6]
    exists "dw"
    refine ds_for [3] ?_
    exists "dw"
    refine ⟨fun i ρ => ∃ x, ρ = [some (.sh (.tup (ws.map .str))), some (.sh (.str (itW ws i w))), some (.sh (.int t)), x] ∧ Of ws.length (itW ws i w), ⟨none, rfl, h4⟩, ?_, ?_⟩
    · rintro i ρ2 d hd ⟨x, rfl, ho⟩
      obtain ⟨hi, rfl⟩ := ups_get hd
      have l1 := h7 i (by omega)
      have l2 := h7 (i + 1) (by omega)
      have l3 : (imgW ws (itW ws i w)).length ≤ 100000 := by show (itW ws (i + 1) w).length ≤ _; omega
      exists "dw"
      refine ⟨rfl, ws, itW ws i w, rfl, by omega, by omega, ho, by show (itW ws (i + 1) w).length ≤ _; omega, ?_⟩
      exists "dw"
      refine ifb (fun c1 => ?_) (fun c1 => ?_)
      · have := of_decide_eq_true c1
        have : ((20000 : Int) < (itW ws (i + 1) w).length) := this
        omega
      · exists "dw"
        exact img_of ho h2
    · rintro ρ2 ⟨x, rfl, ho⟩
      rw [ups_len]
      exists "dw"
      exact .inl ⟨rfl, q⟩
end

def mapS : FSpec := rowS (fun ds => ∃ n own most : Int, ds = [.int n, .int own, .int most] ∧ 1 ≤ n ∧ n ≤ 6 ∧ 1 ≤ own ∧ own ≤ 6 ∧ 1 ≤ most ∧ most ≤ 40) (fun ds d => ∃ (n own most : Int) (ws : List (List Nat)), ds = [.int n, .int own, .int most] ∧ d = .tup (ws.map .str) ∧ (ws.length : Int) = n ∧ ∀ u ∈ ws, WordIn own 1 most u)
theorem map_go {xs : List D} {n own most : Int} {W : List D → D → Prop} {PE : Value → Option (Str × D) → Prop} (hr : IsRow xs) (h1 : 1 ≤ n ∧ n ≤ 6 ∧ 1 ≤ own ∧ own ≤ 6 ∧ 1 ≤ most ∧ most ≤ 40) (k : ∀ (xs' : List D) (ws : List (List Nat)), IsRow xs' → (ws.length : Int) = n → (∀ u ∈ ws, WordIn own 1 most u) → W xs' (.tup (ws.map .str))) :
    mapS (some xs) [.int n, .int own, .int most] (fun y' d => ∀ xs', y' = some xs' → W xs' d) PE := ⟨xs, rfl, hr, ⟨n, own, most, rfl, h1⟩, fun xs' d hx hd xs2 e => by
    cases e
    obtain ⟨n', own', most', ws, e, rfl, h3, h4⟩ := hd
    cases e
    exact k xs' ws hx h3 h4⟩
theorem drawn_words {own lo hi : Int} : ∀ {ys : List D}, (∀ y ∈ ys, ∃ u, y = .str u ∧ WordIn own lo hi u) → ∃ ws : List (List Nat), ys = ws.map .str ∧ ∀ u ∈ ws, WordIn own lo hi u
  | [], _ => ⟨[], rfl, fun u hu => nomatch hu⟩
  | y :: ys, h => by
    obtain ⟨ws, rfl, h1⟩ := drawn_words (ys := ys) fun y hy => h y (List.mem_cons_of_mem _ hy)
    obtain ⟨u, rfl, h2⟩ := h y List.mem_cons_self
    exact ⟨u :: ws, rfl, fun v hv => by
      rcases List.mem_cons.mp hv with e | hv
      · rw [e]; exact h2
      · exact h1 v hv⟩

section
variable {P : Program} {w : World} {K : PySem.W.Frag} {mg : Str → Option Value} {base : Heap}
local macro_rules | `(tactic| exists "nm") => `(tactic| first
  | ((with_reducible refine isName "_law_told" ?_); first | refine de_var 0 rfl ?_ | refine de_varF 0 rfl ?_)
  | ((with_reducible refine isNameH "_law_told" ?_); refine dh_own 0 rfl ?_)
  | ((with_reducible refine isTg "_law_told" ?_); refine dg_name 0 ?_)
  | ((with_reducible refine isSet "_law_told" ?_); first | (refine ds_setL 0 ?_; (with_reducible refine df_lst ?_)) | refine ds_set 0 ?_)
  | ((with_reducible refine isAug "_law_told" ?_); first | refine ds_aug 0 ip_add rfl ?_ | refine ds_aug 0 ip_sub rfl ?_)
  | ((with_reducible refine isPut "_law_told" ?_); refine ds_put 0 ?_)
  | ((with_reducible refine isApp "_law_told" ?_); refine ds_append 0 rfl ?_)
  | ((with_reducible refine isName "_law_word_here" ?_); first | refine de_var 1 rfl ?_ | refine de_varF 1 rfl ?_)
  | ((with_reducible refine isNameH "_law_word_here" ?_); refine dh_own 1 rfl ?_)
  | ((with_reducible refine isTg "_law_word_here" ?_); refine dg_name 1 ?_)
  | ((with_reducible refine isSet "_law_word_here" ?_); first | (refine ds_setL 1 ?_; (with_reducible refine df_lst ?_)) | refine ds_set 1 ?_)
  | ((with_reducible refine isAug "_law_word_here" ?_); first | refine ds_aug 1 ip_add rfl ?_ | refine ds_aug 1 ip_sub rfl ?_)
  | ((with_reducible refine isPut "_law_word_here" ?_); refine ds_put 1 ?_)
  | ((with_reducible refine isApp "_law_word_here" ?_); refine ds_append 1 rfl ?_)
  | ((with_reducible refine isName "_law_sign" ?_); first | refine de_var 2 rfl ?_ | refine de_varF 2 rfl ?_)
  | ((with_reducible refine isNameH "_law_sign" ?_); refine dh_own 2 rfl ?_)
  | ((with_reducible refine isTg "_law_sign" ?_); refine dg_name 2 ?_)
  | ((with_reducible refine isSet "_law_sign" ?_); first | (refine ds_setL 2 ?_; (with_reducible refine df_lst ?_)) | refine ds_set 2 ?_)
  | ((with_reducible refine isAug "_law_sign" ?_); first | refine ds_aug 2 ip_add rfl ?_ | refine ds_aug 2 ip_sub rfl ?_)
  | ((with_reducible refine isPut "_law_sign" ?_); refine ds_put 2 ?_)
  | ((with_reducible refine isApp "_law_sign" ?_); refine ds_append 2 rfl ?_))
local macro_rules | `(tactic| exists "lc") => `(tactic| first
  | refine de_df (df_lc [("_law_sign", 2)] ?_ (blkOk_by (N := ["_law_told", "_law_word_here", "_law_sign"]) (sc := defScope (topS 30)) (by decide +kernel))))
local macro_rules | `(tactic| exists "const") => `(tactic| first
  | ((with_reducible refine isStr "" ?_); refine de_str [] rfl ?_)
  | ((with_reducible refine isStr "abcdef" ?_); refine de_str LET6 rfl ?_)
  | refine de_gv (by assumption) ?_)
local macro_rules | `(tactic| exists "user") => `(tactic| first
  | refine de_cl (by assumption) (by assumption) ?_)
theorem sc__law_image : FnScope ["_law_told", "_law_word_here", "_law_sign"] ["_law_told", "_law_word_here"] (defScope (topS 30)) := ⟨rfl, rfl, rfl, by decide +kernel, rfl, by decide +kernel, by decide +kernel⟩
theorem ok__law_image {f : Addr} {fd : FuncData} {k : Nat} (F : FunD K "_law_image" "_law_image" (defArgs (topS 30)) (defBody (topS 30)) (defScope (topS 30)) [] [] f fd)  :
    DFn P w K mg base (k + 1) f fd ["_law_told", "_law_word_here"] lawImageS := by
  refine dfn F sc__law_image ?_ ?_
  · rintro y ds P' PE ⟨rfl, ws, w, rfl, _⟩
    rfl
  · rintro cdv A outer s H E hr y ds P' PE ⟨rfl, ws, w, rfl, h1, h2, h3, h4, q⟩
    have nd := sc__law_image.nd
    show DSs _ _ [some (.sh (.tup (ws.map .str))), some (.sh (.str w)), none] _ _
    exists "dw"
    refine di_str ?_
    exists "dw"
    refine comp_map (ys := w) (g := fun c => D.str [c]) (fun c => .str (ws.getD (c - 97) [])) h2 ?_ ?_
    · intro c hc b
      have hc1 := h3 c hc
      have hc2 := img_at hc1
      exists "dw"
      intro b2
      exists "dw"
      refine ck_index_let6 hc1.1 (by omega) ?_
      exists "dw"
    · exists "dw"
      refine ck_joinM (f := fun c => ws.getD (c - 97) []) ?_ ?_
      · rw [← List.length_flatMap]; exact h4
      · exact .inl ⟨rfl, q⟩
end

section
variable {P : Program} {w : World} {K : PySem.W.Frag} {mg : Str → Option Value} {base : Heap}
local macro_rules | `(tactic| exists "nm") => `(tactic| first
  | ((with_reducible refine isName "_law_row" ?_); first | refine de_var 0 rfl ?_ | refine de_varF 0 rfl ?_)
  | ((with_reducible refine isNameH "_law_row" ?_); refine dh_own 0 rfl ?_)
  | ((with_reducible refine isTg "_law_row" ?_); refine dg_name 0 ?_)
  | ((with_reducible refine isSet "_law_row" ?_); first | (refine ds_setL 0 ?_; (with_reducible refine df_lst ?_)) | refine ds_set 0 ?_)
  | ((with_reducible refine isAug "_law_row" ?_); first | refine ds_aug 0 ip_add rfl ?_ | refine ds_aug 0 ip_sub rfl ?_)
  | ((with_reducible refine isPut "_law_row" ?_); refine ds_put 0 ?_)
  | ((with_reducible refine isApp "_law_row" ?_); refine ds_append 0 rfl ?_)
  | ((with_reducible refine isName "_law_size" ?_); first | refine de_var 1 rfl ?_ | refine de_varF 1 rfl ?_)
  | ((with_reducible refine isNameH "_law_size" ?_); refine dh_own 1 rfl ?_)
  | ((with_reducible refine isTg "_law_size" ?_); refine dg_name 1 ?_)
  | ((with_reducible refine isSet "_law_size" ?_); first | (refine ds_setL 1 ?_; (with_reducible refine df_lst ?_)) | refine ds_set 1 ?_)
  | ((with_reducible refine isAug "_law_size" ?_); first | refine ds_aug 1 ip_add rfl ?_ | refine ds_aug 1 ip_sub rfl ?_)
  | ((with_reducible refine isPut "_law_size" ?_); refine ds_put 1 ?_)
  | ((with_reducible refine isApp "_law_size" ?_); refine ds_append 1 rfl ?_)
  | ((with_reducible refine isName "_law_own" ?_); first | refine de_var 2 rfl ?_ | refine de_varF 2 rfl ?_)
  | ((with_reducible refine isNameH "_law_own" ?_); refine dh_own 2 rfl ?_)
  | ((with_reducible refine isTg "_law_own" ?_); refine dg_name 2 ?_)
  | ((with_reducible refine isSet "_law_own" ?_); first | (refine ds_setL 2 ?_; (with_reducible refine df_lst ?_)) | refine ds_set 2 ?_)
  | ((with_reducible refine isAug "_law_own" ?_); first | refine ds_aug 2 ip_add rfl ?_ | refine ds_aug 2 ip_sub rfl ?_)
  | ((with_reducible refine isPut "_law_own" ?_); refine ds_put 2 ?_)
  | ((with_reducible refine isApp "_law_own" ?_); refine ds_append 2 rfl ?_)
  | ((with_reducible refine isName "_law_most" ?_); first | refine de_var 3 rfl ?_ | refine de_varF 3 rfl ?_)
  | ((with_reducible refine isNameH "_law_most" ?_); refine dh_own 3 rfl ?_)
  | ((with_reducible refine isTg "_law_most" ?_); refine dg_name 3 ?_)
  | ((with_reducible refine isSet "_law_most" ?_); first | (refine ds_setL 3 ?_; (with_reducible refine df_lst ?_)) | refine ds_set 3 ?_)
  | ((with_reducible refine isAug "_law_most" ?_); first | refine ds_aug 3 ip_add rfl ?_ | refine ds_aug 3 ip_sub rfl ?_)
  | ((with_reducible refine isPut "_law_most" ?_); refine ds_put 3 ?_)
  | ((with_reducible refine isApp "_law_most" ?_); refine ds_append 3 rfl ?_)
  | ((with_reducible refine isName "_law_at" ?_); first | refine de_var 4 rfl ?_ | refine de_varF 4 rfl ?_)
  | ((with_reducible refine isNameH "_law_at" ?_); refine dh_own 4 rfl ?_)
  | ((with_reducible refine isTg "_law_at" ?_); refine dg_name 4 ?_)
  | ((with_reducible refine isSet "_law_at" ?_); first | (refine ds_setL 4 ?_; (with_reducible refine df_lst ?_)) | refine ds_set 4 ?_)
  | ((with_reducible refine isAug "_law_at" ?_); first | refine ds_aug 4 ip_add rfl ?_ | refine ds_aug 4 ip_sub rfl ?_)
  | ((with_reducible refine isPut "_law_at" ?_); refine ds_put 4 ?_)
  | ((with_reducible refine isApp "_law_at" ?_); refine ds_append 4 rfl ?_))
local macro_rules | `(tactic| exists "lc") => `(tactic| first
  | refine de_df (df_lc [("_law_at", 4)] ?_ (blkOk_by (N := ["_law_row", "_law_size", "_law_own", "_law_most", "_law_at"]) (sc := defScope (topS 31)) (by decide +kernel))))
local macro_rules | `(tactic| exists "const") => `(tactic| first
  | refine de_gv (by assumption) ?_)
local macro_rules | `(tactic| exists "user") => `(tactic| first
  | ((with_reducible refine isCall "_law_word" ?_); refine de_clL (by assumption) (by assumption) 0 rfl ?_)
  | refine de_cl (by assumption) (by assumption) ?_)
theorem sc__law_map : FnScope ["_law_row", "_law_size", "_law_own", "_law_most", "_law_at"] ["_law_row", "_law_size", "_law_own", "_law_most"] (defScope (topS 31)) := ⟨rfl, rfl, rfl, by decide +kernel, rfl, by decide +kernel, by decide +kernel⟩
theorem ok__law_map {f : Addr} {fd : FuncData} {k : Nat} (F : FunD K "_law_map" "_law_map" (defArgs (topS 31)) (defBody (topS 31)) (defScope (topS 31)) [] [] f fd) (b_range : mg "range" = none) (b_tuple : mg "tuple" = none) (C__law_word : Cl P w K mg base k "_law_word" [] wordS) :
    DFn P w K mg base (k + 1) f fd ["_law_row", "_law_size", "_law_own", "_law_most"] mapS := by
  refine dfn F sc__law_map ?_ ?_
  · rintro y ds P' PE ⟨xs, rfl, _, ⟨n, own, most, rfl, _⟩, _⟩
    rfl
  · rintro cdv A outer s H E hr y ds P' PE ⟨xs, rfl, hx, ⟨n, own, most, rfl, h1, h2, h3, h4, h5, h6⟩, q⟩
    have nd := sc__law_map.nd
    show DSs _ _ [some (.own true xs), some (.sh (.int n)), some (.sh (.int own)), some (.sh (.int most)), none] _ _
    exists "dw"
    refine comp_row (fun y => ∃ u, y = .str u ∧ WordIn own 1 most u) 0 rfl hx ?_ ?_ ?_
    · rw [ups_len]; omega
    · intro d hd xs2 hx2 b1
      exists "dw"
      intro b2
      exists "dw"
      refine word_go hx2 ⟨by omega, by omega, by omega, by omega, by omega⟩ fun xs3 u hx3 hu => ?_
      exact ⟨xs3, hx3, ⟨_, rfl, hu⟩, rfl⟩
    · intro xs4 ys hx4 hy hn
      obtain ⟨ws, rfl, hw⟩ := drawn_words hy
      rw [List.length_map, ups_len] at hn
      exists "dw"
      exact .inr ⟨_, rfl, rfl, q _ _ hx4 ⟨_, _, _, _, rfl, rfl, by omega, hw⟩⟩
end

section
variable {P : Program} {w : World} {K : PySem.W.Frag} {mg : Str → Option Value} {base : Heap}
local macro_rules | `(tactic| exists "nm") => `(tactic| first
  | ((with_reducible refine isName "_law_found" ?_); first | refine de_var 0 rfl ?_ | refine de_varF 0 rfl ?_)
  | ((with_reducible refine isNameH "_law_found" ?_); refine dh_own 0 rfl ?_)
  | ((with_reducible refine isTg "_law_found" ?_); refine dg_name 0 ?_)
  | ((with_reducible refine isSet "_law_found" ?_); first | (refine ds_setL 0 ?_; (with_reducible refine df_lst ?_)) | refine ds_set 0 ?_)
  | ((with_reducible refine isAug "_law_found" ?_); first | refine ds_aug 0 ip_add rfl ?_ | refine ds_aug 0 ip_sub rfl ?_)
  | ((with_reducible refine isPut "_law_found" ?_); refine ds_put 0 ?_)
  | ((with_reducible refine isApp "_law_found" ?_); refine ds_append 0 rfl ?_)
  | ((with_reducible refine isName "_law_due" ?_); first | refine de_var 1 rfl ?_ | refine de_varF 1 rfl ?_)
  | ((with_reducible refine isNameH "_law_due" ?_); refine dh_own 1 rfl ?_)
  | ((with_reducible refine isTg "_law_due" ?_); refine dg_name 1 ?_)
  | ((with_reducible refine isSet "_law_due" ?_); first | (refine ds_setL 1 ?_; (with_reducible refine df_lst ?_)) | refine ds_set 1 ?_)
  | ((with_reducible refine isAug "_law_due" ?_); first | refine ds_aug 1 ip_add rfl ?_ | refine ds_aug 1 ip_sub rfl ?_)
  | ((with_reducible refine isPut "_law_due" ?_); refine ds_put 1 ?_)
  | ((with_reducible refine isApp "_law_due" ?_); refine ds_append 1 rfl ?_)
  | ((with_reducible refine isName "_law_k" ?_); first | refine de_var 2 rfl ?_ | refine de_varF 2 rfl ?_)
  | ((with_reducible refine isNameH "_law_k" ?_); refine dh_own 2 rfl ?_)
  | ((with_reducible refine isTg "_law_k" ?_); refine dg_name 2 ?_)
  | ((with_reducible refine isSet "_law_k" ?_); first | (refine ds_setL 2 ?_; (with_reducible refine df_lst ?_)) | refine ds_set 2 ?_)
  | ((with_reducible refine isAug "_law_k" ?_); first | refine ds_aug 2 ip_add rfl ?_ | refine ds_aug 2 ip_sub rfl ?_)
  | ((with_reducible refine isPut "_law_k" ?_); refine ds_put 2 ?_)
  | ((with_reducible refine isApp "_law_k" ?_); refine ds_append 2 rfl ?_))
local macro_rules | `(tactic| exists "lc") => `(tactic| first
  | refine de_df (df_lc [("_law_k", 2)] ?_ (blkOk_by (N := ["_law_found", "_law_due", "_law_k"]) (sc := defScope (topS 28)) (by decide +kernel))))
local macro_rules | `(tactic| exists "const") => `(tactic| first
  | refine de_gv (by assumption) ?_)
local macro_rules | `(tactic| exists "user") => `(tactic| first
  | refine de_cl (by assumption) (by assumption) ?_)
theorem sc__law_alike : FnScope ["_law_found", "_law_due", "_law_k"] ["_law_found", "_law_due"] (defScope (topS 28)) := ⟨rfl, rfl, rfl, by decide +kernel, rfl, by decide +kernel, by decide +kernel⟩
theorem ok__law_alike {f : Addr} {fd : FuncData} {k : Nat} (F : FunD K "_law_alike" "_law_alike" (defArgs (topS 28)) (defBody (topS 28)) (defScope (topS 28)) [] [] f fd) (b_isinstance : mg "isinstance" = none) (b_tuple : mg "tuple" = none) (b_list : mg "list" = none) (b_len : mg "len" = none) (b_range : mg "range" = none) (b_str : mg "str" = none) (b_int : mg "int" = none) (b_bool : mg "bool" = none) (C_rec : ∀ m, k = m + 1 → Cl P w K mg base (m + 1) "_law_alike" [] (alikeS m)) :
    DFn P w K mg base (k + 1) f fd ["_law_found", "_law_due"] (alikeS k) := by
  refine dfn F sc__law_alike ?_ ?_
  · rintro y ds P' PE ⟨rfl, d, rfl, _⟩
    rfl
  · rintro cdv A outer s H E hr y ds P' PE ⟨rfl, d, rfl, ok, q⟩
    have nd := sc__law_alike.nd
    show DSs _ _ [some (.sh d), some (.sh d), none] _ _
    rcases ok.cases with (rfl | ⟨b, rfl⟩ | ⟨i, rfl⟩ | ⟨w, rfl⟩) | ⟨m, xs, rfl, rfl | rfl, hl, ho⟩
    · exists "dw"
      exact .inl ⟨rfl, q⟩
    · exists "dw"
      rw [dec_self]
      exact .inl ⟨rfl, q⟩
    · exists "dw"
      rw [dec_self]
      exact .inl ⟨rfl, q⟩
    · exists "dw"
      rw [dec_self]
      exists "dw"
      exact .inl ⟨rfl, q⟩
    · exists "dw"
      rw [dec_self]
      exists "dw"
      refine comp_filter (ys := List.range xs.length) (g := fun (i : Nat) => .int (0 + i)) (fun _ => false) (fun (i : Nat) => .int (0 + i)) (by rw [List.length_range]; exact hl) ?_ ?_
      · intro i hi b
        have hi := List.mem_range.mp hi
        have hx : atI xs (0 + (i : Int)) = some xs[i] := atI_get (j := i) (by omega) (List.getElem?_eq_getElem hi)
        have C := C_rec m rfl
        exists "dw"
        intro b2
        exists "dw"
        refine ⟨rfl, xs[i], rfl, ho _ (List.getElem_mem hi), ?_⟩
        exists "dw"
        exact fun z => nomatch z
      · rw [show (List.range xs.length).filter (fun _ => false) = [] by simp]
        exists "dw"
        exact .inl ⟨rfl, q⟩
    · exists "dw"
      rw [dec_self]
      exists "dw"
      refine comp_filter (ys := List.range xs.length) (g := fun (i : Nat) => .int (0 + i)) (fun _ => false) (fun (i : Nat) => .int (0 + i)) (by rw [List.length_range]; exact hl) ?_ ?_
      · intro i hi b
        have hi := List.mem_range.mp hi
        have hx : atI xs (0 + (i : Int)) = some xs[i] := atI_get (j := i) (by omega) (List.getElem?_eq_getElem hi)
        have C := C_rec m rfl
        exists "dw"
        intro b2
        exists "dw"
        refine ⟨rfl, xs[i], rfl, ho _ (List.getElem_mem hi), ?_⟩
        exists "dw"
        exact fun z => nomatch z
      · rw [show (List.range xs.length).filter (fun _ => false) = [] by simp]
        exists "dw"
        exact .inl ⟨rfl, q⟩
end

section
variable {P : Program} {w : World} {K : PySem.W.Frag} {mg : Str → Option Value} {base : Heap}
local macro_rules | `(tactic| exists "nm") => `(tactic| first
  | ((with_reducible refine isName "_law_script" ?_); first | refine de_var 0 rfl ?_ | refine de_varF 0 rfl ?_)
  | ((with_reducible refine isNameH "_law_script" ?_); refine dh_own 0 rfl ?_)
  | ((with_reducible refine isTg "_law_script" ?_); refine dg_name 0 ?_)
  | ((with_reducible refine isSet "_law_script" ?_); first | (refine ds_setL 0 ?_; (with_reducible refine df_lst ?_)) | refine ds_set 0 ?_)
  | ((with_reducible refine isAug "_law_script" ?_); first | refine ds_aug 0 ip_add rfl ?_ | refine ds_aug 0 ip_sub rfl ?_)
  | ((with_reducible refine isPut "_law_script" ?_); refine ds_put 0 ?_)
  | ((with_reducible refine isApp "_law_script" ?_); refine ds_append 0 rfl ?_)
  | ((with_reducible refine isName "_law_row" ?_); first | refine de_var 1 rfl ?_ | refine de_varF 1 rfl ?_)
  | ((with_reducible refine isNameH "_law_row" ?_); refine dh_own 1 rfl ?_)
  | ((with_reducible refine isTg "_law_row" ?_); refine dg_name 1 ?_)
  | ((with_reducible refine isSet "_law_row" ?_); first | (refine ds_setL 1 ?_; (with_reducible refine df_lst ?_)) | refine ds_set 1 ?_)
  | ((with_reducible refine isAug "_law_row" ?_); first | refine ds_aug 1 ip_add rfl ?_ | refine ds_aug 1 ip_sub rfl ?_)
  | ((with_reducible refine isPut "_law_row" ?_); refine ds_put 1 ?_)
  | ((with_reducible refine isApp "_law_row" ?_); refine ds_append 1 rfl ?_)
  | ((with_reducible refine isName "_law_size" ?_); first | refine de_var 2 rfl ?_ | refine de_varF 2 rfl ?_)
  | ((with_reducible refine isNameH "_law_size" ?_); refine dh_own 2 rfl ?_)
  | ((with_reducible refine isTg "_law_size" ?_); refine dg_name 2 ?_)
  | ((with_reducible refine isSet "_law_size" ?_); first | (refine ds_setL 2 ?_; (with_reducible refine df_lst ?_)) | refine ds_set 2 ?_)
  | ((with_reducible refine isAug "_law_size" ?_); first | refine ds_aug 2 ip_add rfl ?_ | refine ds_aug 2 ip_sub rfl ?_)
  | ((with_reducible refine isPut "_law_size" ?_); refine ds_put 2 ?_)
  | ((with_reducible refine isApp "_law_size" ?_); refine ds_append 2 rfl ?_)
  | ((with_reducible refine isName "_law_other" ?_); first | refine de_var 3 rfl ?_ | refine de_varF 3 rfl ?_)
  | ((with_reducible refine isNameH "_law_other" ?_); refine dh_own 3 rfl ?_)
  | ((with_reducible refine isTg "_law_other" ?_); refine dg_name 3 ?_)
  | ((with_reducible refine isSet "_law_other" ?_); first | (refine ds_setL 3 ?_; (with_reducible refine df_lst ?_)) | refine ds_set 3 ?_)
  | ((with_reducible refine isAug "_law_other" ?_); first | refine ds_aug 3 ip_add rfl ?_ | refine ds_aug 3 ip_sub rfl ?_)
  | ((with_reducible refine isPut "_law_other" ?_); refine ds_put 3 ?_)
  | ((with_reducible refine isApp "_law_other" ?_); refine ds_append 3 rfl ?_)
  | ((with_reducible refine isName "_law_told" ?_); first | refine de_var 4 rfl ?_ | refine de_varF 4 rfl ?_)
  | ((with_reducible refine isNameH "_law_told" ?_); refine dh_own 4 rfl ?_)
  | ((with_reducible refine isTg "_law_told" ?_); refine dg_name 4 ?_)
  | ((with_reducible refine isSet "_law_told" ?_); first | (refine ds_setL 4 ?_; (with_reducible refine df_lst ?_)) | refine ds_set 4 ?_)
  | ((with_reducible refine isAug "_law_told" ?_); first | refine ds_aug 4 ip_add rfl ?_ | refine ds_aug 4 ip_sub rfl ?_)
  | ((with_reducible refine isPut "_law_told" ?_); refine ds_put 4 ?_)
  | ((with_reducible refine isApp "_law_told" ?_); refine ds_append 4 rfl ?_)
  | ((with_reducible refine isName "_law_later" ?_); first | refine de_var 5 rfl ?_ | refine de_varF 5 rfl ?_)
  | ((with_reducible refine isNameH "_law_later" ?_); refine dh_own 5 rfl ?_)
  | ((with_reducible refine isTg "_law_later" ?_); refine dg_name 5 ?_)
  | ((with_reducible refine isSet "_law_later" ?_); first | (refine ds_setL 5 ?_; (with_reducible refine df_lst ?_)) | refine ds_set 5 ?_)
  | ((with_reducible refine isAug "_law_later" ?_); first | refine ds_aug 5 ip_add rfl ?_ | refine ds_aug 5 ip_sub rfl ?_)
  | ((with_reducible refine isPut "_law_later" ?_); refine ds_put 5 ?_)
  | ((with_reducible refine isApp "_law_later" ?_); refine ds_append 5 rfl ?_)
  | ((with_reducible refine isName "_law_word_here" ?_); first | refine de_var 6 rfl ?_ | refine de_varF 6 rfl ?_)
  | ((with_reducible refine isNameH "_law_word_here" ?_); refine dh_own 6 rfl ?_)
  | ((with_reducible refine isTg "_law_word_here" ?_); refine dg_name 6 ?_)
  | ((with_reducible refine isSet "_law_word_here" ?_); first | (refine ds_setL 6 ?_; (with_reducible refine df_lst ?_)) | refine ds_set 6 ?_)
  | ((with_reducible refine isAug "_law_word_here" ?_); first | refine ds_aug 6 ip_add rfl ?_ | refine ds_aug 6 ip_sub rfl ?_)
  | ((with_reducible refine isPut "_law_word_here" ?_); refine ds_put 6 ?_)
  | ((with_reducible refine isApp "_law_word_here" ?_); refine ds_append 6 rfl ?_)
  | ((with_reducible refine isName "_law_both" ?_); first | refine de_var 7 rfl ?_ | refine de_varF 7 rfl ?_)
  | ((with_reducible refine isNameH "_law_both" ?_); refine dh_own 7 rfl ?_)
  | ((with_reducible refine isTg "_law_both" ?_); refine dg_name 7 ?_)
  | ((with_reducible refine isSet "_law_both" ?_); first | (refine ds_setL 7 ?_; (with_reducible refine df_lst ?_)) | refine ds_set 7 ?_)
  | ((with_reducible refine isAug "_law_both" ?_); first | refine ds_aug 7 ip_add rfl ?_ | refine ds_aug 7 ip_sub rfl ?_)
  | ((with_reducible refine isPut "_law_both" ?_); refine ds_put 7 ?_)
  | ((with_reducible refine isApp "_law_both" ?_); refine ds_append 7 rfl ?_)
  | ((with_reducible refine isName "_law_own" ?_); first | refine de_var 8 rfl ?_ | refine de_varF 8 rfl ?_)
  | ((with_reducible refine isNameH "_law_own" ?_); refine dh_own 8 rfl ?_)
  | ((with_reducible refine isTg "_law_own" ?_); refine dg_name 8 ?_)
  | ((with_reducible refine isSet "_law_own" ?_); first | (refine ds_setL 8 ?_; (with_reducible refine df_lst ?_)) | refine ds_set 8 ?_)
  | ((with_reducible refine isAug "_law_own" ?_); first | refine ds_aug 8 ip_add rfl ?_ | refine ds_aug 8 ip_sub rfl ?_)
  | ((with_reducible refine isPut "_law_own" ?_); refine ds_put 8 ?_)
  | ((with_reducible refine isApp "_law_own" ?_); refine ds_append 8 rfl ?_)
  | ((with_reducible refine isName "_law_times" ?_); first | refine de_var 9 rfl ?_ | refine de_varF 9 rfl ?_)
  | ((with_reducible refine isNameH "_law_times" ?_); refine dh_own 9 rfl ?_)
  | ((with_reducible refine isTg "_law_times" ?_); refine dg_name 9 ?_)
  | ((with_reducible refine isSet "_law_times" ?_); first | (refine ds_setL 9 ?_; (with_reducible refine df_lst ?_)) | refine ds_set 9 ?_)
  | ((with_reducible refine isAug "_law_times" ?_); first | refine ds_aug 9 ip_add rfl ?_ | refine ds_aug 9 ip_sub rfl ?_)
  | ((with_reducible refine isPut "_law_times" ?_); refine ds_put 9 ?_)
  | ((with_reducible refine isApp "_law_times" ?_); refine ds_append 9 rfl ?_)
  | ((with_reducible refine isName "_law_due" ?_); first | refine de_var 10 rfl ?_ | refine de_varF 10 rfl ?_)
  | ((with_reducible refine isNameH "_law_due" ?_); refine dh_own 10 rfl ?_)
  | ((with_reducible refine isTg "_law_due" ?_); refine dg_name 10 ?_)
  | ((with_reducible refine isSet "_law_due" ?_); first | (refine ds_setL 10 ?_; (with_reducible refine df_lst ?_)) | refine ds_set 10 ?_)
  | ((with_reducible refine isAug "_law_due" ?_); first | refine ds_aug 10 ip_add rfl ?_ | refine ds_aug 10 ip_sub rfl ?_)
  | ((with_reducible refine isPut "_law_due" ?_); refine ds_put 10 ?_)
  | ((with_reducible refine isApp "_law_due" ?_); refine ds_append 10 rfl ?_)
  | ((with_reducible refine isName "_law_turn" ?_); first | refine de_var 11 rfl ?_ | refine de_varF 11 rfl ?_)
  | ((with_reducible refine isNameH "_law_turn" ?_); refine dh_own 11 rfl ?_)
  | ((with_reducible refine isTg "_law_turn" ?_); refine dg_name 11 ?_)
  | ((with_reducible refine isSet "_law_turn" ?_); first | (refine ds_setL 11 ?_; (with_reducible refine df_lst ?_)) | refine ds_set 11 ?_)
  | ((with_reducible refine isAug "_law_turn" ?_); first | refine ds_aug 11 ip_add rfl ?_ | refine ds_aug 11 ip_sub rfl ?_)
  | ((with_reducible refine isPut "_law_turn" ?_); refine ds_put 11 ?_)
  | ((with_reducible refine isApp "_law_turn" ?_); refine ds_append 11 rfl ?_)
  | ((with_reducible refine isName "_law_part" ?_); first | refine de_var 12 rfl ?_ | refine de_varF 12 rfl ?_)
  | ((with_reducible refine isNameH "_law_part" ?_); refine dh_own 12 rfl ?_)
  | ((with_reducible refine isTg "_law_part" ?_); refine dg_name 12 ?_)
  | ((with_reducible refine isSet "_law_part" ?_); first | (refine ds_setL 12 ?_; (with_reducible refine df_lst ?_)) | refine ds_set 12 ?_)
  | ((with_reducible refine isAug "_law_part" ?_); first | refine ds_aug 12 ip_add rfl ?_ | refine ds_aug 12 ip_sub rfl ?_)
  | ((with_reducible refine isPut "_law_part" ?_); refine ds_put 12 ?_)
  | ((with_reducible refine isApp "_law_part" ?_); refine ds_append 12 rfl ?_))
local macro_rules | `(tactic| exists "lc") => `(tactic| first
  | refine de_df (df_lc [("_law_part", 12)] ?_ (blkOk_by (N := ["_law_script", "_law_row", "_law_size", "_law_other", "_law_told", "_law_later", "_law_word_here", "_law_both", "_law_own", "_law_times", "_law_due", "_law_turn", "_law_part"]) (sc := defScope (topS 32)) (by decide +kernel))))
local macro_rules | `(tactic| exists "const") => `(tactic| first
  | refine de_gv (by assumption) ?_)
local macro_rules | `(tactic| exists "user") => `(tactic| first
  | ((with_reducible refine isCall "_law_taken" ?_); refine de_clL (by assumption) (by assumption) 1 rfl ?_)
  | ((with_reducible refine isCall "_law_map" ?_); refine de_clL (by assumption) (by assumption) 1 rfl ?_)
  | ((with_reducible refine isCall "_law_word" ?_); refine de_clL (by assumption) (by assumption) 1 rfl ?_)
  | refine de_cl (by assumption) (by assumption) ?_)
local macro_rules | `(tactic| exists "par") => `(tactic| first
  | ((with_reducible refine isPar "_law_size" "_law_other" ?_); first | refine ds_par 2 3 ?_ | refine ds_tupS [2, 3] ?_)
  | ((with_reducible refine isPar "_law_told" "_law_later" ?_); first | refine ds_par 4 5 ?_ | refine ds_tupS [4, 5] ?_)
  | ((with_reducible refine isPar "_law_times" "_law_due" ?_); first | refine ds_par 9 10 ?_ | refine ds_tupS [9, 10] ?_))
theorem sc_law : FnScope ["_law_script", "_law_row", "_law_size", "_law_other", "_law_told", "_law_later", "_law_word_here", "_law_both", "_law_own", "_law_times", "_law_due", "_law_turn", "_law_part"] ["_law_script"] (defScope (topS 32)) := ⟨rfl, rfl, rfl, by decide +kernel, rfl, by decide +kernel, by decide +kernel⟩
theorem map_ok {ws : List (List Nat)} {n own most : Int} (h1 : (ws.length : Int) = n) (h2 : 1 ≤ n) (h3 : n ≤ 6) (h4 : own ≤ 6) (h5 : most ≤ 40) (h : ∀ u ∈ ws, WordIn own 1 most u) : MapOk ws :=
  ⟨by omega, by omega, fun u hu => ⟨by have := (h u hu).1; omega, by have := (h u hu).2.1; omega, fun c hc => mem_let.mpr ⟨((h u hu).2.2 c hc).1, by have := ((h u hu).2.2 c hc).2; omega⟩⟩⟩
theorem get_img {ws : List (List Nat)} {z : Nat} (h : 97 ≤ z ∧ z < 97 + ws.length) : ws.getD (z - 97) [] ∈ ws := by
  rw [List.getD_eq_getElem?_getD, List.getElem?_eq_getElem (show z - 97 < ws.length by omega)]
  exact List.getElem_mem _
theorem img_len {ws : List (List Nat)} {M : Nat} : ∀ {w : List Nat}, Of ws.length w → (∀ u ∈ ws, 1 ≤ u.length ∧ u.length ≤ M) → w.length ≤ (imgW ws w).length ∧ (imgW ws w).length ≤ w.length * M
  | [], _, _ => ⟨Nat.le_refl _, Nat.zero_le _⟩
  | z :: w, h, hu => by
    obtain ⟨h1, h2⟩ := img_len (w := w) (fun c hc => h c (List.mem_cons_of_mem _ hc)) hu
    have h3 := hu _ (get_img (h z List.mem_cons_self))
    unfold imgW at h1 h2 ⊢
    rw [List.flatMap_cons, List.length_append, List.length_cons, Nat.add_mul, Nat.one_mul]
    omega
theorem img_comp {told later : List (List Nat)} : ∀ {w : List Nat}, Of told.length w → imgW (told.map (imgW later)) w = imgW later (imgW told w)
  | [], _ => rfl
  | z :: w, h => by
    have ih := img_comp (later := later) (w := w) fun c hc => h c (List.mem_cons_of_mem _ hc)
    have hz := h z List.mem_cons_self
    have hl : z - 97 < told.length := by omega
    unfold imgW at ih ⊢
    rw [List.flatMap_cons, List.flatMap_cons, List.flatMap_append, ih]
    congr 1
    rw [List.getD_eq_getElem?_getD, List.getD_eq_getElem?_getD, List.getElem?_map, List.getElem?_eq_getElem hl]
    rfl
theorem it_len {ws : List (List Nat)} {w : List Nat} {M : Nat} (h : Of ws.length w) (hi : Inner ws ws.length) (hu : ∀ u ∈ ws, 1 ≤ u.length ∧ u.length ≤ M) : ∀ i : Nat, Of ws.length (itW ws i w) ∧ (itW ws i w).length ≤ w.length * M ^ i
  | 0 => ⟨h, by show w.length ≤ _; rw [Nat.pow_zero, Nat.mul_one]; exact Nat.le_refl _⟩
  | i + 1 => by
    obtain ⟨h1, h2⟩ := it_len h hi hu i
    refine ⟨img_of h1 hi, ?_⟩
    have h3 := (img_len h1 hu).2
    have h4 := Nat.mul_le_mul_right M h2
    rw [Nat.mul_assoc, ← Nat.pow_succ] at h4
    exact Nat.le_trans h3 h4
theorem ok_law {f : Addr} {fd : FuncData} {k : Nat} (F : FunD K "law" "law" (defArgs (topS 32)) (defBody (topS 32)) (defScope (topS 32)) [] [] f fd) (b_range : mg "range" = none) (b_tuple : mg "tuple" = none) (C__law_taken : Cl P w K mg base k "_law_taken" [] takenS) (C__law_map : Cl P w K mg base k "_law_map" [] mapS) (C__law_word : Cl P w K mg base k "_law_word" [] wordS) (C__law_image : Cl P w K mg base k "_law_image" [] lawImageS) (C__law_alike : Cl P w K mg base k "_law_alike" [] (alikeS 1)) (C_image : Cl P w K mg base k "image" [] imageS) (C_composed : Cl P w K mg base k "composed" [] composedS) (C_iterated : Cl P w K mg base k "iterated" [] iteratedS) :
    DFn P w K mg base (k + 1) f fd ["_law_script"] lawS := by
  refine dfn F sc_law ?_ ?_
  · rintro y ds P' PE ⟨ns, rfl, rfl, _⟩
    rfl
  · rintro cdv A outer s H E hr y ds P' PE ⟨ns, rfl, rfl, hl, q⟩
    have nd := sc_law.nd
    show DSs _ _ [some (.sh (.scr ns)), none, none, none, none, none, none, none, none, none, none, none, none] _ _
    exists "dw"
    have r0 : IsRow [.scr ns, .int 0, .int 4425, .int 0] := ⟨ns, 0, 4425, 0, rfl, by omega⟩
    refine taken_go r0 (by omega) (by omega) fun r1 a hr1 a1 a2 => ?_
    exists "dw"
    refine taken_go hr1 (by omega) (by omega) fun r2 c hr2 c1 c2 => ?_
    exists "dw"
    refine map_go hr2 ⟨by omega, by omega, by omega, by omega, by omega, by omega⟩ fun r3 told hr3 t1 t2 => ?_
    exists "dw"
    refine map_go hr3 ⟨by omega, by omega, by omega, by omega, by omega, by omega⟩ fun r4 later hr4 l1 l2 => ?_
    exists "dw"
    refine word_go hr4 ⟨by omega, by omega, by omega, by omega, by omega⟩ fun r5 w hr5 hw => ?_
    have w1 : w.length ≤ 12 := by have := hw.2.1; omega
    have w2 : Of told.length w := fun z hz => by have := hw.2.2 z hz; omega
    have t3 : MapOk told := map_ok t1 (by omega) (by omega) (by omega) (by omega) t2
    have l3 : MapOk later := map_ok l1 (by omega) (by omega) (by omega) (by omega) l2
    have t4 : Inner told later.length := fun u hu z hz => by have := (t2 u hu).2.2 z hz; omega
    have l4 : Inner later 6 := fun u hu z hz => by have := (l2 u hu).2.2 z hz; omega
    have t5 : ∀ u ∈ told, 1 ≤ u.length ∧ u.length ≤ 4 := fun u hu => by have := (t2 u hu).1; have := (t2 u hu).2.1; omega
    have l5 : ∀ u ∈ later, 1 ≤ u.length ∧ u.length ≤ 4 := fun u hu => by have := (l2 u hu).1; have := (l2 u hu).2.1; omega
    have i1 := img_len w2 t5
    have i2 : Of later.length (imgW told w) := img_of w2 t4
    have i3 := img_len i2 l5
    have b5 : ∀ u ∈ told.map (imgW later), 1 ≤ u.length ∧ u.length ≤ 16 := fun u hu => by
      obtain ⟨v, hv, rfl⟩ := List.mem_map.mp hu
      have := img_len (ws := later) (w := v) (t4 v hv) l5
      have := t5 v hv
      omega
    have b3 : MapOk (told.map (imgW later)) := ⟨by rw [List.length_map]; exact t3.1, by rw [List.length_map]; exact t3.2.1, fun u hu => ⟨(b5 u hu).1, by have := (b5 u hu).2; omega, by
      obtain ⟨v, hv, rfl⟩ := List.mem_map.mp hu
      exact Of.letters (n := 6) (img_of (t4 v hv) l4) (by omega)⟩⟩
    have b2 : Of (told.map (imgW later)).length w := by rw [List.length_map]; exact w2
    have b4 := img_len b2 b5
    have e1 : imgW (told.map (imgW later)) w = imgW later (imgW told w) := img_comp w2
    exists "dw"
    refine ⟨rfl, told, w, rfl, t3, by omega, w2, by omega, ?_⟩
    exists "dw"
    refine ⟨rfl, told, w, rfl, t3.2.1, by omega, w2, by omega, ?_⟩
    exists "dw"
    refine ⟨rfl, _, rfl, ok_str, ?_⟩
    exists "dw"
    refine ⟨rfl, told, later, rfl, t3, l3, t4, b3, ?_⟩
    exists "dw"
    refine di_tup ?_
    exists "dw"
    refine comp_map (ys := told) (g := D.str) (fun u => .str (imgW later u)) (by have := t3.2.1; omega) ?_ ?_
    · intro u hu b
      have hu1 := t5 u hu
      have hu2 := img_len (ws := later) (w := u) (t4 u hu) l5
      exists "dw"
      intro b2
      exists "dw"
      refine ⟨rfl, later, u, rfl, l3.2.1, by omega, t4 u hu, by omega, ?_⟩
      exists "dw"
    · exists "dw"
      rw [show (told.map fun u => D.str (imgW later u)) = (told.map (imgW later)).map D.str by rw [List.map_map]; rfl]
      refine ⟨rfl, _, rfl, ok_tup (by rw [List.length_map, List.length_map]; have := t3.2.1; omega) (fun x hx => by
        obtain ⟨z, _, rfl⟩ := List.mem_map.mp hx
        exact ok_str), ?_⟩
      exists "dw"
      refine ⟨rfl, told.map (imgW later), w, rfl, b3, by omega, b2, by omega, ?_⟩
      exists "dw"
      refine ⟨rfl, told, w, rfl, t3, by omega, w2, by omega, ?_⟩
      exists "dw"
      refine ⟨rfl, later, imgW told w, rfl, l3, by omega, i2, by omega, ?_⟩
      rw [e1]
      exists "dw"
      rw [dec_self]
      exists "dw"
      refine map_go hr5 ⟨by omega, by omega, by omega, by omega, by omega, by omega⟩ fun r6 own hr6 o1 o2 => ?_
      exists "dw"
      refine taken_go hr6 (by omega) (by omega) fun r7 t hr7 t6 t7 => ?_
      have o3 : MapOk own := map_ok o1 (by omega) (by omega) (by omega) (by omega) o2
      have o4 : Inner own own.length := fun u hu z hz => by have := (o2 u hu).2.2 z hz; omega
      have o5 : ∀ u ∈ own, 1 ≤ u.length ∧ u.length ≤ 2 := fun u hu => by have := (o2 u hu).1; have := (o2 u hu).2.1; omega
      have w3 : Of own.length w := fun z hz => by have := hw.2.2 z hz; omega
      have g1 : ∀ i : Nat, Of own.length (itW own i w) ∧ (itW own i w).length ≤ w.length * 2 ^ i := fun i => it_len w3 o4 o5 i
      have g2 : ∀ i : Nat, i ≤ 6 → (itW own i w).length ≤ 768 := fun i hi => by
        have h1 := (g1 i).2
        have h2 : 2 ^ i ≤ 2 ^ 6 := Nat.pow_le_pow_right (by omega) hi
        have h3 : w.length * 2 ^ i ≤ 12 * 2 ^ 6 := Nat.mul_le_mul w1 h2
        omega
      exists "dw"
      refine ds_for [11] ?_
      exists "dw"
      refine ⟨fun i ρ => ∃ x, ρ = [some (.sh (.scr ns)), some (.own false r7), some (.sh (.int (1 + a))), some (.sh (.int (1 + c))), some (.sh (.tup (told.map .str))), some (.sh (.tup (later.map .str))), some (.sh (.str w)), some (.sh (.tup ((told.map (imgW later)).map .str))), some (.sh (.tup (own.map .str))), some (.sh (.int t)), some (.sh (.str (itW own i w))), x, none], ⟨none, rfl⟩, ?_, ?_⟩
      · rintro i ρ2 d hd ⟨x, rfl⟩
        obtain ⟨hi, rfl⟩ := ups_get hd
        have h1 := g2 i (by omega)
        have h2 := g2 (i + 1) (by omega)
        exists "dw"
        refine ⟨rfl, own, itW own i w, rfl, o3.2.1, by omega, (g1 i).1, by show (itW own (i + 1) w).length ≤ _; omega, ?_⟩
        exists "dw"
        exact ⟨_, rfl⟩
      · rintro ρ2 ⟨x, rfl⟩
        rw [ups_len]
        exists "dw"
        refine ⟨rfl, own, w, t, rfl, o3, o4, by omega, w3, by omega, by omega, fun i hi => by have := g2 i (by omega); omega, ?_⟩
        exists "dw"
        refine ⟨rfl, _, rfl, ok_str, ?_⟩
        exact .inl ⟨rfl, q⟩
end
def dd_is_int : He.DefD := ⟨("is_int", none), "is_int", "is_int", defArgs (topS 10), defBody (topS 10), defScope (topS 10), [], []⟩
def dd_is_in : He.DefD := ⟨("is_in", none), "is_in", "is_in", defArgs (topS 11), defBody (topS 11), defScope (topS 11), [], []⟩
def dd_is_word : He.DefD := ⟨("is_word", none), "is_word", "is_word", defArgs (topS 12), defBody (topS 12), defScope (topS 12), [.int 200], []⟩
def dd_need_word : He.DefD := ⟨("need_word", none), "need_word", "need_word", defArgs (topS 13), defBody (topS 13), defScope (topS 13), [], []⟩
def dd_is_map : He.DefD := ⟨("is_map", none), "is_map", "is_map", defArgs (topS 18), defBody (topS 18), defScope (topS 18), [], []⟩
def dd_need_map : He.DefD := ⟨("need_map", none), "need_map", "need_map", defArgs (topS 19), defBody (topS 19), defScope (topS 19), [], []⟩
def dd_need_inner : He.DefD := ⟨("need_inner", none), "need_inner", "need_inner", defArgs (topS 20), defBody (topS 20), defScope (topS 20), [], []⟩
def dd_need_letters : He.DefD := ⟨("need_letters", none), "need_letters", "need_letters", defArgs (topS 21), defBody (topS 21), defScope (topS 21), [], []⟩
def dd_image_of : He.DefD := ⟨("image_of", none), "image_of", "image_of", defArgs (topS 22), defBody (topS 22), defScope (topS 22), [], []⟩
def dd_image : He.DefD := ⟨("image", none), "image", "image", defArgs (topS 23), defBody (topS 23), defScope (topS 23), [], []⟩
def dd_composed : He.DefD := ⟨("composed", none), "composed", "composed", defArgs (topS 24), defBody (topS 24), defScope (topS 24), [], []⟩
def dd_iterated : He.DefD := ⟨("iterated", none), "iterated", "iterated", defArgs (topS 25), defBody (topS 25), defScope (topS 25), [], []⟩
def dd__law_taken : He.DefD := ⟨("_law_taken", none), "_law_taken", "_law_taken", defArgs (topS 27), defBody (topS 27), defScope (topS 27), [], []⟩
def dd__law_alike : He.DefD := ⟨("_law_alike", none), "_law_alike", "_law_alike", defArgs (topS 28), defBody (topS 28), defScope (topS 28), [], []⟩
def dd__law_word : He.DefD := ⟨("_law_word", none), "_law_word", "_law_word", defArgs (topS 29), defBody (topS 29), defScope (topS 29), [], []⟩
def dd__law_image : He.DefD := ⟨("_law_image", none), "_law_image", "_law_image", defArgs (topS 30), defBody (topS 30), defScope (topS 30), [], []⟩
def dd__law_map : He.DefD := ⟨("_law_map", none), "_law_map", "_law_map", defArgs (topS 31), defBody (topS 31), defScope (topS 31), [], []⟩
def dd_law : He.DefD := ⟨("law", none), "law", "law", defArgs (topS 32), defBody (topS 32), defScope (topS 32), [], []⟩
def fn : List He.DefD := [dd_is_int, dd_is_in, dd_is_word, dd_need_word, dd_is_map, dd_need_map, dd_need_inner, dd_need_letters, dd_image_of, dd_image, dd_composed, dd_iterated, dd__law_taken, dd__law_alike, dd__law_word, dd__law_image, dd__law_map, dd_law]
def fa : List He.Fa := [.glo "is_int", .glo "is_in", .glo "is_word", .glo "need_word", .glo "is_map", .glo "need_map", .glo "need_inner", .glo "need_letters", .glo "image_of", .glo "image", .glo "composed", .glo "iterated", .glo "_law_taken", .glo "_law_alike", .glo "_law_word", .glo "_law_image", .glo "_law_map", .glo "law", .free "ValueError", .free "all", .free "any", .free "bool", .free "int", .free "isinstance", .free "len", .free "list", .free "range", .free "str", .free "tuple", .str "LETTERS" "abcdefghijklmnopqrstuvwxyz", .int "MOST_LENGTH" 200, .int "MOST_SIZE" 6, .int "MOST_IMAGE" 40, .int "MOST_MADE" 20000, .int "MOST_TIMES" 40, .glo "AvoidError", .glo "BadWord", .glo "BadNumber", .glo "TooMany", .glo "BadMap"]
abbrev R : PySem.W.OpenRow := PySem.W.OpenLaw.row PySem.Challenge.rw_avoidwords_k25_whole_images
abbrev hk : PySem.W.Hook := He.hookD 4 fa fn
def ob (s : PySem.W.SharedT) : He.AlD := He.obsDG 4 fa fn (HandSHeadRun.getT s)
theorem ob_eq (s : PySem.W.SharedT) : ob s = hk.obs s.abs := He.obsDG_eq (HandSHeadRun.getT_eq s)
def loose : List Str := (["AvoidError", "BadWord", "BadNumber", "TooMany", "BadMap", "LETTERS", "MOST_LENGTH", "MOST_SIZE", "is_int", "is_in", "is_word", "need_word", "MOST_IMAGE", "MOST_MADE", "MOST_TIMES", "is_map", "need_map", "need_inner", "need_letters", "image_of", "image", "composed", "iterated", "_law_taken", "_law_alike", "_law_word", "_law_image", "_law_map"] : List Str)
set_option maxHeartbeats 0 in
theorem run (w : World) : HandSHeadRun.RunEq R (PySem.W.view R.prog [32]) hk ob 4000 loose w := by
  intro os
  kernel_rfl
theorem ok_all {P : Program} {w : World} {K : PySem.W.Frag} {h : Heap} {mg : Str → Option Value} {f : Addr} (X : K.In h) (G : h.Ns mainGlobals mg) (hfa : mg ("law" : Str) = some (.ref f)) (c : He.SaysD fa fn K) :
    ∃ fd : FuncData, (∀ (s : Shared) (v : Value), BindsTo s fd ⟨[v], []⟩ [("_law_script", v)]) ∧ ∀ base : Heap, K.In base → base.Ns mainGlobals mg → DFn P w K mg base 6 f fd ["_law_script"] lawS := by
  obtain ⟨fd, F⟩ := c.def_ 17 (d := dd_law) rfl
  have e := hfa.symm.trans (He.glo_ok X G (c.fact 17 (f := .glo "law") rfl))
  cases e
  have b := FunD.bindsA (ps := ["_law_script"]) F fun _ _ _ _ _ _ us hl => match us, hl with | [_], _ => rfl
  refine ⟨fd, fun s v => b s [v] rfl, fun base _ _ => ?_⟩
  have b_ValueError := He.free_ok X G (c.fact 18 (f := .free "ValueError") rfl)
  have b_all := He.free_ok X G (c.fact 19 (f := .free "all") rfl)
  have b_any := He.free_ok X G (c.fact 20 (f := .free "any") rfl)
  have b_bool := He.free_ok X G (c.fact 21 (f := .free "bool") rfl)
  have b_int := He.free_ok X G (c.fact 22 (f := .free "int") rfl)
  have b_isinstance := He.free_ok X G (c.fact 23 (f := .free "isinstance") rfl)
  have b_len := He.free_ok X G (c.fact 24 (f := .free "len") rfl)
  have b_list := He.free_ok X G (c.fact 25 (f := .free "list") rfl)
  have b_range := He.free_ok X G (c.fact 26 (f := .free "range") rfl)
  have b_str := He.free_ok X G (c.fact 27 (f := .free "str") rfl)
  have b_tuple := He.free_ok X G (c.fact 28 (f := .free "tuple") rfl)
  have g_LETTERS : GV K mg "LETTERS" (.str LET) := gv_str LET rfl (He.str_ok X G (c.fact 29 (f := .str "LETTERS" "abcdefghijklmnopqrstuvwxyz") rfl))
  have g_MOST_SIZE : GV K mg "MOST_SIZE" (.int 6) := gv_int (He.int_ok X G (c.fact 31 (f := .int "MOST_SIZE" 6) rfl))
  have g_MOST_IMAGE : GV K mg "MOST_IMAGE" (.int 40) := gv_int (He.int_ok X G (c.fact 32 (f := .int "MOST_IMAGE" 40) rfl))
  have g_MOST_TIMES : GV K mg "MOST_TIMES" (.int 40) := gv_int (He.int_ok X G (c.fact 34 (f := .int "MOST_TIMES" 40) rfl))
  have g_MOST_MADE : GV K mg "MOST_MADE" (.int 20000) := gv_int (He.int_ok X G (c.fact 33 (f := .int "MOST_MADE" 20000) rfl))
  obtain ⟨fd_is_int, F_is_int⟩ := c.def_ 0 (d := dd_is_int) rfl
  have m_is_int := He.glo_ok X G (c.fact 0 (f := .glo "is_int") rfl)
  have bd_is_int : Binds K fd_is_int ["value"] [] := FunD.bindsN F_is_int fun _ _ _ _ _ _ us hl => match us, hl with | [_], _ => rfl
  have C_is_int : Cl P w K mg base 1 "is_int" [] isIntS := cl_mk F_is_int (ok_is_int F_is_int b_isinstance b_int b_bool) m_is_int bd_is_int
  obtain ⟨fd_is_in, F_is_in⟩ := c.def_ 1 (d := dd_is_in) rfl
  have m_is_in := He.glo_ok X G (c.fact 1 (f := .glo "is_in") rfl)
  have bd_is_in : Binds K fd_is_in ["value", "least", "most"] [] := FunD.bindsN F_is_in fun _ _ _ _ _ _ us hl => match us, hl with | [_, _, _], _ => rfl
  have C_is_in : Cl P w K mg base 2 "is_in" [] isInS := cl_mk F_is_in (ok_is_in F_is_in (C_is_int.mono (by decide))) m_is_in bd_is_in
  obtain ⟨fd_is_word, F_is_word⟩ := c.def_ 2 (d := dd_is_word) rfl
  have m_is_word := He.glo_ok X G (c.fact 2 (f := .glo "is_word") rfl)
  have D_is_word : DFn P w K mg base 1 _ fd_is_word ["value", "most"] isWordS := ok_is_word F_is_word b_isinstance b_str b_len b_all g_LETTERS
  have C_is_word : Cl P w K mg base 1 "is_word" [] isWordS := cl_mk0 F_is_word D_is_word m_is_word (FunD.binds1 F_is_word 2 1 (by intro z; cases z) rfl fun T kV doc pm an cdv ct us its h1 h2 => match us, h1, its, h2 with | [_, _], _, [_], _ => ⟨_, rfl, rfl⟩)
  have C_is_word_d : Cl P w K mg base 1 "is_word" [.int 200] isWordS := cl_mk1 F_is_word D_is_word m_is_word (FunD.binds1 F_is_word 1 0 (by intro z; cases z) rfl fun T kV doc pm an cdv ct us its h1 h2 => match us, h1, its, h2 with | [_], _, [_], _ => ⟨_, rfl, rfl⟩)
  obtain ⟨fd_need_word, F_need_word⟩ := c.def_ 3 (d := dd_need_word) rfl
  have m_need_word := He.glo_ok X G (c.fact 3 (f := .glo "need_word") rfl)
  have bd_need_word : Binds K fd_need_word ["value"] [] := FunD.bindsN F_need_word fun _ _ _ _ _ _ us hl => match us, hl with | [_], _ => rfl
  have C_need_word : Cl P w K mg base 2 "need_word" [] needWordS := cl_mk F_need_word (ok_need_word F_need_word (C_is_word_d.mono (by decide))) m_need_word bd_need_word
  obtain ⟨fd_is_map, F_is_map⟩ := c.def_ 4 (d := dd_is_map) rfl
  have m_is_map := He.glo_ok X G (c.fact 4 (f := .glo "is_map") rfl)
  have bd_is_map : Binds K fd_is_map ["value"] [] := FunD.bindsN F_is_map fun _ _ _ _ _ _ us hl => match us, hl with | [_], _ => rfl
  have C_is_map : Cl P w K mg base 2 "is_map" [] isMapS := cl_mk F_is_map (ok_is_map F_is_map b_isinstance b_tuple b_len b_all g_MOST_SIZE g_MOST_IMAGE (C_is_word.mono (by decide))) m_is_map bd_is_map
  obtain ⟨fd_need_map, F_need_map⟩ := c.def_ 5 (d := dd_need_map) rfl
  have m_need_map := He.glo_ok X G (c.fact 5 (f := .glo "need_map") rfl)
  have bd_need_map : Binds K fd_need_map ["value"] [] := FunD.bindsN F_need_map fun _ _ _ _ _ _ us hl => match us, hl with | [_], _ => rfl
  have C_need_map : Cl P w K mg base 3 "need_map" [] needMapS := cl_mk F_need_map (ok_need_map F_need_map (C_is_map.mono (by decide))) m_need_map bd_need_map
  obtain ⟨fd_need_inner, F_need_inner⟩ := c.def_ 6 (d := dd_need_inner) rfl
  have m_need_inner := He.glo_ok X G (c.fact 6 (f := .glo "need_inner") rfl)
  have bd_need_inner : Binds K fd_need_inner ["value"] [] := FunD.bindsN F_need_inner fun _ _ _ _ _ _ us hl => match us, hl with | [_], _ => rfl
  have C_need_inner : Cl P w K mg base 4 "need_inner" [] needInnerS := cl_mk F_need_inner (ok_need_inner F_need_inner b_any b_len g_LETTERS (C_need_map.mono (by decide))) m_need_inner bd_need_inner
  obtain ⟨fd_need_letters, F_need_letters⟩ := c.def_ 7 (d := dd_need_letters) rfl
  have m_need_letters := He.glo_ok X G (c.fact 7 (f := .glo "need_letters") rfl)
  have bd_need_letters : Binds K fd_need_letters ["told", "word"] [] := FunD.bindsN F_need_letters fun _ _ _ _ _ _ us hl => match us, hl with | [_, _], _ => rfl
  have C_need_letters : Cl P w K mg base 3 "need_letters" [] needLettersS := cl_mk F_need_letters (ok_need_letters F_need_letters b_any b_len g_LETTERS (C_need_word.mono (by decide))) m_need_letters bd_need_letters
  obtain ⟨fd_image_of, F_image_of⟩ := c.def_ 8 (d := dd_image_of) rfl
  have m_image_of := He.glo_ok X G (c.fact 8 (f := .glo "image_of") rfl)
  have bd_image_of : Binds K fd_image_of ["told", "word"] [] := FunD.bindsN F_image_of fun _ _ _ _ _ _ us hl => match us, hl with | [_, _], _ => rfl
  have C_image_of : Cl P w K mg base 1 "image_of" [] imageOfS := cl_mk F_image_of (ok_image_of F_image_of g_LETTERS) m_image_of bd_image_of
  obtain ⟨fd_image, F_image⟩ := c.def_ 9 (d := dd_image) rfl
  have m_image := He.glo_ok X G (c.fact 9 (f := .glo "image") rfl)
  have bd_image : Binds K fd_image ["told", "word"] [] := FunD.bindsN F_image fun _ _ _ _ _ _ us hl => match us, hl with | [_, _], _ => rfl
  have C_image : Cl P w K mg base 4 "image" [] imageS := cl_mk F_image (ok_image F_image (C_need_map.mono (by decide)) (C_need_letters.mono (by decide)) (C_image_of.mono (by decide))) m_image bd_image
  obtain ⟨fd_composed, F_composed⟩ := c.def_ 10 (d := dd_composed) rfl
  have m_composed := He.glo_ok X G (c.fact 10 (f := .glo "composed") rfl)
  have bd_composed : Binds K fd_composed ["one", "other"] [] := FunD.bindsN F_composed fun _ _ _ _ _ _ us hl => match us, hl with | [_, _], _ => rfl
  have C_composed : Cl P w K mg base 4 "composed" [] composedS := cl_mk F_composed (ok_composed F_composed b_any b_len b_tuple g_LETTERS (C_need_map.mono (by decide)) (C_image_of.mono (by decide))) m_composed bd_composed
  obtain ⟨fd_iterated, F_iterated⟩ := c.def_ 11 (d := dd_iterated) rfl
  have m_iterated := He.glo_ok X G (c.fact 11 (f := .glo "iterated") rfl)
  have bd_iterated : Binds K fd_iterated ["told", "word", "times"] [] := FunD.bindsN F_iterated fun _ _ _ _ _ _ us hl => match us, hl with | [_, _, _], _ => rfl
  have C_iterated : Cl P w K mg base 5 "iterated" [] iteratedS := cl_mk F_iterated (ok_iterated F_iterated b_range b_len g_MOST_TIMES g_MOST_MADE (C_need_inner.mono (by decide)) (C_need_letters.mono (by decide)) (C_is_in.mono (by decide)) (C_image_of.mono (by decide))) m_iterated bd_iterated
  obtain ⟨fd__law_taken, F__law_taken⟩ := c.def_ 12 (d := dd__law_taken) rfl
  have m__law_taken := He.glo_ok X G (c.fact 12 (f := .glo "_law_taken") rfl)
  have bd__law_taken : Binds K fd__law_taken ["_law_row", "_law_many"] [] := FunD.bindsN F__law_taken fun _ _ _ _ _ _ us hl => match us, hl with | [_, _], _ => rfl
  have C__law_taken : Cl P w K mg base 1 "_law_taken" [] takenS := cl_mk F__law_taken (ok__law_taken F__law_taken b_len b_int) m__law_taken bd__law_taken
  obtain ⟨fd__law_word, F__law_word⟩ := c.def_ 14 (d := dd__law_word) rfl
  have m__law_word := He.glo_ok X G (c.fact 14 (f := .glo "_law_word") rfl)
  have bd__law_word : Binds K fd__law_word ["_law_row", "_law_size", "_law_least", "_law_most"] [] := FunD.bindsN F__law_word fun _ _ _ _ _ _ us hl => match us, hl with | [_, _, _, _], _ => rfl
  have C__law_word : Cl P w K mg base 2 "_law_word" [] wordS := cl_mk F__law_word (ok__law_word F__law_word b_range (C__law_taken.mono (by decide))) m__law_word bd__law_word
  obtain ⟨fd__law_image, F__law_image⟩ := c.def_ 15 (d := dd__law_image) rfl
  have m__law_image := He.glo_ok X G (c.fact 15 (f := .glo "_law_image") rfl)
  have bd__law_image : Binds K fd__law_image ["_law_told", "_law_word_here"] [] := FunD.bindsN F__law_image fun _ _ _ _ _ _ us hl => match us, hl with | [_, _], _ => rfl
  have C__law_image : Cl P w K mg base 1 "_law_image" [] lawImageS := cl_mk F__law_image (ok__law_image F__law_image ) m__law_image bd__law_image
  obtain ⟨fd__law_map, F__law_map⟩ := c.def_ 16 (d := dd__law_map) rfl
  have m__law_map := He.glo_ok X G (c.fact 16 (f := .glo "_law_map") rfl)
  have bd__law_map : Binds K fd__law_map ["_law_row", "_law_size", "_law_own", "_law_most"] [] := FunD.bindsN F__law_map fun _ _ _ _ _ _ us hl => match us, hl with | [_, _, _, _], _ => rfl
  have C__law_map : Cl P w K mg base 3 "_law_map" [] mapS := cl_mk F__law_map (ok__law_map F__law_map b_range b_tuple (C__law_word.mono (by decide))) m__law_map bd__law_map
  obtain ⟨fd__law_alike, F__law_alike⟩ := c.def_ 13 (d := dd__law_alike) rfl
  have m__law_alike := He.glo_ok X G (c.fact 13 (f := .glo "_law_alike") rfl)
  have bd__law_alike : Binds K fd__law_alike ["_law_found", "_law_due"] [] := FunD.bindsN F__law_alike fun _ _ _ _ _ _ us hl => match us, hl with | [_, _], _ => rfl
  have C__law_alike0 : Cl P w K mg base 1 "_law_alike" [] (alikeS 0) := cl_mk F__law_alike (ok__law_alike F__law_alike b_isinstance b_tuple b_list b_len b_range b_str b_int b_bool (fun m e => (nomatch e))) m__law_alike bd__law_alike
  have C__law_alike1 : Cl P w K mg base 2 "_law_alike" [] (alikeS 1) := cl_mk F__law_alike (ok__law_alike F__law_alike b_isinstance b_tuple b_list b_len b_range b_str b_int b_bool (fun m e => by cases e; exact C__law_alike0)) m__law_alike bd__law_alike
  have C__law_alike := C__law_alike1
  exact ok_law F b_range b_tuple (C__law_taken.mono (by decide)) (C__law_map.mono (by decide)) (C__law_word.mono (by decide)) (C__law_image.mono (by decide)) (C__law_alike.mono (by decide)) (C_image.mono (by decide)) (C_composed.mono (by decide)) (C_iterated.mono (by decide))
end A
open PySem PySem.W PySem.Calls PyProof.Rows
set_option maxHeartbeats 0 in
theorem PySem.Challenge.cw_avoidwords_k25_whole_images_holds : PySem.Challenge.rw_avoidwords_k25_whole_images.Holds := by
  w_on; o_law
  refine HandSHeadRun.head_any (r := A.R) (q := view A.R.prog [32]) (H := A.hk) (ob := A.ob) (M := 4000) (loose := A.loose) (d := HandSHeadRun.topDef A.R.prog 32) (kwd := []) A.ob_eq (by kernel_rfl) (fun s => by kernel_rfl) A.run (by kernel_rfl) (by kernel_rfl)
    (by kernel_rfl) (by rfl) (by first | assumption | decide +kernel) (by decide +kernel) ⟨rfl, rfl, rfl, rfl, rfl, by decide +kernel⟩ ?hw ?hc
  case hw => w_witness2
  case hc =>
    refine DL.law_end (l := PySem.Challenge.rw_avoidwords_k25_whole_images) (k := 6) (x := "_law_script") rfl (by kernel_rfl) ⟨rfl, by decide, by decide⟩ ?F
    intro w mg fa h Y G hmg0
    obtain ⟨K, KX, c⟩ := Y
    have hmg : mg ("law" : PySem.Str) = some (.ref fa) := by
      rw [← show (HandSHeadRun.topDef A.R.prog 32).name = ("law" : PySem.Str) by kernel_rfl]; exact hmg0
    obtain ⟨fd, hb, hF⟩ := A.ok_all (P := (PySem.Challenge.rw_avoidwords_k25_whole_images).prog) (w := w) KX G hmg c
    exact ⟨K, fd, KX, hb, hF⟩
