import PyProof.Rows.All
import Wide.All
import OpenK.AllK
import Wide.FinOn
import HandS.ForMost
import HandS.IsInst
import HandS.Walk
import HandS.WordsExc
import HandS.ExcIs
import HandS.Style
import HandS.TupAny
import HandS.Evl
import HandS.Wide
import PyProof.StrBlock2
import HandS.Replace
import HandS.Codes
import HandS.TryOnly
import HandS.Small
import HandS.TupMul
import PySem.Challenge.RW_evenhall_k06_paths
set_option Elab.async false
set_option linter.all false
set_option maxRecDepth 100000
set_option maxHeartbeats 2000000
/-! The logical layer: values as trees, mutable objects by number, each construct by one deterministic function. -/
namespace LL
open PySem PySem.Spec PyProof.Rows L2

/-- a value: tuples by what they hold, lists, dicts and instances by their number -/
inductive LV where
  | non | bl (b : Bool) | int (i : Int) | str (s : Str) | ty (n : String)
  | tup (xs : List LV) | ktp (xs : List LV) | ref (n : Nat) | scr (ns : List Int) | cls (a : Addr)
  | exc (c : Nat) (fs : List LV)
/-- what stands at a number -/
inductive LO where
  | lst (xs : List LV)
  | dct (kvs : List (Key × LV))
  | dcT (kvs : List (List Key × LV))
  | ins (c : Nat) (fs : List (Str × LV))
abbrev Sto := List LO
abbrev Sl := List (Option LV)

inductive R where
  | ok (v : LV) (S : Sto)
  | ex (c : Nat) (fs : List LV) (S : Sto)
  | no
@[simp] def R.bind : R → (LV → Sto → R) → R
  | .ok v S, k => k v S
  | .ex c fs S, _ => .ex c fs S
  | .no, _ => .no
/-- several values -/
inductive RL where
  | ok (vs : List LV) (S : Sto)
  | ex (c : Nat) (fs : List LV) (S : Sto)
  | no
@[simp] def RL.bind : RL → (List LV → Sto → R) → R
  | .ok v S, k => k v S
  | .ex c fs S, _ => .ex c fs S
  | .no, _ => .no
/-- a statement -/
inductive RS where
  | nx (ds : Sl) (S : Sto)
  | rt (v : LV) (S : Sto)
  | bk (ds : Sl) (S : Sto)
  | ct (ds : Sl) (S : Sto)
  | ex (c : Nat) (fs : List LV) (ds : Sl) (S : Sto)
  | no
abbrev LE := Sl → Sto → R
abbrev LA := Sl → Sto → RL
abbrev LS := Sl → Sto → RS
abbrev Fn := List LV → Sto → R

/-! ### what represents what -/
mutual
def RV (K : PySem.W.Frag) (m : List Addr) (H : Hp) : LV → V → Prop
  | .non, x => x = .non
  | .bl b, x => x = .bl b
  | .int i, x => x = .int i
  | .str s, x => x = .str s
  | .ty n, x => x = .ty n
  | .tup xs, x => ∃ a vs, x = .ref a ∧ H a = some (.tup vs) ∧ RVs K m H xs vs
  | .ktp xs, x => ∃ a vs, x = .ref a ∧ (∀ H', SqT K H' a vs) ∧ RVs K m H xs vs
  | .ref n, x => ∃ a, x = .ref a ∧ m[n]? = some a
  | .scr ns, x => ∃ a, x = .ref a ∧ ((∃ o, H a = some (.frz o (.lst (ns.map V.int)))) ∨ ∀ H', SqL K H' a (ns.map V.int))
  | .cls a, x => x = .ref a
  | .exc _ _, _ => False
def RVs (K : PySem.W.Frag) (m : List Addr) (H : Hp) : List LV → List V → Prop
  | [], vs => vs = []
  | x :: xs, vs => ∃ v r, vs = v :: r ∧ RV K m H x v ∧ RVs K m H xs r
end
/-- instances' classes by their codes -/
structure Env1 where
  ca : Nat → Addr
def RO (K : PySem.W.Frag) (T : Env1) (m : List Addr) (H : Hp) (a : Addr) : LO → Prop
  | .lst xs => ∃ vs, H a = some (.lst vs) ∧ RVs K m H xs vs
  | .dct kvs => ∃ ws, H a = some (.dK ws) ∧ ws.map (·.1) = kvs.map (·.1) ∧ RVs K m H (kvs.map (·.2)) (ws.map (·.2))
  | .dcT kvs => ∃ ws, H a = some (.dT ws) ∧ ws.map (·.1) = kvs.map (·.1) ∧ RVs K m H (kvs.map (·.2)) (ws.map (·.2))
  | .ins c fs => ∃ dx ws, H a = some (.ins (T.ca c) dx ws) ∧ ws.map (·.1) = fs.map (·.1) ∧ RVs K m H (fs.map (·.2)) (ws.map (·.2))
structure RelS (K : PySem.W.Frag) (T : Env1) (m : List Addr) (S : Sto) (H : Hp) : Prop where
  len : m.length = S.length
  nd : m.Nodup
  ob : ∀ (n : Nat) (a : Addr) (o : LO), m[n]? = some a → S[n]? = some o → RO K T m H a o
/-- what a value leans on stands -/
structure Kp (m : List Addr) (H : Hp) (m' : List Addr) (H' : Hp) : Prop where
  get : ∀ (n : Nat) (a : Addr), m[n]? = some a → m'[n]? = some a
  tup : ∀ a vs, H a = some (.tup vs) → H' a = some (.tup vs)
  frz : ∀ a o u, H a = some (.frz o u) → H' a = some (.frz o u)
structure Ext (m : List Addr) (H : Hp) (m' : List Addr) (H' : Hp) : Prop where
  pre : ∃ t, m' = m ++ t
  fr : ∀ a o, a ∉ m → H a = some o → H' a = some o
  new : ∀ a, a ∈ m' → a ∉ m → H a = none
  tup : ∀ a vs, H a = some (.tup vs) → H' a = some (.tup vs)
  frz : ∀ a o u, H a = some (.frz o u) → H' a = some (.frz o u)

section
variable {K : PySem.W.Frag} {T : Env1} {m m' m1 m2 : List Addr} {H H' H1 H2 : Hp} {S S' S1 : Sto} {v : LV} {x : V}
theorem Ext.refl : Ext m H m H := ⟨⟨[], by simp⟩, fun _ _ _ h => h, fun a h n => absurd h n, fun _ _ h => h, fun _ _ _ h => h⟩
theorem Ext.mem (E : Ext m H m' H') {a : Addr} (h : a ∈ m) : a ∈ m' := by
  obtain ⟨t, rfl⟩ := E.pre
  exact List.mem_append_left _ h
theorem Ext.get (E : Ext m H m' H') {n : Nat} {a : Addr} (h : m[n]? = some a) : m'[n]? = some a := by
  obtain ⟨t, rfl⟩ := E.pre
  have hl : n < m.length := (List.getElem?_eq_some_iff.mp h).1
  rw [List.getElem?_append_left hl]
  exact h
theorem Ext.out (E : Ext m H m' H') {a : Addr} {o : HO} (h : a ∉ m) (ho : H a = some o) : a ∉ m' := fun z => by
  rw [E.new a z h] at ho
  cases ho
theorem Ext.trans (E : Ext m H m1 H1) (F : Ext m1 H1 m2 H2) : Ext m H m2 H2 where
  pre := by
    obtain ⟨t, rfl⟩ := E.pre
    obtain ⟨u, rfl⟩ := F.pre
    exact ⟨t ++ u, by simp⟩
  fr := fun a o h ho => F.fr a o (E.out h ho) (E.fr a o h ho)
  new := fun a h n => by
    by_cases h1 : a ∈ m1
    · exact E.new a h1 n
    · have h2 := F.new a h h1
      cases q : H a with
      | none => rfl
      | some o =>
        rw [E.fr a o n q] at h2
        cases h2
  tup := fun a vs h => F.tup a vs (E.tup a vs h)
  frz := fun a o u h => F.frz a o u (E.frz a o u h)
theorem Ext.kp (E : Ext m H m' H') : Kp m H m' H' := ⟨fun _ _ h => E.get h, E.tup, E.frz⟩
theorem Kp.scr (E : Kp m H m' H') {a : Addr} {vs : List V} (h : (∃ o, H a = some (.frz o (.lst vs))) ∨ ∀ H', SqL K H' a vs) : (∃ o, H' a = some (.frz o (.lst vs))) ∨ ∀ H', SqL K H' a vs := by
  rcases h with ⟨o, h⟩ | h
  · exact .inl ⟨o, E.frz a o _ h⟩
  · exact .inr h
theorem scr_sq {a : Addr} {vs : List V} (h : (∃ o, H a = some (.frz o (.lst vs))) ∨ ∀ H', SqL K H' a vs) : SqL K H a vs := by
  rcases h with ⟨o, h⟩ | h
  · exact .inl (.inr ⟨o, h⟩)
  · exact h H
mutual
theorem RV.kp (E : Kp m H m' H') : ∀ {v : LV} {x : V}, RV K m H v x → RV K m' H' v x
  | .non, _, h => h
  | .bl _, _, h => h
  | .int _, _, h => h
  | .str _, _, h => h
  | .ty _, _, h => h
  | .tup xs, x, h => by
    unfold RV at h ⊢
    obtain ⟨a, vs, e, ht, hs⟩ := h
    exact ⟨a, vs, e, E.tup a vs ht, RVs.kp E hs⟩
  | .ktp xs, x, h => by
    unfold RV at h ⊢
    obtain ⟨a, vs, e, ht, hs⟩ := h
    exact ⟨a, vs, e, ht, RVs.kp E hs⟩
  | .ref n, x, h => by
    unfold RV at h ⊢
    obtain ⟨a, e, hn⟩ := h
    exact ⟨a, e, E.get _ _ hn⟩
  | .scr ns, x, h => by
    unfold RV at h ⊢
    obtain ⟨a, e, h1⟩ := h
    exact ⟨a, e, E.scr h1⟩
  | .cls _, _, h => h
  | .exc _ _, _, h => h
theorem RVs.kp (E : Kp m H m' H') : ∀ {vs : List LV} {xs : List V}, RVs K m H vs xs → RVs K m' H' vs xs
  | [], _, h => h
  | v :: vs, xs, h => by
    unfold RVs at h ⊢
    obtain ⟨y, r, e, h1, h2⟩ := h
    exact ⟨y, r, e, RV.kp E h1, RVs.kp E h2⟩
end
theorem RV.mono (E : Ext m H m' H') (h : RV K m H v x) : RV K m' H' v x := RV.kp E.kp h
theorem RVs.mono {vs : List LV} {xs : List V} (E : Ext m H m' H') (h : RVs K m H vs xs) : RVs K m' H' vs xs := RVs.kp E.kp h
theorem RVs.nil : RVs K m H [] [] := by unfold RVs; rfl
theorem RVs.cons {vs : List LV} {xs : List V} (h : RV K m H v x) (hs : RVs K m H vs xs) : RVs K m H (v :: vs) (x :: xs) := by
  unfold RVs
  exact ⟨x, xs, rfl, h, hs⟩
theorem RVs.len : ∀ {vs : List LV} {xs : List V}, RVs K m H vs xs → vs.length = xs.length
  | [], _, h => by unfold RVs at h; rw [h]; rfl
  | v :: vs, xs, h => by
    unfold RVs at h
    obtain ⟨y, r, rfl, _, h2⟩ := h
    rw [List.length_cons, List.length_cons, RVs.len h2]
theorem RVs.get : ∀ {vs : List LV} {xs : List V} {n : Nat} {v : LV}, RVs K m H vs xs → vs[n]? = some v → ∃ x, xs[n]? = some x ∧ RV K m H v x
  | [], _, _, _, _, e => by simp at e
  | w :: vs, xs, 0, v, h, e => by
    unfold RVs at h
    obtain ⟨y, r, rfl, h1, _⟩ := h
    simp at e
    subst e
    exact ⟨y, rfl, h1⟩
  | w :: vs, xs, n + 1, v, h, e => by
    unfold RVs at h
    obtain ⟨y, r, rfl, _, h2⟩ := h
    obtain ⟨x, q, hx⟩ := RVs.get (n := n) h2 (by simpa using e)
    exact ⟨x, by simpa using q, hx⟩
theorem RVs.getR : ∀ {vs : List LV} {xs : List V} {n : Nat} {x : V}, RVs K m H vs xs → xs[n]? = some x → ∃ v, vs[n]? = some v ∧ RV K m H v x
  | [], _, _, _, h, e => by unfold RVs at h; subst h; simp at e
  | w :: vs, xs, 0, x, h, e => by
    unfold RVs at h
    obtain ⟨y, r, rfl, h1, _⟩ := h
    simp at e
    subst e
    exact ⟨w, rfl, h1⟩
  | w :: vs, xs, n + 1, x, h, e => by
    unfold RVs at h
    obtain ⟨y, r, rfl, _, h2⟩ := h
    obtain ⟨v, q, hv⟩ := RVs.getR (n := n) h2 (by simpa using e)
    exact ⟨v, by simpa using q, hv⟩
theorem RVs.append : ∀ {vs ws : List LV} {xs ys : List V}, RVs K m H vs xs → RVs K m H ws ys → RVs K m H (vs ++ ws) (xs ++ ys)
  | [], _, _, _, h, h' => by unfold RVs at h; subst h; exact h'
  | v :: vs, ws, xs, ys, h, h' => by
    unfold RVs at h
    obtain ⟨y, r, rfl, h1, h2⟩ := h
    exact RVs.cons h1 (RVs.append h2 h')
theorem RVs.drop : ∀ {vs : List LV} {xs : List V} (n : Nat), RVs K m H vs xs → RVs K m H (vs.drop n) (xs.drop n)
  | _, _, 0, h => h
  | [], _, n + 1, h => by unfold RVs at h; subst h; exact RVs.nil
  | v :: vs, xs, n + 1, h => by
    unfold RVs at h
    obtain ⟨y, r, rfl, _, h2⟩ := h
    exact RVs.drop n h2
theorem RVs.take : ∀ {vs : List LV} {xs : List V} (n : Nat), RVs K m H vs xs → RVs K m H (vs.take n) (xs.take n)
  | _, _, 0, h => RVs.nil
  | [], _, n + 1, h => by unfold RVs at h; subst h; exact RVs.nil
  | v :: vs, xs, n + 1, h => by
    unfold RVs at h
    obtain ⟨y, r, rfl, h1, h2⟩ := h
    exact RVs.cons h1 (RVs.take n h2)
theorem RVs.set : ∀ {vs : List LV} {xs : List V} (n : Nat), RVs K m H vs xs → RV K m H v x → RVs K m H (vs.set n v) (xs.set n x)
  | [], _, _, h, _ => by unfold RVs at h; subst h; exact RVs.nil
  | w :: vs, xs, 0, h, hv => by
    unfold RVs at h
    obtain ⟨y, r, rfl, _, h2⟩ := h
    exact RVs.cons hv h2
  | w :: vs, xs, n + 1, h, hv => by
    unfold RVs at h
    obtain ⟨y, r, rfl, h1, h2⟩ := h
    exact RVs.cons h1 (RVs.set n h2 hv)
theorem RO.kp (E : Kp m H m' H') {a : Addr} {o : LO} (e : H' a = H a) (h : RO K T m H a o) : RO K T m' H' a o := by
  cases o with
  | lst xs =>
    obtain ⟨vs, h1, h2⟩ := h
    exact ⟨vs, e.trans h1, h2.kp E⟩
  | dct kvs =>
    obtain ⟨vs, h1, h2, h3⟩ := h
    exact ⟨vs, e.trans h1, h2, h3.kp E⟩
  | dcT kvs =>
    obtain ⟨vs, h1, h2, h3⟩ := h
    exact ⟨vs, e.trans h1, h2, h3.kp E⟩
  | ins c fs =>
    obtain ⟨dx, ws, h1, h2, h3⟩ := h
    exact ⟨dx, ws, e.trans h1, h2, h3.kp E⟩
theorem RO.mono (E : Ext m H m' H') {a : Addr} {o : LO} (e : H' a = H a) (h : RO K T m H a o) : RO K T m' H' a o := RO.kp E.kp e h
/-- what stands at a tracked number is no tuple -/
theorem RelS.there (r : RelS K T m S H) {a : Addr} (h : a ∈ m) : ∃ o, H a = some o ∧ (∀ xs, o ≠ .tup xs) ∧ (∀ b u, o ≠ .frz b u) ∧ (∀ c, o ≠ .own c) := by
  obtain ⟨n, hn⟩ := List.mem_iff_getElem?.mp h
  have hl : n < S.length := by
    rw [← r.len]
    exact (List.getElem?_eq_some_iff.mp hn).1
  have q := r.ob n a S[n] hn (List.getElem?_eq_getElem hl)
  generalize S[n] = o at q
  cases o with
  | lst xs => exact ⟨_, q.choose_spec.1, (fun _ z => nomatch z), (fun _ _ z => nomatch z), (fun _ z => nomatch z)⟩
  | dct xs => exact ⟨_, q.choose_spec.1, (fun _ z => nomatch z), (fun _ _ z => nomatch z), (fun _ z => nomatch z)⟩
  | dcT xs => exact ⟨_, q.choose_spec.1, (fun _ z => nomatch z), (fun _ _ z => nomatch z), (fun _ z => nomatch z)⟩
  | ins c fs =>
    obtain ⟨dx, ws, h1, _⟩ := q
    exact ⟨_, h1, (fun _ z => nomatch z), (fun _ _ z => nomatch z), (fun _ z => nomatch z)⟩
theorem RelS.out (r : RelS K T m S H) {a : Addr} (h : H a = none) : a ∉ m := fun z => by
  obtain ⟨o, q, _⟩ := r.there z
  rw [h] at q
  cases q
/-- a new object that has no number -/
theorem Ext.side {p : Addr} {o : HO} (hp : H p = none) : Ext m H m (upd H p o) where
  pre := ⟨[], by simp⟩
  fr := fun a u _ ha => by rw [upd_ne (ne_of_none ha hp)]; exact ha
  new := fun a h n => absurd h n
  tup := fun a vs h => by
    rw [upd_ne (ne_of_none h hp)]
    exact h
  frz := fun a b u h => by
    rw [upd_ne (ne_of_none h hp)]
    exact h
theorem RelS.side (r : RelS K T m S H) {p : Addr} {o : HO} (hp : H p = none) : RelS K T m S (upd H p o) where
  len := r.len
  nd := r.nd
  ob := fun n a u hn hu => (r.ob n a u hn hu).mono (Ext.side hp) (by
    have : a ≠ p := fun z => r.out hp (z ▸ List.mem_of_getElem? hn)
    rw [upd_ne this])
/-- a new object with a number -/
theorem Ext.alloc (r : RelS K T m S H) {p : Addr} {o : HO} (hp : H p = none) : Ext m H (m ++ [p]) (upd H p o) where
  pre := ⟨[p], rfl⟩
  fr := fun a u _ ha => by rw [upd_ne (ne_of_none ha hp)]; exact ha
  new := fun a h n => by
    rcases List.mem_append.mp h with h | h
    · exact absurd h n
    · rw [List.mem_singleton.mp h]; exact hp
  tup := fun a vs h => (Ext.side (m := m) (o := o) hp).tup a vs h
  frz := fun a b u h => (Ext.side (m := m) (o := o) hp).frz a b u h
theorem RelS.alloc (r : RelS K T m S H) {p : Addr} {o : HO} {lo : LO} (hp : H p = none) (ho : RO K T (m ++ [p]) (upd H p o) p lo) : RelS K T (m ++ [p]) (S ++ [lo]) (upd H p o) where
  len := by simp [r.len]
  nd := by
    rw [List.nodup_append]
    refine ⟨r.nd, by simp, fun a ha b hb z => ?_⟩
    rw [List.mem_singleton.mp hb] at z
    exact r.out hp (z ▸ ha)
  ob := fun n a u hn hu => by
    by_cases h : n < m.length
    · rw [List.getElem?_append_left h] at hn
      rw [List.getElem?_append_left (by rw [← r.len]; exact h)] at hu
      exact (r.ob n a u hn hu).mono (Ext.alloc r hp) (by
        have : a ≠ p := fun z => r.out hp (z ▸ List.mem_of_getElem? hn)
        rw [upd_ne this])
    · rw [List.getElem?_append_right (by omega)] at hn
      rw [List.getElem?_append_right (by rw [← r.len]; omega)] at hu
      have e : n - m.length = 0 := by
        have := (List.getElem?_eq_some_iff.mp hn).1
        simp at this
        exact this
      rw [e] at hn
      rw [← r.len, e] at hu
      simp at hn hu
      subst hn hu
      exact ho
theorem Ext.write (r : RelS K T m S H) {a : Addr} {o : HO} (ha : a ∈ m) : Ext m H m (upd H a o) where
  pre := ⟨[], by simp⟩
  fr := fun b u n hb => by
    have : b ≠ a := fun z => n (by rw [z]; exact ha)
    rw [upd_ne this]; exact hb
  new := fun b h n => absurd h n
  tup := fun b vs h => by
    obtain ⟨q, hq, n1, n2, _⟩ := r.there ha
    have : b ≠ a := fun z => by
      subst z
      rw [hq] at h
      exact n1 _ (Option.some.inj h)
    rw [upd_ne this]
    exact h
  frz := fun b c u h => by
    obtain ⟨q, hq, n1, n2, _⟩ := r.there ha
    have : b ≠ a := fun z => by
      subst z
      rw [hq] at h
      exact n2 _ _ (Option.some.inj h)
    rw [upd_ne this]
    exact h
theorem RelS.write (r : RelS K T m S H) {n : Nat} {a : Addr} {o : HO} {lo : LO} (hn : m[n]? = some a) (ho : RO K T m (upd H a o) a lo) : RelS K T m (S.set n lo) (upd H a o) where
  len := by rw [List.length_set, r.len]
  nd := r.nd
  ob := fun k b u hk hu => by
    by_cases e : k = n
    · subst e
      rw [hn] at hk
      cases hk
      have hl : k < S.length := by
        rw [← r.len]
        exact (List.getElem?_eq_some_iff.mp hn).1
      rw [List.getElem?_set_self hl] at hu
      cases hu
      exact ho
    · rw [List.getElem?_set_ne (Ne.symm e)] at hu
      have hb : b ≠ a := fun z => by
        subst z
        obtain ⟨l1, e1⟩ := List.getElem?_eq_some_iff.mp hk
        obtain ⟨l2, e2⟩ := List.getElem?_eq_some_iff.mp hn
        exact e ((List.getElem_inj r.nd).mp (e1.trans e2.symm))
      exact (r.ob k b u hk hu).mono (Ext.write r (List.mem_of_getElem? hn)) (upd_ne hb)
/-- an object that stands already gets a number -/
theorem RelS.adopt (r : RelS K T m S H) {p : Addr} {lo : LO} (hp : p ∉ m) (ho : RO K T (m ++ [p]) H p lo) : RelS K T (m ++ [p]) (S ++ [lo]) H where
  len := by simp [r.len]
  nd := by
    rw [List.nodup_append]
    refine ⟨r.nd, by simp, fun a ha b hb z => ?_⟩
    rw [List.mem_singleton.mp hb] at z
    exact hp (z ▸ ha)
  ob := fun n a u hn hu => by
    by_cases h : n < m.length
    · rw [List.getElem?_append_left h] at hn
      rw [List.getElem?_append_left (by rw [← r.len]; exact h)] at hu
      exact (r.ob n a u hn hu).kp ⟨fun k b hk => by rw [List.getElem?_append_left (List.getElem?_eq_some_iff.mp hk).1]; exact hk, fun _ _ h => h, fun _ _ _ h => h⟩ rfl
    · rw [List.getElem?_append_right (by omega)] at hn
      rw [List.getElem?_append_right (by rw [← r.len]; omega)] at hu
      have e : n - m.length = 0 := by
        have := (List.getElem?_eq_some_iff.mp hn).1
        simp at this
        exact this
      rw [e] at hn
      rw [← r.len, e] at hu
      simp at hn hu
      subst hn hu
      exact ho
theorem Kp.more {t : List Addr} : Kp m H (m ++ t) H := ⟨fun k b hk => by rw [List.getElem?_append_left (List.getElem?_eq_some_iff.mp hk).1]; exact hk, fun _ _ h => h, fun _ _ _ h => h⟩
theorem RelS.at (r : RelS K T m S H) {n : Nat} {a : Addr} {o : LO} (hn : m[n]? = some a) (hs : S[n]? = some o) : RO K T m H a o := r.ob n a o hn hs
theorem RelS.nil : RelS K T [] [] H := ⟨rfl, List.nodup_nil, fun n a o h => by simp at h⟩
end

/-! ### slots -/
/-- what an exception's name may hold -/
abbrev Xi := Addr → Nat → List LV → Prop
def RVx (K : PySem.W.Frag) (ξ : Xi) (m : List Addr) (H : Hp) : LV → V → Prop
  | .exc c fs, x => ∃ a, x = .ref a ∧ ξ a c fs
  | v, x => RV K m H v x
structure RSl (K : PySem.W.Frag) (ξ : Xi) (m : List Addr) (H : Hp) (ds : Sl) (σ : L2.St) : Prop where
  len : ds.length = σ.length
  at_ : ∀ (i : Nat) (v : LV), ds[i]? = some (some v) → ∃ x, σ[i]? = some (some x) ∧ RVx K ξ m H v x
def isX : LV → Bool
  | .exc _ _ => true
  | _ => false
section
variable {K : PySem.W.Frag} {T : Env1} {ξ : Xi} {m m' m1 m2 : List Addr} {H H' H1 H2 : Hp} {S S' S1 : Sto} {v : LV} {x : V} {ds : Sl} {σ : L2.St}
theorem RVx.of (h : RV K m H v x) : RVx K ξ m H v x := by
  cases v with
  | exc c fs => exact h.elim
  | _ => exact h
theorem RVx.un (h : RVx K ξ m H v x) (n : isX v = false) : RV K m H v x := by
  cases v with
  | exc c fs => cases n
  | _ => exact h
theorem RVx.mono (E : Ext m H m' H') (h : RVx K ξ m H v x) : RVx K ξ m' H' v x := by
  cases v with
  | exc c fs => exact h
  | _ => exact RV.mono E h
theorem RSl.mono (E : Ext m H m' H') (h : RSl K ξ m H ds σ) : RSl K ξ m' H' ds σ := ⟨h.len, fun i v e =>
  let ⟨x, q, r⟩ := h.at_ i v e
  ⟨x, q, r.mono E⟩⟩
theorem RSl.set (h : RSl K ξ m H ds σ) (i : Nat) (r : RVx K ξ m H v x) : RSl K ξ m H (ds.set i (some v)) (σ.set i (some x)) where
  len := by simp [h.len]
  at_ := fun j w e => by
    by_cases hj : j = i
    · subst hj
      by_cases hl : j < ds.length
      · rw [List.getElem?_set_self hl] at e
        cases e
        exact ⟨x, by rw [List.getElem?_set_self (by rw [← h.len]; exact hl)], r⟩
      · rw [List.getElem?_eq_none (by simpa using hl)] at e
        cases e
    · rw [List.getElem?_set_ne (Ne.symm hj)] at e ⊢
      exact h.at_ j w e
theorem RSl.start {vs : List LV} {xs : List V} {N : List Str} (h : RVs K m H vs xs) : RSl K ξ m H (vs.map some ++ List.replicate (N.length - vs.length) none) (L2.start N xs) where
  len := by simp [L2.start, h.len]
  at_ := fun i w e => by
    unfold L2.start
    by_cases hi : i < vs.length
    · rw [List.getElem?_append_left (by simpa using hi), List.getElem?_map] at e
      cases q : vs[i]? with
      | none => rw [q] at e; cases e
      | some u =>
        rw [q] at e
        cases e
        obtain ⟨y, hy, r⟩ := h.get q
        refine ⟨y, ?_, RVx.of r⟩
        rw [List.getElem?_append_left (by rw [List.length_map, ← h.len]; exact hi), List.getElem?_map, hy] <;> rfl
    · rw [List.getElem?_append_right (by simpa using hi), List.getElem?_replicate] at e
      split at e <;> cases e
end

/-! ### what is wanted -/
/-- an exception as the readings have it: its class by its code, its own dict -/
def RX (K : PySem.W.Frag) (T : Env1) (m : List Addr) (H : Hp) (c : Nat) (fs : List LV) (cls : Value) (d : Option Addr) : Prop :=
  cls = .ref (T.ca c) ∧ ((fs = [] ∧ d = none) ∨ ∃ v x dd, fs = [v] ∧ d = some dd ∧ dd ∉ m ∧ H dd = some (.xd [(("currency" : Str), x)]) ∧ RV K m H v x)
def PoE (K : PySem.W.Frag) (T : Env1) (m : List Addr) (H : Hp) (r : R) (Q : VK) (W : XK) : Prop :=
  match r with
  | .ok v S => ∀ m' H' x, Ext m H m' H' → RelS K T m' S H' → RV K m' H' v x → Q x H'
  | .ex c fs S => ∀ m' H' cls d, Ext m H m' H' → RelS K T m' S H' → RX K T m' H' c fs cls d → W cls d H'
  | .no => False
def PoA (K : PySem.W.Frag) (T : Env1) (m : List Addr) (H : Hp) (r : RL) (Q : List V → Hp → Prop) (W : XK) : Prop :=
  match r with
  | .ok vs S => ∀ m' H' xs, Ext m H m' H' → RelS K T m' S H' → RVs K m' H' vs xs → Q xs H'
  | .ex c fs S => ∀ m' H' cls d, Ext m H m' H' → RelS K T m' S H' → RX K T m' H' c fs cls d → W cls d H'
  | .no => False
def PoS (K : PySem.W.Frag) (T : Env1) (ξ : Xi) (m : List Addr) (H : Hp) (r : RS) (D : Ends) (W : WX) : Prop :=
  match r with
  | .nx ds S => ∀ m' H' σ', Ext m H m' H' → RelS K T m' S H' → RSl K ξ m' H' ds σ' → D.nx σ' H'
  | .rt v S => ∀ m' H' x, Ext m H m' H' → RelS K T m' S H' → RV K m' H' v x → D.rt x H'
  | .bk ds S => ∀ m' H' σ', Ext m H m' H' → RelS K T m' S H' → RSl K ξ m' H' ds σ' → D.bk σ' H'
  | .ct ds S => ∀ m' H' σ', Ext m H m' H' → RelS K T m' S H' → RSl K ξ m' H' ds σ' → D.ct σ' H'
  | .ex c fs ds S => ∀ m' H' σ' cls d, Ext m H m' H' → RelS K T m' S H' → RSl K ξ m' H' ds σ' → RX K T m' H' c fs cls d → W cls d σ' H'
  | .no => False
def tL (K : PySem.W.Frag) (T : Env1) (ξ : Xi) (W : WX) (f : LE) : TE := fun σ H Q => ∃ m S ds, RelS K T m S H ∧ RSl K ξ m H ds σ ∧ PoE K T m H (f ds S) Q (fun cls d H' => W cls d σ H')
def tLA (K : PySem.W.Frag) (T : Env1) (ξ : Xi) (W : WX) (f : LA) : TA := fun σ H Q => ∃ m S ds, RelS K T m S H ∧ RSl K ξ m H ds σ ∧ PoA K T m H (f ds S) Q (fun cls d H' => W cls d σ H')
def tLS (K : PySem.W.Frag) (T : Env1) (ξ : Xi) (W : WX) (f : LS) : TS := fun D σ H => ∃ m S ds, RelS K T m S H ∧ RSl K ξ m H ds σ ∧ PoS K T ξ m H (f ds S) D W
/-- a def's promise -/
def spL (K : PySem.W.Frag) (T : Env1) (n : Nat) (g : Fn) : Sp := fun vs H Q E => ∃ m S xs, RelS K T m S H ∧ RVs K m H xs vs ∧ xs.length = n ∧ PoE K T m H (g xs S) Q E

section
variable {K : PySem.W.Frag} {T : Env1} {ξ : Xi} {m m' m1 m2 : List Addr} {H H' H1 H2 : Hp} {S S' S1 : Sto} {v : LV} {x : V} {ds : Sl} {σ : L2.St} {Q : VK} {W : XK} {WS : WX}
theorem PoE.mono {r : R} (E : Ext m H m1 H1) (h : PoE K T m H r Q W) : PoE K T m1 H1 r Q W := by
  cases r with
  | ok v S => exact fun m' H' x E' => h m' H' x (E.trans E')
  | ex c fs S => exact fun m' H' cls d E' => h m' H' cls d (E.trans E')
  | no => exact h
theorem PoA.mono {r : RL} {Q : List V → Hp → Prop} (E : Ext m H m1 H1) (h : PoA K T m H r Q W) : PoA K T m1 H1 r Q W := by
  cases r with
  | ok v S => exact fun m' H' x E' => h m' H' x (E.trans E')
  | ex c fs S => exact fun m' H' cls d E' => h m' H' cls d (E.trans E')
  | no => exact h
theorem PoS.mono {r : RS} {D : Ends} (E : Ext m H m1 H1) (h : PoS K T ξ m H r D WS) : PoS K T ξ m1 H1 r D WS := by
  cases r with
  | nx ds S => exact fun m' H' x E' => h m' H' x (E.trans E')
  | rt ds S => exact fun m' H' x E' => h m' H' x (E.trans E')
  | bk ds S => exact fun m' H' x E' => h m' H' x (E.trans E')
  | ct ds S => exact fun m' H' x E' => h m' H' x (E.trans E')
  | ex c fs ds S => exact fun m' H' σ' cls d E' => h m' H' σ' cls d (E.trans E')
  | no => exact h
/-- a value here and now -/
theorem PoE.here (h : PoE K T m H (.ok v S) Q W) (r : RelS K T m S H) (rv : RV K m H v x) : Q x H := h m H x Ext.refl r rv
/-- THE BIND: what goes on with a value -/
theorem PoE.bindK {r : R} {k : LV → Sto → R} (h : PoE K T m H (r.bind k) Q W) {Q2 : VK}
    (hq : ∀ v S1 m1 H1 x, Ext m H m1 H1 → RelS K T m1 S1 H1 → RV K m1 H1 v x → PoE K T m1 H1 (k v S1) Q W → Q2 x H1) : PoE K T m H r Q2 W := by
  cases r with
  | ok v S1 => exact fun m1 H1 x E r1 rv => hq v S1 m1 H1 x E r1 rv (PoE.mono E h)
  | ex c fs S1 => exact h
  | no => exact h
theorem tL.bind {f : LE} {k : LV → Sto → R} (r : RelS K T m S H) (rs : RSl K ξ m H ds σ) (h : PoE K T m H ((f ds S).bind k) Q (fun cls d H' => WS cls d σ H')) {Q2 : VK}
    (hq : ∀ v S1 m1 H1 x, Ext m H m1 H1 → RelS K T m1 S1 H1 → RSl K ξ m1 H1 ds σ → RV K m1 H1 v x → PoE K T m1 H1 (k v S1) Q (fun cls d H' => WS cls d σ H') → Q2 x H1) : tL K T ξ WS f σ H Q2 :=
  ⟨m, S, ds, r, rs, PoE.bindK h fun v S1 m1 H1 x E r1 rv h1 => hq v S1 m1 H1 x E r1 (rs.mono E) rv h1⟩
theorem tLA.bind {f : LA} {k : List LV → Sto → R} (r : RelS K T m S H) (rs : RSl K ξ m H ds σ) (h : PoE K T m H ((f ds S).bind k) Q (fun cls d H' => WS cls d σ H')) {Q2 : List V → Hp → Prop}
    (hq : ∀ v S1 m1 H1 x, Ext m H m1 H1 → RelS K T m1 S1 H1 → RSl K ξ m1 H1 ds σ → RVs K m1 H1 v x → PoE K T m1 H1 (k v S1) Q (fun cls d H' => WS cls d σ H') → Q2 x H1) : tLA K T ξ WS f σ H Q2 := by
  refine ⟨m, S, ds, r, rs, ?_⟩
  cases e : f ds S with
  | ok v S1 =>
    rw [e] at h
    exact fun m1 H1 x E r1 rv => hq v S1 m1 H1 x E r1 (rs.mono E) rv (PoE.mono E h)
  | ex c fs S1 =>
    rw [e] at h
    exact h
  | no =>
    rw [e] at h
    exact h
end
end LL


set_option Elab.async false
set_option linter.all false
set_option maxRecDepth 100000
set_option maxHeartbeats 2000000
/-! The logical layer: expressions. -/
namespace LL
open PySem PySem.Spec PyProof.Rows L2

section
variable {X : Cx} {T : Env1} {ξ : Xi} {W : WX} {e a b c : Expr} {pos : Pos} {fa fb fc : LE}
theorem pe_imp {t t' : TE} (h : PE X e t) (i : ∀ σ H Q, t' σ H Q → t σ H Q) : PE X e t' := ⟨fun pins s σ H Q I q => h.run pins s σ H Q I (i σ H Q q)⟩
theorem pt_imp {t t' : TT} (h : PT X e t) (i : ∀ σ H Q, t' σ H Q → t σ H Q) : PT X e t' := ⟨fun pins s σ H Q I q => h.run pins s σ H Q I (i σ H Q q)⟩
theorem pw_imp {t t' : TT} (h : PW X e t) (i : ∀ σ H Q, t' σ H Q → t σ H Q) : PW X e t' := ⟨fun wh pins s σ H Q I q => h.run wh pins s σ H Q I (i σ H Q q)⟩
theorem pa_imp {es : List Expr} {t t' : TA} (h : PA X es t) (i : ∀ σ H Q, t' σ H Q → t σ H Q) : PA X es t' := ⟨fun p pins s σ H Q I q => h.run p pins s σ H Q I (i σ H Q q)⟩

/-! ### names, constants -/
def lVar (i : Nat) : LE := fun ds S => match ds[i]? with
  | some (some v) => if isX v = true then .no else .ok v S
  | _ => .no
def lC (v : LV) : LE := fun _ S => .ok v S
theorem pl_var (i : Nat) {x : Str} (hN : X.N[i]? = some x := by rfl) (hv : Vis X.env.scope x := by first | exact Or.inl rfl | exact Or.inr (Or.inl rfl) | exact Or.inr (Or.inr rfl)) (hd : (x == ("__debug__" : Str)) = false := by decide)
    (hcd : (x == ("__classdict__" : Str)) = false := by decide) : PE X (.Name x pos) (tL X.K T ξ W (lVar i)) :=
  pe_imp (pe_var hN hv hd hcd) fun σ H Q ⟨m, S, ds, r, rs, h⟩ => by
    unfold lVar at h
    split at h
    · rename_i v hi
      split at h
      · exact h.elim
      · rename_i nx
        obtain ⟨x, hx, rv⟩ := rs.at_ i v hi
        exact ⟨x, hx, h.here r (rv.un (by simpa using nx))⟩
    · exact h.elim
theorem pl_c {v : LV} {x : V} (h : PE X e (tC x)) (rv : ∀ m H, RV X.K m H v x) : PE X e (tL X.K T ξ W (lC v)) :=
  pe_imp h fun σ H Q ⟨m, S, ds, r, rs, h⟩ => h.here r (rv m H)
theorem pl_int {i : Int} {j} : PE X (.Constant (.int i) j pos) (tL X.K T ξ W (lC (.int i))) := pl_c pe_int fun _ _ => rfl
theorem pl_bl {i : Bool} {j} : PE X (.Constant (.bool i) j pos) (tL X.K T ξ W (lC (.bl i))) := pl_c pe_bl fun _ _ => rfl
theorem pl_non {j} : PE X (.Constant .none j pos) (tL X.K T ξ W (lC .non)) := pl_c pe_non fun _ _ => rfl
theorem pl_str {x : Str} {j} : PE X (.Constant (.str x) j pos) (tL X.K T ξ W (lC (.str x))) := pl_c pe_str fun _ _ => rfl
/-- a module's constant -/
theorem pl_glob {x : Str} {v : LV} {y : V} {u : Value} (hg : Gl X x) (hm : X.mg x = some u) (r : RelV y u) (rv : ∀ m H, RV X.K m H v y) (hd : (x == ("__debug__" : Str)) = false := by decide) : PE X (.Name x pos) (tL X.K T ξ W (lC v)) :=
  pl_c (pe_glob hg hm r hd) rv
/-- a built-in class as a value -/
theorem pl_ty {x : Str} {n : String} (hg : Gl X x) (hm : X.mg x = none) (hv : bootBuiltins x = some (.type n)) (hn : x ≠ "__name__" := by decide) (hd : (x == ("__debug__" : Str)) = false := by decide) : PE X (.Name x pos) (tL X.K T ξ W (lC (.ty n))) :=
  pl_c (pe_bltn (v := .ty n) hg hm hv rfl hn hd) fun _ _ => rfl

/-! ### two operands -/
abbrev Op2 := LV → LV → Sto → R
def OpL (K : PySem.W.Frag) (T : Env1) (r : R2) (o : Op2) : Prop := ∀ m S H v w x y Q W, RelS K T m S H → RV K m H v x → RV K m H w y → PoE K T m H (o v w S) Q W → r x y H Q
def lOp (o : Op2) (fa fb : LE) : LE := fun ds S => (fa ds S).bind fun v S1 => (fb ds S1).bind fun w S2 => o v w S2
theorem tOp_of {r : R2} {o : Op2} (hl : OpL X.K T r o) : ∀ σ H Q, tL X.K T ξ W (lOp o fa fb) σ H Q → tOp r (tL X.K T ξ W fa) (tL X.K T ξ W fb) σ H Q :=
  fun σ H Q ⟨m, S, ds, r0, rs, h⟩ => tL.bind r0 rs h fun v S1 m1 H1 x E r1 rs1 rv h1 => tL.bind r1 rs1 h1 fun w S2 m2 H2 y E2 r2 rs2 rw h2 => hl _ _ _ _ _ _ _ _ _ r2 (rv.mono E2) rw h2
theorem pl_bin {op : Operator} {r : R2} {o : Op2} (ho : OpR X (binaryOp op) r) (hl : OpL X.K T r o) (ha : PE X a (tL X.K T ξ W fa)) (hb : PE X b (tL X.K T ξ W fb)) : PE X (.BinOp a op b pos) (tL X.K T ξ W (lOp o fa fb)) :=
  pe_imp (pe_op ho ha hb) (tOp_of hl)
theorem pl_cmp {op : CmpOp} {r : R2} {o : Op2} (ho : OpR X (compareOp op) r) (hl : OpL X.K T r o) (ha : PE X a (tL X.K T ξ W fa)) (hb : PE X b (tL X.K T ξ W fb)) (hm : behindInMarks op b = false := by first | exact nomark _ | rfl) :
    PE X (.Compare a [op] [b] pos) (tL X.K T ξ W (lOp o fa fb)) := pe_imp (pe_cmpR ho ha hb hm) (tOp_of hl)
theorem tt_cmp {op : CmpOp} {r : R2} {o : Op2} (ho : OpR X (compareOp op) r) (hl : OpL X.K T r o) (ha : PE X a (tL X.K T ξ W fa)) (hb : PE X b (tL X.K T ξ W fb)) (hm : behindInMarks op b = false := by first | exact nomark _ | rfl) :
    PT X (.Compare a [op] [b] pos) (tTest (tL X.K T ξ W (lOp o fa fb))) := pt_imp (pt_cmpR ho ha hb hm) fun σ H Q h => tOp_of hl σ H _ h
/-- a < b < c -/
def chK (r : LV → Sto → R) : LV → Sto → R
  | .bl true, S => r (.bl true) S
  | .bl false, S => .ok (.bl false) S
  | _, _ => .no
def lChain (o o' : Op2) (fa fb fc : LE) : LE := fun ds S => (fa ds S).bind fun v S1 => (fb ds S1).bind fun w S2 => (o v w S2).bind (chK fun _ S3 => (fc ds S3).bind fun u S4 => o' w u S4)
theorem OpL.bindK {K : PySem.W.Frag} {m : List Addr} {S : Sto} {H : Hp} {r : R2} {o : Op2} (hl : OpL K T r o) {v w : LV} {x y : V} {Q : VK} {W : XK} {k : LV → Sto → R} (r0 : RelS K T m S H) (rv : RV K m H v x) (rw : RV K m H w y) (h : PoE K T m H ((o v w S).bind k) Q W) {Q2 : VK}
    (hq : ∀ v S1 m1 H1 x, Ext m H m1 H1 → RelS K T m1 S1 H1 → RV K m1 H1 v x → PoE K T m1 H1 (k v S1) Q W → Q2 x H1) : r x y H Q2 := hl _ _ _ _ _ _ _ _ _ r0 rv rw (PoE.bindK h hq)
theorem tChain_of {r r' : R2} {o o' : Op2} (hl : OpL X.K T r o) (hl' : OpL X.K T r' o') : ∀ σ H Q, tL X.K T ξ W (lChain o o' fa fb fc) σ H Q → tChain r r' (tL X.K T ξ W fa) (tL X.K T ξ W fb) (tL X.K T ξ W fc) σ H Q :=
  fun σ H Q ⟨m, S, ds, r0, rs, h⟩ => tL.bind r0 rs h fun v S1 m1 H1 x E r1 rs1 rv h1 => tL.bind r1 rs1 h1 fun w S2 m2 H2 y E2 r2 rs2 rw h2 => hl.bindK r2 (rv.mono E2) rw h2 fun z S3 m3 H3 zx E3 r3 rz h3 => by
    cases z with
    | bl k =>
      refine ⟨k, rz, ?_⟩
      cases k with
      | true =>
        show tL X.K T ξ W fc σ H3 _
        exact tL.bind r3 (rs2.mono E3) h3 fun u S4 m4 H4 ux E4 r4 rs4 ru h4 => hl' _ _ _ _ _ _ _ _ _ r4 ((rw.mono E3).mono E4) ru h4
      | false => exact h3.here r3 rfl
    | _ => exact h3.elim
theorem pl_chain {op op' : CmpOp} {r r' : R2} {o o' : Op2} (ho : OpR X (compareOp op) r) (hl : OpL X.K T r o) (ho' : OpR X (compareOp op') r') (hl' : OpL X.K T r' o') (ha : PE X a (tL X.K T ξ W fa)) (hb : PE X b (tL X.K T ξ W fb)) (hc : PE X c (tL X.K T ξ W fc))
    (hm : lastMarks [op, op'] [b, c] = false := by with_unfolding_all rfl) : PE X (.Compare a [op, op'] [b, c] pos) (tL X.K T ξ W (lChain o o' fa fb fc)) := pe_imp (pe_chain ho ho' ha hb hc hm) (tChain_of hl hl')
theorem tt_chain {op op' : CmpOp} {r r' : R2} {o o' : Op2} (ho : OpR X (compareOp op) r) (hl : OpL X.K T r o) (ho' : OpR X (compareOp op') r') (hl' : OpL X.K T r' o') (ha : PE X a (tL X.K T ξ W fa)) (hb : PE X b (tL X.K T ξ W fb)) (hc : PE X c (tL X.K T ξ W fc))
    (hm : lastMarks [op, op'] [b, c] = false := by with_unfolding_all rfl) : PT X (.Compare a [op, op'] [b, c] pos) (tTest (tL X.K T ξ W (lChain o o' fa fb fc))) := pt_imp (pt_chain ho ho' ha hb hc hm) fun σ H Q h => tChain_of hl hl' σ H _ h

/-! ### one operand -/
abbrev Op1 := LV → Sto → R
def UnL (K : PySem.W.Frag) (T : Env1) (r : V → Hp → VK → Prop) (o : Op1) : Prop := ∀ m S H v x Q W, RelS K T m S H → RV K m H v x → PoE K T m H (o v S) Q W → r x H Q
def lUn (o : Op1) (fa : LE) : LE := fun ds S => (fa ds S).bind o
theorem pl_un {op : UnaryOp} {r : V → Hp → VK → Prop} {o : Op1} (ho : UnR X (unaryOp op) r) (hl : UnL X.K T r o) (ha : PE X a (tL X.K T ξ W fa)) : PE X (.UnaryOp op a pos) (tL X.K T ξ W (lUn o fa)) :=
  pe_imp (pe_un ho ha) fun σ H Q ⟨m, S, ds, r0, rs, h⟩ => tL.bind r0 rs h fun v S1 m1 H1 x E r1 rs1 rv h1 => hl _ _ _ _ _ _ _ r1 rv h1
def negL : Op1
  | .int i, S => .ok (.int (-i)) S
  | _, _ => .no
theorem ul_neg {K : PySem.W.Frag} : UnL K T (rU fun i => .int (-i)) negL := fun m S H v x Q W r rv h => by
  cases v with
  | int i => exact ⟨i, rv, h.here r rfl⟩
  | _ => exact h.elim
theorem pl_neg (ha : PE X a (tL X.K T ξ W fa)) : PE X (.UnaryOp .USub a pos) (tL X.K T ξ W (lUn negL fa)) := pl_un un_neg ul_neg ha

/-! ### and, or, not, if -/
def andK (r : Sto → R) : LV → Sto → R
  | .bl true, S => r S
  | .bl false, S => .ok (.bl false) S
  | _, _ => .no
def orK (r : Sto → R) : LV → Sto → R
  | .bl true, S => .ok (.bl true) S
  | .bl false, S => r S
  | _, _ => .no
def notK : LV → Sto → R
  | .bl b, S => .ok (.bl !b) S
  | _, _ => .no
def iteK (r r' : Sto → R) : LV → Sto → R
  | .bl true, S => r S
  | .bl false, S => r' S
  | _, _ => .no
def lAnd (fa fb : LE) : LE := fun ds S => (fa ds S).bind (andK fun S1 => fb ds S1)
def lOr (fa fb : LE) : LE := fun ds S => (fa ds S).bind (orK fun S1 => fb ds S1)
def lNot (fa : LE) : LE := fun ds S => (fa ds S).bind notK
def lIte (fc fa fb : LE) : LE := fun ds S => (fc ds S).bind (iteK (fun S1 => fa ds S1) fun S1 => fb ds S1)
variable {rest : List Expr}
theorem pl_one {op} (h : PE X a (tL X.K T ξ W fa)) : PE X (.BoolOp op [a] pos) (tL X.K T ξ W fa) := pe_one h
theorem pl_and (ha : PE X a (tL X.K T ξ W fa)) (hb : PE X (.BoolOp .And (b :: rest) pos) (tL X.K T ξ W fb)) : PE X (.BoolOp .And (a :: b :: rest) pos) (tL X.K T ξ W (lAnd fa fb)) :=
  pe_imp (pe_and ha hb) fun σ H Q ⟨m, S, ds, r0, rs, h⟩ => tL.bind r0 rs h fun v S1 m1 H1 x E r1 rs1 rv h1 => by
    cases v with
    | bl k =>
      refine ⟨k, rv, ?_⟩
      cases k with
      | true => exact ⟨_, _, _, r1, rs1, h1⟩
      | false => exact h1.here r1 rfl
    | _ => exact h1.elim
theorem pl_or (ha : PE X a (tL X.K T ξ W fa)) (hb : PE X (.BoolOp .Or (b :: rest) pos) (tL X.K T ξ W fb)) : PE X (.BoolOp .Or (a :: b :: rest) pos) (tL X.K T ξ W (lOr fa fb)) :=
  pe_imp (pe_or ha hb) fun σ H Q ⟨m, S, ds, r0, rs, h⟩ => tL.bind r0 rs h fun v S1 m1 H1 x E r1 rs1 rv h1 => by
    cases v with
    | bl k =>
      refine ⟨k, rv, ?_⟩
      cases k with
      | true => exact h1.here r1 rfl
      | false => exact ⟨_, _, _, r1, rs1, h1⟩
    | _ => exact h1.elim
theorem pl_not (ha : PE X a (tL X.K T ξ W fa)) : PE X (.UnaryOp .Not a pos) (tL X.K T ξ W (lNot fa)) :=
  pe_imp (pe_not ha) fun σ H Q ⟨m, S, ds, r0, rs, h⟩ => tL.bind r0 rs h fun v S1 m1 H1 x E r1 rs1 rv h1 => by
    cases v with
    | bl k => exact ⟨k, rv, h1.here r1 rfl⟩
    | _ => exact h1.elim
/-- a value that is True or False, as a test -/
theorem tt_val (h : PE X e (tL X.K T ξ W fa)) (he : ∀ whole, isTrue e X.env whole = (do let v ← whole; standAt e.pos; holding [v] (truthy v)) := by intro _; rfl) : PT X e (tTest (tL X.K T ξ W fa)) := pt_val h he
theorem tw_and1 (ha : PT X a (tTest (tL X.K T ξ W fa))) : PW X (.BoolOp .And [a] pos) (tTest (tL X.K T ξ W fa)) := pw_and1 ha
theorem tw_or1 (ha : PT X a (tTest (tL X.K T ξ W fa))) : PW X (.BoolOp .Or [a] pos) (tTest (tL X.K T ξ W fa)) := pw_or1 ha
theorem tw_and (ha : PT X a (tTest (tL X.K T ξ W fa))) (hb : PW X (.BoolOp .And (b :: rest) pos) (tTest (tL X.K T ξ W fb))) : PW X (.BoolOp .And (a :: b :: rest) pos) (tTest (tL X.K T ξ W (lAnd fa fb))) :=
  pw_imp (pw_and ha hb) fun σ H Q ⟨m, S, ds, r0, rs, h⟩ => tL.bind r0 rs h fun v S1 m1 H1 x E r1 rs1 rv h1 => by
    cases v with
    | bl k =>
      refine ⟨k, rv, ?_⟩
      cases k with
      | true => exact ⟨_, _, _, r1, rs1, h1⟩
      | false =>
        obtain ⟨k, e, q⟩ := h1.here r1 rfl
        cases e
        exact q
    | _ => exact h1.elim
theorem tw_or (ha : PT X a (tTest (tL X.K T ξ W fa))) (hb : PW X (.BoolOp .Or (b :: rest) pos) (tTest (tL X.K T ξ W fb))) : PW X (.BoolOp .Or (a :: b :: rest) pos) (tTest (tL X.K T ξ W (lOr fa fb))) :=
  pw_imp (pw_or ha hb) fun σ H Q ⟨m, S, ds, r0, rs, h⟩ => tL.bind r0 rs h fun v S1 m1 H1 x E r1 rs1 rv h1 => by
    cases v with
    | bl k =>
      refine ⟨k, rv, ?_⟩
      cases k with
      | true =>
        obtain ⟨k, e, q⟩ := h1.here r1 rfl
        cases e
        exact q
      | false => exact ⟨_, _, _, r1, rs1, h1⟩
    | _ => exact h1.elim
theorem tt_w (h : PW X e (tTest (tL X.K T ξ W fa))) : PT X e (tTest (tL X.K T ξ W fa)) := h.pt
theorem tt_not (ha : PT X a (tTest (tL X.K T ξ W fa))) : PT X (.UnaryOp .Not a pos) (tTest (tL X.K T ξ W (lNot fa))) :=
  pt_imp (pt_not ha) fun σ H Q ⟨m, S, ds, r0, rs, h⟩ => tL.bind r0 rs h fun v S1 m1 H1 x E r1 rs1 rv h1 => by
    cases v with
    | bl k =>
      obtain ⟨k', e, q⟩ := h1.here r1 rfl
      cases e
      exact ⟨k, rv, q⟩
    | _ => exact h1.elim
theorem pl_ite (hc : PT X c (tTest (tL X.K T ξ W fc))) (ha : PE X a (tL X.K T ξ W fa)) (hb : PE X b (tL X.K T ξ W fb)) : PE X (.IfExp c a b pos) (tL X.K T ξ W (lIte fc fa fb)) :=
  pe_imp (pe_ifExp hc ha hb) fun σ H Q ⟨m, S, ds, r0, rs, h⟩ => tL.bind r0 rs h fun v S1 m1 H1 x E r1 rs1 rv h1 => by
    cases v with
    | bl k =>
      refine ⟨k, rv, ?_⟩
      cases k with
      | true => exact ⟨_, _, _, r1, rs1, h1⟩
      | false => exact ⟨_, _, _, r1, rs1, h1⟩
    | _ => exact h1.elim

/-! ### arguments -/
def lNil : LA := fun _ S => .ok [] S
def consK (v : LV) : RL → RL
  | .ok vs S => .ok (v :: vs) S
  | .ex c fs S => .ex c fs S
  | .no => .no
def lCons (fa : LE) (fr : LA) : LA := fun ds S => match fa ds S with
  | .ok v S1 => consK v (fr ds S1)
  | .ex c fs S1 => .ex c fs S1
  | .no => .no
theorem pl_nil : PA X [] (tLA X.K T ξ W lNil) := pa_imp pa_nil fun σ H Q ⟨m, S, ds, r0, rs, h⟩ => h m H [] Ext.refl r0 RVs.nil
theorem pl_cons {es : List Expr} {fr : LA} (ha : PE X e (tL X.K T ξ W fa)) (hr : PA X es (tLA X.K T ξ W fr)) (hs : starEach (e :: es) X.env = (false, eval e X.env) :: starEach es X.env := by rfl) : PA X (e :: es) (tLA X.K T ξ W (lCons fa fr)) :=
  pa_imp (pa_cons ha hr hs) fun σ H Q ⟨m, S, ds, r0, rs, h⟩ => by
    refine ⟨m, S, ds, r0, rs, ?_⟩
    unfold lCons at h
    cases e : fa ds S with
    | ok v S1 =>
      rw [e] at h
      intro m1 H1 x E r1 rv
      refine ⟨m1, S1, ds, r1, rs.mono E, ?_⟩
      have h1 := PoA.mono E h
      cases e2 : fr ds S1 with
      | ok vs S2 =>
        simp only [e2, consK] at h1
        exact fun m2 H2 xs E2 r2 rv2 => h1 m2 H2 _ E2 r2 (RVs.cons (rv.mono E2) rv2)
      | ex c fs S2 =>
        simp only [e2, consK] at h1
        exact h1
      | no =>
        simp only [e2, consK] at h1
        exact h1
    | ex c fs S1 =>
      rw [e] at h
      exact h
    | no =>
      rw [e] at h
      exact h

/-! ### tuples, lists -/
def small (n : Nat) : Bool := decide (n ≤ 16777216)
theorem small_ok {n : Nat} (h : small n = true) : n ≤ sizeLine := by
  rw [sizeLine_eq]
  exact of_decide_eq_true h
def mkTup (vs : List LV) (S : Sto) : R := if small vs.length = true then .ok (.tup vs) S else .no
def mkLst (vs : List LV) (S : Sto) : R := if small vs.length = true then .ok (.ref S.length) (S ++ [.lst vs]) else .no
def lTup (fa : LA) : LE := fun ds S => (fa ds S).bind mkTup
def lLst (fa : LA) : LE := fun ds S => (fa ds S).bind mkLst
/-- a new tuple; a new list -/
theorem fin_tup {K : PySem.W.Frag} {m : List Addr} {S : Sto} {H : Hp} {vs : List LV} {xs : List V} {Q : VK} {W : XK} (r : RelS K T m S H) (rv : RVs K m H vs xs) (h : PoE K T m H (.ok (.tup vs) S) Q W) : ∀ p, H p = none → Q (.ref p) (upd H p (.tup xs)) := fun p hp => by
  have E : Ext m H m (upd H p (.tup xs)) := Ext.side hp
  refine h m _ _ E (r.side hp) ?_
  unfold RV
  exact ⟨p, xs, rfl, upd_same, rv.mono E⟩
theorem fin_lst {K : PySem.W.Frag} {m : List Addr} {S : Sto} {H : Hp} {vs : List LV} {xs : List V} {Q : VK} {W : XK} (r : RelS K T m S H) (rv : RVs K m H vs xs) (h : PoE K T m H (.ok (.ref S.length) (S ++ [.lst vs])) Q W) : ∀ p, H p = none → Q (.ref p) (upd H p (.lst xs)) := fun p hp => by
  have E : Ext m H (m ++ [p]) (upd H p (.lst xs)) := Ext.alloc r hp
  refine h _ _ _ E (r.alloc hp ⟨xs, upd_same, rv.mono E⟩) ?_
  unfold RV
  exact ⟨p, rfl, by rw [← r.len, List.getElem?_append_right (Nat.le_refl _), Nat.sub_self] <;> rfl⟩
theorem pl_tup {es : List Expr} {fr : LA} {x1} (ha : PA X es (tLA X.K T ξ W fr)) : PE X (.Tuple es x1 pos) (tL X.K T ξ W (lTup fr)) :=
  pe_imp (pe_tup ha) fun σ H Q ⟨m, S, ds, r0, rs, h⟩ => tLA.bind r0 rs h fun vs S1 m1 H1 xs E r1 rs1 rv h1 => by
    unfold mkTup at h1
    split at h1
    · rename_i hz
      exact ⟨by rw [← rv.len]; exact small_ok hz, fin_tup r1 rv h1⟩
    · exact h1.elim
theorem pl_lst {es : List Expr} {fr : LA} (ha : PA X es (tLA X.K T ξ W fr)) : PE X (.List es pos) (tL X.K T ξ W (lLst fr)) :=
  pe_imp (pe_lst ha) fun σ H Q ⟨m, S, ds, r0, rs, h⟩ => tLA.bind r0 rs h fun vs S1 m1 H1 xs E r1 rs1 rv h1 => by
    unfold mkLst at h1
    split at h1
    · rename_i hz
      exact ⟨by rw [← rv.len]; exact small_ok hz, fin_lst r1 rv h1⟩
    · exact h1.elim
end
end LL


set_option Elab.async false
set_option linter.all false
set_option maxRecDepth 100000
set_option maxHeartbeats 2000000
/-! The logical layer: what the operators do. -/
namespace LL
open PySem PySem.Spec PyProof.Rows L2

/-! ### numbers -/
def bigB : Int := 10 ^ 70
def okMul (i j : Int) : Bool := (decide (-(2 ^ 64) < i) && decide (i < 2 ^ 64)) || (decide (-(2 ^ 64) < j) && decide (j < 2 ^ 64)) || (decide (-bigB ≤ i) && decide (i ≤ bigB) && decide (-bigB ≤ j) && decide (j ≤ bigB))
def okDiv (j : Int) : Bool := decide (0 < j) && decide (j ≤ bigB)
def okPow (i j : Int) : Bool := decide (0 ≤ j) && decide (j ≤ 1000000) && decide (i.natAbs < 2 ^ 64)
theorem bigB_lt {i : Int} (h : -bigB ≤ i) (h2 : i ≤ bigB) : i.natAbs < 2 ^ 240 := by
  unfold bigB at h h2
  have e : ((10 : Int) ^ 70).natAbs < 2 ^ 240 := by decide
  have : i.natAbs ≤ ((10 : Int) ^ 70).natAbs := by omega
  omega
section
variable {K : PySem.W.Frag} {T : Env1}
def addL : Op2
  | .int i, .int j, S => .ok (.int (i + j)) S
  | .str a, .str b, S => if small (a.length + b.length) = true then .ok (.str (a ++ b)) S else .no
  | .tup xs, .tup ys, S => if small (xs.length + ys.length) = true then .ok (.tup (xs ++ ys)) S else .no
  | .ref n, .ref k, S => match S[n]?, S[k]? with
    | some (.lst xs), some (.lst ys) => if small (xs.length + ys.length) = true then .ok (.ref S.length) (S ++ [.lst (xs ++ ys)]) else .no
    | _, _ => .no
  | _, _, _ => .no
def rAddU (K : PySem.W.Frag) : R2 := fun x y H Q => (rI0 (fun i j => .int (i + j)) x y H Q ∨ (∃ i j, x = .str i ∧ y = .str j ∧ i.length + j.length ≤ sizeLine ∧ Q (.str (i ++ j)) H)) ∨ (rCatA K x y H Q ∨ rCat x y H Q)
theorem op_addU {X : Cx} : OpR X (binaryOp .Add) (rAddU X.K) := OpR.or (OpR.or op_add op_add_str) (OpR.or op_catA op_cat)
theorem RV.lst {m : List Addr} {S : Sto} {H : Hp} {n : Nat} {x : V} {xs : List LV} (r : RelS K T m S H) (rv : RV K m H (.ref n) x) (e : S[n]? = some (.lst xs)) : ∃ a vs, x = .ref a ∧ m[n]? = some a ∧ H a = some (.lst vs) ∧ RVs K m H xs vs := by
  unfold RV at rv
  obtain ⟨a, ex, hn⟩ := rv
  obtain ⟨vs, h1, h2⟩ := r.at hn e
  exact ⟨a, vs, ex, hn, h1, h2⟩
theorem RV.tupE {m : List Addr} {H : Hp} {x : V} {xs : List LV} (rv : RV K m H (.tup xs) x) : ∃ a vs, x = .ref a ∧ H a = some (.tup vs) ∧ RVs K m H xs vs := by
  unfold RV at rv
  exact rv
theorem RVs.nilE {m : List Addr} {H : Hp} {vs : List V} (h : RVs K m H [] vs) : vs = [] := by
  unfold RVs at h
  exact h
theorem RVs.isNil {m : List Addr} {H : Hp} {xs : List LV} {vs : List V} (h : RVs K m H xs vs) : vs = [] ↔ xs = [] := by
  have e := h.len
  constructor
  · intro z; rw [z] at e; exact List.eq_nil_of_length_eq_zero e
  · intro z; rw [z] at e; exact List.eq_nil_of_length_eq_zero e.symm
theorem ol_add : OpL K T (rAddU K) addL := fun m S H v w x y Q W r rv rw h => by
  unfold addL at h
  split at h
  · exact .inl (.inl ⟨_, _, rv, rw, h.here r rfl⟩)
  · split at h
    · rename_i hz
      exact .inl (.inr ⟨_, _, rv, rw, small_ok hz, h.here r rfl⟩)
    · exact h.elim
  · split at h
    · rename_i xs ys hz
      obtain ⟨a, vs, rfl, ha, hs⟩ := rv.tupE
      obtain ⟨b, ws, rfl, hb, ht⟩ := rw.tupE
      refine .inr (.inl ⟨a, b, vs, ws, rfl, rfl, SqT.of ha, SqT.of hb, by rw [← hs.len, ← ht.len]; exact small_ok hz, fun e => ?_, fun _ e => ?_, fun _ _ => fin_tup r (hs.append ht) h⟩)
      · have : xs = [] := hs.isNil.mp e
        subst this
        exact h.here r (by unfold RV; exact ⟨b, ws, rfl, hb, ht⟩)
      · have : ys = [] := ht.isNil.mp e
        subst this
        exact h.here r (by unfold RV; exact ⟨a, vs, rfl, ha, by rw [List.append_nil]; exact hs⟩)
    · exact h.elim
  · split at h
    · rename_i xs ys e1 e2
      split at h
      · rename_i hz
        obtain ⟨a, vs, rfl, _, ha, hs⟩ := rv.lst r e1
        obtain ⟨b, ws, rfl, _, hb, ht⟩ := rw.lst r e2
        exact .inr (.inr ⟨a, b, vs, ws, rfl, rfl, ha, hb, by rw [← hs.len, ← ht.len]; exact small_ok hz, fin_lst r (hs.append ht) h⟩)
      · exact h.elim
    · exact h.elim
  · exact h.elim
def subL : Op2
  | .int i, .int j, S => .ok (.int (i - j)) S
  | _, _, _ => .no
theorem ol_sub : OpL K T (rI0 fun i j => .int (i - j)) subL := fun m S H v w x y Q W r rv rw h => by
  unfold subL at h
  split at h
  · exact ⟨_, _, rv, rw, h.here r rfl⟩
  · exact h.elim
def okRep (n : Nat) (k : Int) : Bool := decide (-1000 ≤ k) && decide (k ≤ 100000) && decide (n * k.toNat ≤ 100000)
def mulL : Op2
  | .int i, .int j, S => if okMul i j = true then .ok (.int (i * j)) S else .no
  | .str a, .int k, S => if okRep a.length k = true then .ok (.str (Txt.mul a k)) S else .no
  | .ref n, .int k, S => match S[n]? with
    | some (.lst xs) => if okRep xs.length k = true then .ok (.ref S.length) (S ++ [.lst (List.replicate k.toNat xs).flatten]) else .no
    | _ => .no
  | _, _, _ => .no
def rMulU : R2 := fun x y H Q => (rI CMul (fun i j => .int (i * j)) x y H Q ∨ rI CMulW (fun i j => .int (i * j)) x y H Q) ∨ ((∃ a k, x = .str a ∧ y = .int k ∧ MulOk a k ∧ Q (.str (Txt.mul a k)) H) ∨ rRep x y H Q)
theorem op_mul_str {X : Cx} : OpR X (binaryOp .Mult) (fun x y H Q => ∃ a k, x = .str a ∧ y = .int k ∧ MulOk a k ∧ Q (.str (Txt.mul a k)) H) := by
  intro pins s σ H x y v u Q I rx ry h
  obtain ⟨a, k, rfl, rfl, hk, q⟩ := h
  obtain ⟨t, rfl⟩ := rx
  obtain ⟨t', rfl⟩ := ry
  exact SB.mul hk fun t2 k2 => ⟨.str _, H, I.tok _, ⟨_, rfl⟩, q⟩
theorem op_mulU {X : Cx} : OpR X (binaryOp .Mult) rMulU := OpR.or (OpR.or op_mul op_mulW) (OpR.or op_mul_str op_rep)
theorem mulOk_of {a : Str} {k : Int} (h : okRep a.length k = true) : MulOk a k := by
  simp only [okRep, Bool.and_eq_true, decide_eq_true_eq] at h
  obtain ⟨⟨h1, h2⟩, h3⟩ := h
  refine ⟨by rw [Bool.or_eq_false_iff]; exact ⟨decide_eq_false (by omega), decide_eq_false (by omega)⟩, fun h4 h5 => ?_, fun h4 h5 => ?_⟩
  · have hk : 0 < k := by omega
    have e : k = (k.toNat : Int) := by omega
    have hl : (a.length : Int) * k ≤ 100000 := by
      rw [e]
      have h7 : ((a.length * k.toNat : Nat) : Int) ≤ 100000 := Int.ofNat_le.mpr h3
      rw [Int.natCast_mul] at h7
      exact h7
    intro hgt
    have : (2 ^ 63 - 1 : Int) / k < a.length := hgt
    have h6 := Int.lt_mul_of_ediv_lt hk this
    omega
  · unfold Builtin.Str.tooLong
    refine decide_eq_false ?_
    rw [sizeLine_eq]
    omega
theorem ol_mul : OpL K T rMulU mulL := fun m S H v w x y Q W r rv rw h => by
  unfold mulL at h
  split at h
  · rename_i i j
    split at h
    · rename_i hz
      have q := h.here r (x := .int (i * j)) rfl
      simp only [okMul, Bool.or_eq_true, Bool.and_eq_true, decide_eq_true_eq] at hz
      rcases hz with (hz | hz) | hz
      · exact .inl (.inl ⟨i, j, rv, rw, .inl hz, q⟩)
      · exact .inl (.inl ⟨i, j, rv, rw, .inr hz, q⟩)
      · obtain ⟨⟨⟨a1, a2⟩, a3⟩, a4⟩ := hz
        exact .inl (.inr ⟨i, j, rv, rw, wide_mul (bigB_lt a1 a2) (bigB_lt a3 a4) (by decide) (by decide) (by decide), q⟩)
    · exact h.elim
  · split at h
    · rename_i hz
      exact .inr (.inl ⟨_, _, rv, rw, mulOk_of hz, h.here r rfl⟩)
    · exact h.elim
  · split at h
    · rename_i n k _ xs e1
      split at h
      · rename_i hz
        simp only [okRep, Bool.and_eq_true, decide_eq_true_eq] at hz
        obtain ⟨⟨h1, h2⟩, h3⟩ := hz
        obtain ⟨a, vs, rfl, _, ha, hs⟩ := rv.lst r e1
        refine .inr (.inr ⟨a, k, vs, rfl, rw, ha, by omega, by omega, by rw [← hs.len, sizeLine_eq]; omega, ?_⟩)
        refine fin_lst r ?_ h
        generalize k.toNat = j
        induction j with
        | zero => exact RVs.nil
        | succ j ih =>
          rw [List.replicate_succ, List.replicate_succ, List.flatten_cons, List.flatten_cons]
          exact hs.append ih
      · exact h.elim
    · exact h.elim
  · exact h.elim
def divL : Op2
  | .int i, .int j, S => if okDiv j = true then .ok (.int (i / j)) S else .no
  | _, _, _ => .no
theorem ol_div : OpL K T (rI CDivW fun i j => .int (i / j)) divL := fun m S H v w x y Q W r rv rw h => by
  unfold divL at h
  split at h
  · split at h
    · rename_i hz
      simp only [okDiv, Bool.and_eq_true, decide_eq_true_eq] at hz
      exact ⟨_, _, rv, rw, wide_div hz.1 (bigB_lt (by unfold bigB; omega) hz.2) (by decide) (by decide), h.here r rfl⟩
    · exact h.elim
  · exact h.elim
def modL : Op2
  | .int i, .int j, S => if 0 < j then .ok (.int (i % j)) S else .no
  | _, _, _ => .no
theorem ol_mod : OpL K T (rI (fun _ j => 0 < j) fun i j => .int (i % j)) modL := fun m S H v w x y Q W r rv rw h => by
  unfold modL at h
  split at h
  · split at h
    · rename_i hz
      exact ⟨_, _, rv, rw, hz, h.here r rfl⟩
    · exact h.elim
  · exact h.elim
def powL : Op2
  | .int i, .int j, S => if okPow i j = true then .ok (.int (i ^ j.toNat)) S else .no
  | _, _, _ => .no
theorem ol_pow : OpL K T (rI CPow fun i j => .int (i ^ j.toNat)) powL := fun m S H v w x y Q W r rv rw h => by
  unfold powL at h
  split at h
  · split at h
    · rename_i hz
      simp only [okPow, Bool.and_eq_true, decide_eq_true_eq] at hz
      exact ⟨_, _, rv, rw, ⟨hz.1.1, hz.1.2, hz.2⟩, h.here r rfl⟩
    · exact h.elim
  · exact h.elim

/-! ### order -/
def sLt (a b : Str) : Bool := decide (a.cps.toList < b.cps.toList)
def ltL : Op2
  | .int i, .int j, S => .ok (.bl (decide (i < j))) S
  | .str a, .str b, S => .ok (.bl (sLt a b)) S
  | _, _, _ => .no
def leL : Op2
  | .int i, .int j, S => .ok (.bl (decide (i ≤ j))) S
  | .str a, .str b, S => .ok (.bl (!sLt b a)) S
  | _, _, _ => .no
def gtL : Op2
  | .int i, .int j, S => .ok (.bl (decide (j < i))) S
  | .str a, .str b, S => .ok (.bl (sLt b a)) S
  | _, _, _ => .no
def geL : Op2
  | .int i, .int j, S => .ok (.bl (decide (j ≤ i))) S
  | .str a, .str b, S => .ok (.bl (!sLt a b)) S
  | _, _, _ => .no
def rLtU : R2 := fun x y H Q => rI0 (fun i j => .bl (decide (i < j))) x y H Q ∨ ∃ i j, x = .str i ∧ y = .str j ∧ Q (.bl (decide (i.cps.toList < j.cps.toList))) H
def rLeU : R2 := fun x y H Q => rI0 (fun i j => .bl (decide (i ≤ j))) x y H Q ∨ ∃ i j, x = .str i ∧ y = .str j ∧ Q (.bl (!decide (j.cps.toList < i.cps.toList))) H
def rGtU : R2 := fun x y H Q => rI0 (fun i j => .bl (decide (j < i))) x y H Q ∨ ∃ i j, x = .str i ∧ y = .str j ∧ Q (.bl (decide (j.cps.toList < i.cps.toList))) H
def rGeU : R2 := fun x y H Q => rI0 (fun i j => .bl (decide (j ≤ i))) x y H Q ∨ ∃ i j, x = .str i ∧ y = .str j ∧ Q (.bl (!decide (i.cps.toList < j.cps.toList))) H
theorem op_ltU {X : Cx} : OpR X (compareOp .Lt) rLtU := OpR.or op_lt op_lt_str
theorem op_leU {X : Cx} : OpR X (compareOp .LtE) rLeU := OpR.or op_le op_le_str
theorem op_gtU {X : Cx} : OpR X (compareOp .Gt) rGtU := OpR.or op_gt op_gt_str
theorem op_geU {X : Cx} : OpR X (compareOp .GtE) rGeU := OpR.or op_ge op_ge_str
theorem ol_lt : OpL K T rLtU ltL := fun m S H v w x y Q W r rv rw h => by
  unfold ltL at h
  split at h
  · exact .inl ⟨_, _, rv, rw, h.here r rfl⟩
  · exact .inr ⟨_, _, rv, rw, h.here r rfl⟩
  · exact h.elim
theorem ol_le : OpL K T rLeU leL := fun m S H v w x y Q W r rv rw h => by
  unfold leL at h
  split at h
  · exact .inl ⟨_, _, rv, rw, h.here r rfl⟩
  · exact .inr ⟨_, _, rv, rw, h.here r rfl⟩
  · exact h.elim
theorem ol_gt : OpL K T rGtU gtL := fun m S H v w x y Q W r rv rw h => by
  unfold gtL at h
  split at h
  · exact .inl ⟨_, _, rv, rw, h.here r rfl⟩
  · exact .inr ⟨_, _, rv, rw, h.here r rfl⟩
  · exact h.elim
theorem ol_ge : OpL K T rGeU geL := fun m S H v w x y Q W r rv rw h => by
  unfold geL at h
  split at h
  · exact .inl ⟨_, _, rv, rw, h.here r rfl⟩
  · exact .inr ⟨_, _, rv, rw, h.here r rfl⟩
  · exact h.elim

/-! ### == -/
def seqO {α : Type} : List (Option α) → Option (List α)
  | [] => some []
  | none :: _ => none
  | some a :: r => match seqO r with
    | some l => some (a :: l)
    | none => none
/-- a value as data -/
def dat (S : Sto) : Nat → LV → Option PyData
  | _, .non => some .none
  | _, .bl b => some (.bool b)
  | _, .int i => some (.int i)
  | _, .str s => some (.str s)
  | f + 1, .tup xs => match seqO (xs.map (dat S f)) with
    | some ds => some (.tuple ds)
    | none => none
  | _ + 1, .scr ns => some (.list (ns.map .int))
  | f + 1, .ref n => match S[n]? with
    | some (.lst xs) => match seqO (xs.map (dat S f)) with
      | some ds => some (.list ds)
      | none => none
    | _ => none
  | _, _ => none
def eqS : LV → LV → Option Bool
  | .int i, .int j => some (decide (i = j))
  | .str i, .str j => some (decide (i = j))
  | .bl i, .bl j => some (decide (i = j))
  | .non, .non => some true
  | .non, .int _ => some false | .int _, .non => some false | .non, .bl _ => some false | .bl _, .non => some false | .non, .str _ => some false | .str _, .non => some false
  | .int _, .str _ => some false | .str _, .int _ => some false | .bl _, .str _ => some false | .str _, .bl _ => some false
  | _, _ => none
def eqV2 (v w : LV) (S : Sto) : Option Bool := match eqS v w with
  | some b => some b
  | none => match dat S 60 v, dat S 60 w with
    | some d, some e => if (SeqAt.shaped d && SeqAt.shaped e) = true then some (PyData.eqv d e) else none
    | _, _ => none
def eqL : Op2 := fun v w S => match eqV2 v w S with
  | some b => .ok (.bl b) S
  | none => .no
def neL : Op2 := fun v w S => match eqV2 v w S with
  | some b => .ok (.bl !b) S
  | none => .no
theorem Dp.intsAll {H : Hp} : ∀ ns : List Int, DpAll K H (ns.map V.int) (ns.map PyData.int)
  | [] => .nil
  | n :: ns => .cons (.int n) (Dp.intsAll ns)
theorem dp_all {m : List Addr} {S : Sto} {H : Hp} {f : Nat} (ih : ∀ v d x, dat S f v = some d → RV K m H v x → Dp K H x d) : ∀ (vs : List LV) (ds : List PyData) (xs : List V), seqO (vs.map (dat S f)) = some ds → RVs K m H vs xs → DpAll K H xs ds
  | [], ds, xs, e, h => by
    cases e
    rw [h.nilE]
    exact .nil
  | v :: vs, ds, xs, e, h => by
    unfold RVs at h
    obtain ⟨x, r, rfl, h1, h2⟩ := h
    rw [List.map_cons] at e
    cases q : dat S f v with
    | none => rw [q] at e; cases e
    | some d =>
      rw [q] at e
      unfold seqO at e
      split at e
      · rename_i l hl
        cases e
        exact .cons (ih v d x q h1) (dp_all ih vs l r hl h2)
      · cases e
theorem dat_dp {m : List Addr} {S : Sto} {H : Hp} (r : RelS K T m S H) : ∀ (f : Nat) (v : LV) (d : PyData) (x : V), dat S f v = some d → RV K m H v x → Dp K H x d := by
  intro f
  induction f with
  | zero =>
    intro v d x e rv
    cases v with
    | non => cases e; cases (show x = .non from rv); exact .non
    | bl b => cases e; cases (show x = .bl b from rv); exact .bl b
    | int i => cases e; cases (show x = .int i from rv); exact .int i
    | str i => cases e; cases (show x = .str i from rv); exact .str i
    | _ => cases e
  | succ f ih =>
    intro v d x e rv
    cases v with
    | non => cases e; cases (show x = .non from rv); exact .non
    | bl b => cases e; cases (show x = .bl b from rv); exact .bl b
    | int i => cases e; cases (show x = .int i from rv); exact .int i
    | str i => cases e; cases (show x = .str i from rv); exact .str i
    | tup xs =>
      unfold dat at e
      split at e
      · rename_i ds hds
        cases e
        obtain ⟨a, vs, rfl, ht, hs⟩ := rv.tupE
        exact .tup (SqT.of ht) (dp_all ih xs ds vs hds hs)
      · cases e
    | scr ns =>
      cases e
      unfold RV at rv
      obtain ⟨a, rfl, h1⟩ := rv
      exact .lst (scr_sq h1) (Dp.intsAll ns)
    | ref n =>
      unfold dat at e
      split at e
      · rename_i xs hn
        split at e
        · rename_i ds hds
          cases e
          obtain ⟨a, vs, rfl, _, ha, hs⟩ := rv.lst r hn
          exact .lst (SqL.of ha) (dp_all ih xs ds vs hds hs)
        · cases e
      · cases e
    | _ => cases e
theorem eqS_ok {m : List Addr} {H : Hp} {v w : LV} {x y : V} {b : Bool} (e : eqS v w = some b) (rv : RV K m H v x) (rw : RV K m H w y) : scal x y = true ∧ decide (x = y) = b := by
  unfold eqS at e
  split at e <;> first
    | (cases e
       unfold RV at rv rw
       subst rv rw
       exact ⟨rfl, by simp⟩)
    | cases e
def rEqU (K : PySem.W.Frag) : R2 := fun x y H Q => rEq x y H Q ∨ rEqD K x y H Q
def rNeU (K : PySem.W.Frag) : R2 := fun x y H Q => rNe x y H Q ∨ rNeD K x y H Q
theorem op_eqU {X : Cx} {k : Nat} (hr : Room k X.A) : OpR X (compareOp .Eq) (rEqU X.K) := OpR.or op_eq (op_eqD hr.units)
theorem op_neU {X : Cx} {k : Nat} (hr : Room k X.A) : OpR X (compareOp .NotEq) (rNeU X.K) := OpR.or op_ne (op_neD hr.units)
theorem ol_eq : OpL K T (rEqU K) eqL := fun m S H v w x y Q W r rv rw h => by
  unfold eqL at h
  split at h
  · rename_i b hb
    have q := h.here r (x := .bl b) rfl
    unfold eqV2 at hb
    split at hb
    · rename_i b' hs
      cases hb
      obtain ⟨h1, h2⟩ := eqS_ok hs rv rw
      exact .inl ⟨h1, by rw [h2]; exact q⟩
    · split at hb
      · rename_i d e hd he
        split at hb
        · rename_i hz
          cases hb
          rw [Bool.and_eq_true] at hz
          exact .inr ⟨d, e, dat_dp r 60 v d x hd rv, dat_dp r 60 w e y he rw, hz.1, hz.2, q⟩
        · cases hb
      · cases hb
  · exact h.elim
theorem ol_ne : OpL K T (rNeU K) neL := fun m S H v w x y Q W r rv rw h => by
  unfold neL at h
  split at h
  · rename_i b hb
    have q := h.here r (x := .bl !b) rfl
    unfold eqV2 at hb
    split at hb
    · rename_i b' hs
      cases hb
      obtain ⟨h1, h2⟩ := eqS_ok hs rv rw
      exact .inl ⟨h1, by rw [h2]; exact q⟩
    · split at hb
      · rename_i d e hd he
        split at hb
        · rename_i hz
          cases hb
          rw [Bool.and_eq_true] at hz
          exact .inr ⟨d, e, dat_dp r 60 v d x hd rv, dat_dp r 60 w e y he rw, hz.1, hz.2, q⟩
        · cases hb
      · cases hb
  · exact h.elim

/-! ### is, in -/
def isN : LV → Bool
  | .non => true
  | _ => false
theorem isN_ok {m : List Addr} {H : Hp} {v : LV} {x : V} (rv : RV K m H v x) : decide (x = V.non) = isN v := by
  cases v with
  | non => cases (show x = .non from rv); rfl
  | bl b => cases (show x = .bl b from rv); rfl
  | int b => cases (show x = .int b from rv); rfl
  | str b => cases (show x = .str b from rv); rfl
  | ty b => cases (show x = .ty b from rv); rfl
  | cls b => cases (show x = .ref b from rv); rfl
  | tup xs => obtain ⟨a, vs, rfl, _⟩ := rv.tupE; rfl
  | ktp xs => unfold RV at rv; obtain ⟨a, vs, rfl, _⟩ := rv; rfl
  | ref n => unfold RV at rv; obtain ⟨a, rfl, _⟩ := rv; rfl
  | scr n => unfold RV at rv; obtain ⟨a, rfl, _⟩ := rv; rfl
  | exc c fs => exact rv.elim
def isL : Op2
  | v, .non, S => .ok (.bl (isN v)) S
  | .bl a, .bl b, S => .ok (.bl (decide (a = b))) S
  | _, _, _ => .no
def isnotL : Op2
  | v, .non, S => .ok (.bl (!isN v)) S
  | .bl a, .bl b, S => .ok (.bl (!decide (a = b))) S
  | _, _, _ => .no
def rIsN1 : R2 := fun x y H Q => y = .non ∧ Q (.bl (decide (x = .non))) H
def rNotN1 : R2 := fun x y H Q => y = .non ∧ Q (.bl (!decide (x = .non))) H
def rIsU : R2 := fun x y H Q => rIsN1 x y H Q ∨ rIsB x y H Q
def rIsnU : R2 := fun x y H Q => rNotN1 x y H Q ∨ rNotB x y H Q
theorem op_isU {X : Cx} : OpR X (compareOp .Is) rIsU := OpR.or op_isN op_isBl
theorem op_isnU {X : Cx} : OpR X (compareOp .IsNot) rIsnU := OpR.or op_notN op_notBl
theorem ol_is : OpL K T rIsU isL := fun m S H v w x y Q W r rv rw h => by
  unfold isL at h
  split at h
  · exact .inl ⟨rw, by rw [isN_ok rv]; exact h.here r rfl⟩
  · exact .inr ⟨_, _, rv, rw, h.here r rfl⟩
  · exact h.elim
theorem ol_isn : OpL K T rIsnU isnotL := fun m S H v w x y Q W r rv rw h => by
  unfold isnotL at h
  split at h
  · exact .inl ⟨rw, by rw [isN_ok rv]; exact h.here r rfl⟩
  · exact .inr ⟨_, _, rv, rw, h.here r rfl⟩
  · exact h.elim
def flatL : LV → Bool
  | .non => true | .bl _ => true | .int _ => true | .str _ => true
  | _ => false
def fv : LV → V
  | .bl b => .bl b | .int i => .int i | .str s => .str s
  | _ => .non
theorem fv_ok {m : List Addr} {H : Hp} {v : LV} {x : V} (f : flatL v = true) (rv : RV K m H v x) : x = fv v ∧ flatV x = true := by
  cases v with
  | non => cases (show x = .non from rv); exact ⟨rfl, rfl⟩
  | bl b => cases (show x = .bl b from rv); exact ⟨rfl, rfl⟩
  | int b => cases (show x = .int b from rv); exact ⟨rfl, rfl⟩
  | str b => cases (show x = .str b from rv); exact ⟨rfl, rfl⟩
  | _ => cases f
theorem fvs_ok {m : List Addr} {H : Hp} : ∀ {vs : List LV} {xs : List V}, vs.all flatL = true → RVs K m H vs xs → xs = vs.map fv ∧ xs.all flatV = true
  | [], xs, _, h => by rw [h.nilE]; exact ⟨rfl, rfl⟩
  | v :: vs, xs, f, h => by
    unfold RVs at h
    obtain ⟨x, r, rfl, h1, h2⟩ := h
    rw [List.all_cons, Bool.and_eq_true] at f
    obtain ⟨e1, q1⟩ := fv_ok f.1 h1
    obtain ⟨e2, q2⟩ := fvs_ok f.2 h2
    exact ⟨by rw [List.map_cons, e1, e2], by rw [List.all_cons, q1, q2]; rfl⟩
/-- the key that a value is -/
def keyL : LV → Option Key
  | .int i => some (.inl i)
  | .str s => some (.inr s)
  | _ => none
def keysL (vs : List LV) : Option (List Key) := seqO (vs.map keyL)
theorem keyL_ok {m : List Addr} {H : Hp} {v : LV} {x : V} {k : Key} (e : keyL v = some k) (rv : RV K m H v x) : x = kV k := by
  cases v with
  | int i => cases e; exact rv
  | str i => cases e; exact rv
  | _ => cases e
theorem keysL_ok {m : List Addr} {H : Hp} : ∀ {vs : List LV} {xs : List V} {ks : List Key}, keysL vs = some ks → RVs K m H vs xs → xs = ks.map kV
  | [], xs, ks, e, h => by
    cases e
    rw [h.nilE]
    rfl
  | v :: vs, xs, ks, e, h => by
    unfold RVs at h
    obtain ⟨x, r, rfl, h1, h2⟩ := h
    unfold keysL at e
    rw [List.map_cons] at e
    cases q : keyL v with
    | none => rw [q] at e; cases e
    | some k =>
      rw [q] at e
      unfold seqO at e
      split at e
      · rename_i l hl
        cases e
        rw [List.map_cons, keyL_ok q h1, keysL_ok (ks := l) hl h2]
      · cases e
/-- what a dict of values tells of a key -/
def getK {κ : Type} [DecidableEq κ] (kvs : List (κ × LV)) (k : κ) : Option LV := (kvs.find? fun kv => decide (kv.1 = k)).map (·.2)
theorem getK_rel {κ : Type} [DecidableEq κ] {m : List Addr} {H : Hp} : ∀ {kvs : List (κ × LV)} {ws : List (κ × V)} (k : κ), ws.map (·.1) = kvs.map (·.1) → RVs K m H (kvs.map (·.2)) (ws.map (·.2)) →
    (getK kvs k = none ∧ valV ws k = none) ∨ ∃ v x, getK kvs k = some v ∧ valV ws k = some x ∧ RV K m H v x
  | [], ws, k, e, h => by
    have : ws = [] := by simpa using e
    subst this
    exact .inl ⟨rfl, rfl⟩
  | (k1, v) :: kvs, [], k, e, h => by simp at e
  | (k1, v) :: kvs, (k2, x) :: ws, k, e, h => by
    simp only [List.map_cons, List.cons.injEq] at e
    obtain ⟨e1, e2⟩ := e
    subst e1
    simp only [List.map_cons] at h
    unfold RVs at h
    obtain ⟨y, r, q, h1, h2⟩ := h
    simp only [List.cons.injEq] at q
    obtain ⟨rfl, rfl⟩ := q
    by_cases c : k2 = k
    · refine .inr ⟨v, x, ?_, valV_pos c, h1⟩
      unfold getK
      rw [List.find?_cons_of_pos (by simpa using c)]
      rfl
    · rw [valV_neg c]
      have : getK ((k2, v) :: kvs) k = getK kvs k := by
        unfold getK
        rw [List.find?_cons_of_neg (by simpa using c)]
      rw [this]
      exact getK_rel k e2 h2
/-- whether a key is in a dict -/
def inD (v : LV) (S : Sto) (n : Nat) : Option Bool := match S[n]? with
  | some (.dct kvs) => (keyL v).map fun k => (getK kvs k).isSome
  | some (.dcT kvs) => match v with
    | .tup xs => (keysL xs).map fun k => (getK kvs k).isSome
    | _ => none
  | some (.lst xs) => if (flatL v && xs.all flatL) = true then some (inV (fv v) (xs.map fv)) else none
  | _ => none
def inT (a z : Str) : Bool := if a.cps.size = 1 then decide (a.cps.getD 0 0 ∈ z.cps.toList) else !(Builtin.Str.occurrences z a 0 z.length 1).isEmpty
def inO (v w : LV) (S : Sto) : Option Bool := match w with
  | .str z => match v with
    | .str a => some (inT a z)
    | _ => none
  | .tup xs => if (flatL v && xs.all flatL) = true then some (inV (fv v) (xs.map fv)) else none
  | .ktp xs => if (flatL v && xs.all flatL) = true then some (inV (fv v) (xs.map fv)) else none
  | .scr ns => if flatL v = true then some (inV (fv v) (ns.map V.int)) else none
  | .ref n => inD v S n
  | _ => none
def inL : Op2 := fun v w S => match inO v w S with
  | some b => .ok (.bl b) S
  | none => .no
def notinL : Op2 := fun v w S => match inO v w S with
  | some b => .ok (.bl !b) S
  | none => .no
def rInD2 (neg : Bool) : R2 := fun x y H Q => ∃ a ov, y = .ref a ∧ DGet H a x ov ∧ Q (.bl (if neg then !ov.isSome else ov.isSome)) H
theorem op_inD2 {X : Cx} {k : Nat} (hr : Room k X.A) : OpR X (compareOp .In) (rInD2 false) := by
  intro pins s σ H x y v u Q I rx ry h
  obtain ⟨a, ov, rfl, g, q⟩ := h
  obtain rfl : u = Value.ref a := ry
  exact d_in (hu_of hr) I g rx fun s3 I3 => ⟨.bl ov.isSome, H, I3, rfl, q⟩
theorem op_notinD2 {X : Cx} {k : Nat} (hr : Room k X.A) : OpR X (compareOp .NotIn) (rInD2 true) := by
  intro pins s σ H x y v u Q I rx ry h
  obtain ⟨a, ov, rfl, g, q⟩ := h
  obtain rfl : u = Value.ref a := ry
  exact d_notIn (hu_of hr) I g rx fun s3 I3 => ⟨.bl (!ov.isSome), H, I3, rfl, q⟩
def rInU (K : PySem.W.Frag) : R2 := fun x y H Q => ((∃ (c : Nat) (z : Str), x = .str ⟨#[c]⟩ ∧ y = .str z ∧ Q (.bl (decide (c ∈ z.cps.toList))) H) ∨ ∃ i j, x = .str i ∧ y = .str j ∧ Q (.bl (!(Builtin.Str.occurrences j i 0 j.length 1).isEmpty)) H) ∨ (rIn K false x y H Q ∨ rInD2 false x y H Q)
def rNinU (K : PySem.W.Frag) : R2 := fun x y H Q => ((∃ (c : Nat) (z : Str), x = .str ⟨#[c]⟩ ∧ y = .str z ∧ Q (.bl (!decide (c ∈ z.cps.toList))) H) ∨ ∃ i j, x = .str i ∧ y = .str j ∧ Q (.bl (!(!(Builtin.Str.occurrences j i 0 j.length 1).isEmpty))) H) ∨ (rIn K true x y H Q ∨ rInD2 true x y H Q)
theorem op_inU {X : Cx} {k : Nat} (hr : Room k X.A) : OpR X (compareOp .In) (rInU X.K) := OpR.or (OpR.or op_in_sign op_in_str) (OpR.or op_in_seq (op_inD2 hr))
theorem op_ninU {X : Cx} {k : Nat} (hr : Room k X.A) : OpR X (compareOp .NotIn) (rNinU X.K) := OpR.or (OpR.or op_notIn_sign op_notIn_str) (OpR.or op_notIn_seq (op_notinD2 hr))
/-- what the rules ask -/
theorem inO_ok {m : List Addr} {S : Sto} {H : Hp} {v w : LV} {x y : V} {b : Bool} (r : RelS K T m S H) (e : inO v w S = some b) (rv : RV K m H v x) (rw : RV K m H w y) :
    ((∃ (c : Nat) (z : Str), x = .str ⟨#[c]⟩ ∧ y = .str z ∧ decide (c ∈ z.cps.toList) = b) ∨ ∃ i j, x = .str i ∧ y = .str j ∧ (!(Builtin.Str.occurrences j i 0 j.length 1).isEmpty) = b) ∨
    ((∃ p xs, y = .ref p ∧ (SqL K H p xs ∨ SqT K H p xs) ∧ flatV x = true ∧ xs.all flatV = true ∧ inV x xs = b) ∨ ∃ a ov, y = .ref a ∧ DGet H a x ov ∧ ov.isSome = b) := by
  unfold inO at e
  split at e
  · rename_i z
    split at e
    · rename_i a
      cases e
      unfold inT
      split
      · rename_i hc
        refine .inl (.inl ⟨a.cps.getD 0 0, z, ?_, rw, rfl⟩)
        have hx : x = .str a := rv
        rw [hx]
        congr 1
        obtain ⟨l⟩ := a
        obtain ⟨l⟩ := l
        match l, hc with
        | [c], _ => rfl
      · exact .inl (.inr ⟨a, z, rv, rw, rfl⟩)
    · cases e
  · split at e
    · rename_i hz
      cases e
      rw [Bool.and_eq_true] at hz
      obtain ⟨a, vs, rfl, ht, hs⟩ := rw.tupE
      obtain ⟨e1, q1⟩ := fv_ok hz.1 rv
      obtain ⟨e2, q2⟩ := fvs_ok hz.2 hs
      exact .inr (.inl ⟨a, vs, rfl, .inr (SqT.of ht), q1, q2, by rw [e1, e2]⟩)
    · cases e
  · split at e
    · rename_i hz
      cases e
      rw [Bool.and_eq_true] at hz
      unfold RV at rw
      obtain ⟨a, vs, rfl, ht, hs⟩ := rw
      obtain ⟨e1, q1⟩ := fv_ok hz.1 rv
      obtain ⟨e2, q2⟩ := fvs_ok hz.2 hs
      exact .inr (.inl ⟨a, vs, rfl, .inr (ht _), q1, q2, by rw [e1, e2]⟩)
    · cases e
  · split at e
    · rename_i ns hz
      cases e
      unfold RV at rw
      obtain ⟨a, rfl, h1⟩ := rw
      obtain ⟨e1, q1⟩ := fv_ok hz rv
      refine .inr (.inl ⟨a, _, rfl, .inl (scr_sq h1), q1, ?_, by rw [e1]⟩)
      rw [List.all_map]
      exact List.all_eq_true.mpr fun _ _ => rfl
    · cases e
  · rename_i n
    unfold inD at e
    split at e
    · rename_i kvs hn
      cases q : keyL v with
      | none => rw [q] at e; cases e
      | some k =>
        rw [q] at e
        unfold RV at rw
        obtain ⟨a, rfl, hm⟩ := rw
        obtain ⟨ws, h1, h2, h3⟩ := r.at hm hn
        have ex := keyL_ok q rv
        subst ex
        refine .inr (.inr ⟨a, valV ws k, rfl, DGet.k h1, ?_⟩)
        cases e
        show (valV ws k).isSome = (getK kvs k).isSome
        rcases getK_rel k h2 h3 with ⟨g1, g2⟩ | ⟨v', x', g1, g2, _⟩
        · rw [g1, g2]
          rfl
        · rw [g1, g2]
          rfl
    · rename_i kvs hn
      split at e
      · rename_i xs
        cases q : keysL xs with
        | none => rw [q] at e; cases e
        | some k =>
          rw [q] at e
          unfold RV at rw
          obtain ⟨a, rfl, hm⟩ := rw
          obtain ⟨ws, h1, h2, h3⟩ := r.at hm hn
          obtain ⟨c, vs, rfl, ht, hs⟩ := rv.tupE
          have ex := keysL_ok q hs
          subst ex
          refine .inr (.inr ⟨a, valV ws k, rfl, DGet.t h1 ht, ?_⟩)
          cases e
          show (valV ws k).isSome = (getK kvs k).isSome
          rcases getK_rel k h2 h3 with ⟨g1, g2⟩ | ⟨v', x', g1, g2, _⟩
          · rw [g1, g2]
            rfl
          · rw [g1, g2]
            rfl
      · cases e
    · rename_i xs hn
      split at e
      · rename_i hz
        cases e
        rw [Bool.and_eq_true] at hz
        obtain ⟨a, vs, rfl, _, ha, hs⟩ := rw.lst r hn
        obtain ⟨e1, q1⟩ := fv_ok hz.1 rv
        obtain ⟨e2, q2⟩ := fvs_ok hz.2 hs
        exact .inr (.inl ⟨a, vs, rfl, .inl (SqL.of ha), q1, q2, by rw [e1, e2]⟩)
      · cases e
    · cases e
  · cases e
end
end LL
namespace LL
open PySem PySem.Spec PyProof.Rows L2
section
variable {K : PySem.W.Frag} {T : Env1}
theorem ol_in : OpL K T (rInU K) inL := fun m S H v w x y Q W r rv rw h => by
  unfold inL at h
  split at h
  · rename_i b hb
    have q := h.here r (x := .bl b) rfl
    rcases inO_ok r hb rv rw with (⟨c, z, e1, e2, e3⟩ | ⟨i, j, e1, e2, e3⟩) | (⟨p, xs, e1, e2, e3, e4, e5⟩ | ⟨a, ov, e1, e2, e3⟩)
    · exact .inl (.inl ⟨c, z, e1, e2, by rw [e3]; exact q⟩)
    · exact .inl (.inr ⟨i, j, e1, e2, by rw [e3]; exact q⟩)
    · exact .inr (.inl ⟨p, xs, e1, e2, e3, e4, by rw [e5]; exact q⟩)
    · exact .inr (.inr ⟨a, ov, e1, e2, by rw [e3]; exact q⟩)
  · exact h.elim
theorem ol_nin : OpL K T (rNinU K) notinL := fun m S H v w x y Q W r rv rw h => by
  unfold notinL at h
  split at h
  · rename_i b hb
    have q := h.here r (x := .bl !b) rfl
    rcases inO_ok r hb rv rw with (⟨c, z, e1, e2, e3⟩ | ⟨i, j, e1, e2, e3⟩) | (⟨p, xs, e1, e2, e3, e4, e5⟩ | ⟨a, ov, e1, e2, e3⟩)
    · exact .inl (.inl ⟨c, z, e1, e2, by rw [e3]; exact q⟩)
    · exact .inl (.inr ⟨i, j, e1, e2, by rw [e3]; exact q⟩)
    · exact .inr (.inl ⟨p, xs, e1, e2, e3, e4, by rw [e5]; exact q⟩)
    · exact .inr (.inr ⟨a, ov, e1, e2, by rw [e3]; exact q⟩)
  · exact h.elim
end

/-! ### the operators as the text has them -/
section
variable {X : Cx} {T : Env1} {ξ : Xi} {W : WX} {a b : Expr} {pos : Pos} {fa fb : LE}
theorem pl_add (ha : PE X a (tL X.K T ξ W fa)) (hb : PE X b (tL X.K T ξ W fb)) : PE X (.BinOp a .Add b pos) (tL X.K T ξ W (lOp addL fa fb)) := pl_bin op_addU ol_add ha hb
theorem pl_sub (ha : PE X a (tL X.K T ξ W fa)) (hb : PE X b (tL X.K T ξ W fb)) : PE X (.BinOp a .Sub b pos) (tL X.K T ξ W (lOp subL fa fb)) := pl_bin op_sub ol_sub ha hb
theorem pl_mul (ha : PE X a (tL X.K T ξ W fa)) (hb : PE X b (tL X.K T ξ W fb)) : PE X (.BinOp a .Mult b pos) (tL X.K T ξ W (lOp mulL fa fb)) := pl_bin op_mulU ol_mul ha hb
theorem pl_fdiv (ha : PE X a (tL X.K T ξ W fa)) (hb : PE X b (tL X.K T ξ W fb)) : PE X (.BinOp a .FloorDiv b pos) (tL X.K T ξ W (lOp divL fa fb)) := pl_bin op_fdivW ol_div ha hb
theorem pl_mod (ha : PE X a (tL X.K T ξ W fa)) (hb : PE X b (tL X.K T ξ W fb)) : PE X (.BinOp a .Mod b pos) (tL X.K T ξ W (lOp modL fa fb)) := pl_bin op_mod ol_mod ha hb
theorem pl_pow (ha : PE X a (tL X.K T ξ W fa)) (hb : PE X b (tL X.K T ξ W fb)) : PE X (.BinOp a .Pow b pos) (tL X.K T ξ W (lOp powL fa fb)) := pl_bin op_pow ol_pow ha hb
/-- a comparison's rule, its answer's rule -/
structure CmL (X : Cx) (T : Env1) (op : CmpOp) (r : R2) (o : Op2) : Prop where
  op : OpR X (compareOp op) r
  ol : OpL X.K T r o
variable {k : Nat}
theorem c_lt : CmL X T .Lt rLtU ltL := ⟨op_ltU, ol_lt⟩
theorem c_le : CmL X T .LtE rLeU leL := ⟨op_leU, ol_le⟩
theorem c_gt : CmL X T .Gt rGtU gtL := ⟨op_gtU, ol_gt⟩
theorem c_ge : CmL X T .GtE rGeU geL := ⟨op_geU, ol_ge⟩
theorem c_eq (hr : Room k X.A) : CmL X T .Eq (rEqU X.K) eqL := ⟨op_eqU hr, ol_eq⟩
theorem c_ne (hr : Room k X.A) : CmL X T .NotEq (rNeU X.K) neL := ⟨op_neU hr, ol_ne⟩
theorem c_is : CmL X T .Is rIsU isL := ⟨op_isU, ol_is⟩
theorem c_isn : CmL X T .IsNot rIsnU isnotL := ⟨op_isnU, ol_isn⟩
theorem c_in (hr : Room k X.A) : CmL X T .In (rInU X.K) inL := ⟨op_inU hr, ol_in⟩
theorem c_nin (hr : Room k X.A) : CmL X T .NotIn (rNinU X.K) notinL := ⟨op_ninU hr, ol_nin⟩
variable {op op' : CmpOp} {r r' : R2} {o o' : Op2} {c : Expr} {fc : LE}
theorem pl_cp (h : CmL X T op r o) (ha : PE X a (tL X.K T ξ W fa)) (hb : PE X b (tL X.K T ξ W fb)) (hm : behindInMarks op b = false := by first | exact nomark _ | rfl) : PE X (.Compare a [op] [b] pos) (tL X.K T ξ W (lOp o fa fb)) := pl_cmp h.op h.ol ha hb hm
theorem tt_cp (h : CmL X T op r o) (ha : PE X a (tL X.K T ξ W fa)) (hb : PE X b (tL X.K T ξ W fb)) (hm : behindInMarks op b = false := by first | exact nomark _ | rfl) : PT X (.Compare a [op] [b] pos) (tTest (tL X.K T ξ W (lOp o fa fb))) := tt_cmp h.op h.ol ha hb hm
theorem pl_ch (h : CmL X T op r o) (h' : CmL X T op' r' o') (ha : PE X a (tL X.K T ξ W fa)) (hb : PE X b (tL X.K T ξ W fb)) (hc : PE X c (tL X.K T ξ W fc))
    (hm : lastMarks [op, op'] [b, c] = false := by with_unfolding_all rfl) : PE X (.Compare a [op, op'] [b, c] pos) (tL X.K T ξ W (lChain o o' fa fb fc)) := pl_chain h.op h.ol h'.op h'.ol ha hb hc hm
theorem tt_ch (h : CmL X T op r o) (h' : CmL X T op' r' o') (ha : PE X a (tL X.K T ξ W fa)) (hb : PE X b (tL X.K T ξ W fb)) (hc : PE X c (tL X.K T ξ W fc))
    (hm : lastMarks [op, op'] [b, c] = false := by with_unfolding_all rfl) : PT X (.Compare a [op, op'] [b, c] pos) (tTest (tL X.K T ξ W (lChain o o' fa fb fc))) := tt_chain h.op h.ol h'.op h'.ol ha hb hc hm
end
end LL


set_option Elab.async false
set_option linter.all false
set_option maxRecDepth 100000
set_option maxHeartbeats 2000000
/-! The logical layer: subscripts, built-in functions, methods of built-in types, calls. -/
namespace LL
open PySem PySem.Spec PyProof.Rows L2

/-! ### a[i] -/
def okStr (z : Str) : Bool := small z.length
def ixO (v w : LV) (S : Sto) : Option LV := match v with
  | .tup xs => match w with
    | .int j => atI xs j
    | _ => none
  | .ktp xs => match w with
    | .int j => atI xs j
    | _ => none
  | .scr ns => match w with
    | .int j => (atI ns j).map .int
    | _ => none
  | .str z => match w with
    | .int j => if okStr z = true then (atI z.cps.toList j).map fun c => .str ⟨#[c]⟩ else none
    | _ => none
  | .ref n => match S[n]? with
    | some (.lst xs) => match w with
      | .int j => atI xs j
      | _ => none
    | some (.dct kvs) => match keyL w with
      | some k => getK kvs k
      | none => none
    | some (.dcT kvs) => match w with
      | .tup xs => match keysL xs with
        | some k => getK kvs k
        | none => none
      | _ => none
    | _ => none
  | _ => none
def ixL : Op2 := fun v w S => match ixO v w S with
  | some u => .ok u S
  | none => .no
def rDGet : R2 := fun x y H Q => ∃ a v, x = .ref a ∧ DGet H a y (some v) ∧ Q v H
theorem ix_dict {X : Cx} {k : Nat} (hr : Room k X.A) : IxR X rDGet := by
  intro value slice pins s σ H x y v u Q I rx ry h hs
  obtain ⟨a, z, rfl, g, q⟩ := h
  obtain rfl : v = Value.ref a := rx
  exact tail_any (dict_typeIs I g) PySem.F.slot_dict_getitem.lookup (d_getItem (hu_of hr) I g ry fun w' s3 I3 rw' => ⟨z, H, I3, rw', q⟩) hs
def rIxU (K : PySem.W.Frag) : R2 := fun x y H Q => rIx K x y H Q ∨ rDGet x y H Q
theorem ix_U {X : Cx} {k : Nat} (hr : Room k X.A) : IxR X (rIxU X.K) := IxR.or ix_seq (ix_dict hr)
section
variable {K : PySem.W.Frag} {T : Env1}
theorem atI_map {α β : Type} (f : α → β) (xs : List α) (j : Int) : atI (xs.map f) j = (atI xs j).map f := by
  unfold atI
  rw [List.length_map]
  cases ixN xs.length j with
  | none => rfl
  | some n => simp
theorem atI_rel {m : List Addr} {H : Hp} {vs : List LV} {xs : List V} {j : Int} {v : LV} (h : RVs K m H vs xs) (e : atI vs j = some v) : ∃ x, atI xs j = some x ∧ RV K m H v x := by
  unfold atI at e ⊢
  rw [← h.len]
  cases q : ixN vs.length j with
  | none => rw [q] at e; cases e
  | some n =>
    rw [q] at e
    exact h.get e
theorem ol_ix : OpL K T (rIxU K) ixL := fun m S H v w x y Q W r rv rw h => by
  unfold ixL at h
  split at h
  · rename_i u hu
    unfold ixO at hu
    split at hu
    · split at hu
      · obtain ⟨a, vs, rfl, ht, hs⟩ := rv.tupE
        obtain ⟨z, hz, rz⟩ := atI_rel hs hu
        exact .inl (.inr (.inl ⟨a, vs, _, z, rfl, rw, SqT.of ht, hz, h.here r rz⟩))
      · cases hu
    · split at hu
      · unfold RV at rv
        obtain ⟨a, vs, rfl, ht, hs⟩ := rv
        obtain ⟨z, hz, rz⟩ := atI_rel hs hu
        exact .inl (.inr (.inl ⟨a, vs, _, z, rfl, rw, ht _, hz, h.here r rz⟩))
      · cases hu
    · split at hu
      · rename_i ns _ j
        unfold RV at rv
        obtain ⟨a, rfl, h1⟩ := rv
        replace h1 := scr_sq h1
        cases q : atI ns j with
        | none => rw [q] at hu; cases hu
        | some i =>
          rw [q] at hu
          cases hu
          exact .inl (.inl ⟨a, _, _, .int i, rfl, rw, h1, by rw [atI_map, q]; rfl, h.here r rfl⟩)
      · cases hu
    · split at hu
      · rename_i z _ j
        split at hu
        · rename_i hz
          cases q : atI z.cps.toList j with
          | none => rw [q] at hu; cases hu
          | some c =>
            rw [q] at hu
            cases hu
            exact .inl (.inr (.inr ⟨z, _, c, rv, rw, small_ok hz, q, h.here r rfl⟩))
        · cases hu
      · cases hu
    · rename_i n
      split at hu
      · rename_i xs hn
        split at hu
        · obtain ⟨a, vs, rfl, _, ha, hs⟩ := rv.lst r hn
          obtain ⟨z, hz, rz⟩ := atI_rel hs hu
          exact .inl (.inl ⟨a, vs, _, z, rfl, rw, SqL.of ha, hz, h.here r rz⟩)
        · cases hu
      · rename_i kvs hn
        split at hu
        · rename_i k hk
          unfold RV at rv
          obtain ⟨a, rfl, hm⟩ := rv
          obtain ⟨ws, h1, h2, h3⟩ := r.at hm hn
          have ex := keyL_ok hk rw
          subst ex
          rcases getK_rel k h2 h3 with ⟨g1, g2⟩ | ⟨v', x', g1, g2, g3⟩
          · rw [g1] at hu
            cases hu
          · rw [g1] at hu
            cases hu
            exact .inr ⟨a, x', rfl, by rw [← g2]; exact DGet.k h1, h.here r g3⟩
        · cases hu
      · rename_i kvs hn
        split at hu
        · rename_i xs
          split at hu
          · rename_i k hk
            unfold RV at rv
            obtain ⟨a, rfl, hm⟩ := rv
            obtain ⟨ws, h1, h2, h3⟩ := r.at hm hn
            obtain ⟨c, vs, rfl, ht, hs⟩ := rw.tupE
            have ex := keysL_ok hk hs
            subst ex
            rcases getK_rel k h2 h3 with ⟨g1, g2⟩ | ⟨v', x', g1, g2, g3⟩
            · rw [g1] at hu
              cases hu
            · rw [g1] at hu
              cases hu
              exact .inr ⟨a, x', rfl, by rw [← g2]; exact DGet.t h1 ht, h.here r g3⟩
          · cases hu
        · cases hu
      · cases hu
    · cases hu
  · exact h.elim
end
section
variable {X : Cx} {T : Env1} {ξ : Xi} {W : WX} {e a b c : Expr} {pos : Pos} {fa fb fc : LE} {k : Nat}
theorem pl_ix (hr : Room k X.A) (ha : PE X a (tL X.K T ξ W fa)) (hb : PE X b (tL X.K T ξ W fb)) (hs : PlainIx b := by exact fun _ _ => rfl) : PE X (.Subscript a b pos) (tL X.K T ξ W (lOp ixL fa fb)) :=
  pe_imp (pe_ix (ix_U hr) ha hb hs) (tOp_of ol_ix)

/-! ### a[i:j] -/
def intK (k : Int → Sto → R) : LV → Sto → R
  | .int i, S => k i S
  | _, _ => .no
def partK (f : Option LE) (ds : Sl) (S : Sto) (k : Option Int → Sto → R) : R := match f with
  | none => k none S
  | some f => (f ds S).bind (intK fun i S1 => k (some i) S1)
def cutL {α : Type} (xs : List α) (lo hi : Option Int) : List α := (xs.drop (HT.sIx xs.length 0 lo)).take (HT.sIx xs.length xs.length hi - HT.sIx xs.length 0 lo)
def slO (v : LV) (lo hi : Option Int) (S : Sto) : R := match v with
  | .str z => if okStr z = true then .ok (.str (cutS z lo hi)) S else .no
  | .tup xs => .ok (.tup (cutL xs lo hi)) S
  | .ref n => match S[n]? with
    | some (.lst xs) => .ok (.ref S.length) (S ++ [.lst (cutL xs lo hi)])
    | _ => .no
  | .scr ns => .ok (.ref S.length) (S ++ [.lst ((cutL ns lo hi).map .int)])
  | _ => .no
def lSl (fa : LE) (lo hi : Option LE) : LE := fun ds S => (fa ds S).bind fun v S1 => partK lo ds S1 fun l S2 => partK hi ds S2 fun h S3 => slO v l h S3
def tPO (X : Cx) (T : Env1) (ξ : Xi) (W : WX) (f : Option LE) : TO := match f with
  | none => tNoPart
  | some f => tPart (tL X.K T ξ W f)
theorem pl_ponone : PO X none (tPO X T ξ W none) := po_none
theorem pl_po (h : PE X e (tL X.K T ξ W fa)) : PO X (some e) (tPO X T ξ W (some fa)) := po_some h
theorem tPO.bind {f : Option LE} {σ : L2.St} {m : List Addr} {S : Sto} {H : Hp} {ds : Sl} {k : Option Int → Sto → R} {Q : VK} (r : RelS X.K T m S H) (rs : RSl X.K ξ m H ds σ) (h : PoE X.K T m H (partK f ds S k) Q (fun cls d H' => W cls d σ H')) {Q2 : Option Int → Hp → Prop}
    (hq : ∀ o S1 m1 H1, Ext m H m1 H1 → RelS X.K T m1 S1 H1 → RSl X.K ξ m1 H1 ds σ → PoE X.K T m1 H1 (k o S1) Q (fun cls d H' => W cls d σ H') → Q2 o H1) : tPO X T ξ W f σ H Q2 := by
  cases f with
  | none => exact hq none S m H Ext.refl r rs h
  | some f =>
    exact tL.bind r rs h fun v S1 m1 H1 x E r1 rs1 rv h1 => by
      cases v with
      | int i => exact ⟨i, rv, hq (some i) S1 m1 H1 E r1 rs1 h1⟩
      | _ => exact h1.elim
def rSlU (K : PySem.W.Frag) : V → Option Int → Option Int → Hp → VK → Prop := fun x lo hi H Q => (rSlS x lo hi H Q ∨ rSlL K x lo hi H Q) ∨ rSlA K x lo hi H Q
theorem sl_U : SlR X (rSlU X.K) := SlR.or (SlR.or sl_str sl_list) sl_tupA
theorem sIx_whole {n : Nat} {lo hi : Option Int} {α : Type} {xs : List α} (hn : xs.length = n) (h : HT.sIx n 0 lo = 0 ∧ HT.sIx n n hi = n) : cutL xs lo hi = xs := by
  unfold cutL
  rw [hn, h.1, h.2, List.drop_zero, Nat.sub_zero, ← hn, List.take_length]
theorem RVs.ints {K : PySem.W.Frag} {m : List Addr} {H : Hp} : ∀ ns : List Int, RVs K m H (ns.map .int) (ns.map V.int)
  | [] => RVs.nil
  | n :: ns => RVs.cons rfl (RVs.ints ns)
theorem RVs.strs {K : PySem.W.Frag} {m : List Addr} {H : Hp} : ∀ ns : List Str, RVs K m H (ns.map .str) (ns.map V.str)
  | [] => RVs.nil
  | n :: ns => RVs.cons rfl (RVs.strs ns)
theorem slO_ok {m : List Addr} {S : Sto} {H : Hp} {v : LV} {x : V} {lo hi : Option Int} {Q : VK} {W : XK} (r : RelS X.K T m S H) (rv : RV X.K m H v x) (h : PoE X.K T m H (slO v lo hi S) Q W) : rSlU X.K x lo hi H Q := by
  unfold slO at h
  split at h
  · split at h
    · rename_i hz
      exact .inl (.inl ⟨_, rv, small_ok hz, h.here r rfl⟩)
    · exact h.elim
  · rename_i xs
    obtain ⟨a, vs, rfl, ht, hs⟩ := rv.tupE
    refine .inr ⟨a, vs, rfl, SqT.of ht, fun hw => ?_, fun _ => ?_⟩
    · rw [← hs.len] at hw
      rw [sIx_whole rfl hw] at h
      exact h.here r (by unfold RV; exact ⟨a, vs, rfl, ht, hs⟩)
    · refine fin_tup r ?_ h
      unfold cutV cutL
      rw [← hs.len]
      exact (hs.drop _).take _
  · split at h
    · rename_i xs hn
      obtain ⟨a, vs, rfl, _, ha, hs⟩ := rv.lst r hn
      refine .inl (.inr ⟨a, vs, rfl, SqL.of ha, fin_lst r ?_ h⟩)
      unfold cutV cutL
      rw [← hs.len]
      exact (hs.drop _).take _
    · exact h.elim
  · rename_i ns
    unfold RV at rv
    obtain ⟨a, rfl, h1⟩ := rv
    replace h1 := scr_sq h1
    refine .inl (.inr ⟨a, _, rfl, h1, fin_lst r ?_ h⟩)
    have e : cutV (ns.map V.int) lo hi = (cutL ns lo hi).map V.int := by
      unfold cutV cutL
      rw [List.length_map, List.map_take, List.map_drop]
    rw [e]
    exact RVs.ints _
  · exact h.elim
theorem pl_sl {lo hi : Option Expr} {fl fh : Option LE} {p2 : Pos} (ha : PE X a (tL X.K T ξ W fa)) (hl : PO X lo (tPO X T ξ W fl)) (hh : PO X hi (tPO X T ξ W fh)) : PE X (.Subscript a (.Slice lo hi none p2) pos) (tL X.K T ξ W (lSl fa fl fh)) :=
  pe_imp (pe_slice sl_U ha hl hh) fun σ H Q ⟨m, S, ds, r0, rs, h⟩ => tL.bind r0 rs h fun v S1 m1 H1 x E r1 rs1 rv h1 => tPO.bind r1 rs1 h1 fun l S2 m2 H2 E2 r2 rs2 h2 => tPO.bind r2 rs2 h2 fun u S3 m3 H3 E3 r3 rs3 h3 =>
    slO_ok r3 ((rv.mono E2).mono E3) h3

/-! ### built-in functions -/
abbrev OpN := List LV → Sto → R
def CallL (K : PySem.W.Frag) (T : Env1) (r : List V → Hp → VK → Prop) (o : OpN) : Prop := ∀ m S H vs xs Q W, RelS K T m S H → RVs K m H vs xs → PoE K T m H (o vs S) Q W → r xs H Q
def lBi (o : OpN) (fa : LA) : LE := fun ds S => (fa ds S).bind o
theorem tCB_of {r : List V → Hp → VK → Prop} {o : OpN} {ga : LA} (hl : CallL X.K T r o) : ∀ σ H Q, tL X.K T ξ W (lBi o ga) σ H Q → tCB r (tLA X.K T ξ W ga) σ H Q :=
  fun σ H Q ⟨m, S, ds, r0, rs, h⟩ => tLA.bind r0 rs h fun v S1 m1 H1 x E r1 rs1 rv h1 => hl _ _ _ _ _ _ _ r1 rv h1
theorem pl_bi {x : Str} {p : Pos} {es : List Expr} {id : String} {r : List V → Hp → VK → Prop} {o : OpN} {ga : LA} (hc : CallR X (.builtin id) r) (hl : CallL X.K T r o) (hg : Gl X x) (hm : X.mg x = none) (hv : bootBuiltins x = some (.builtin id)) (ha : PA X (e :: es) (tLA X.K T ξ W ga))
    (hn : x ≠ "__name__" := by decide) (hdb : (x == ("__debug__" : Str)) = false := by decide)
    (he : starEach (e :: es) X.env = (false, eval e X.env) :: starEach es X.env := by rfl) (hpl : (backTo pos (starEach es X.env)).any (·.1) = false := by rfl) : PE X (.Call (.Name x p) (e :: es) [] pos) (tL X.K T ξ W (lBi o ga)) :=
  pe_imp (pe_callB hc hg hm hv ha hn hdb he hpl) (tCB_of hl)
theorem pl_bty {x : Str} {p : Pos} {es : List Expr} {n : String} {r : List V → Hp → VK → Prop} {o : OpN} {ga : LA} (hc : CallR X (.type n) r) (hl : CallL X.K T r o) (hg : Gl X x) (hm : X.mg x = none) (hv : bootBuiltins x = some (.type n)) (ha : PA X (e :: es) (tLA X.K T ξ W ga))
    (hn : x ≠ "__name__" := by decide) (hdb : (x == ("__debug__" : Str)) = false := by decide)
    (he : starEach (e :: es) X.env = (false, eval e X.env) :: starEach es X.env := by rfl) (hpl : (backTo pos (starEach es X.env)).any (·.1) = false := by rfl) : PE X (.Call (.Name x p) (e :: es) [] pos) (tL X.K T ξ W (lBi o ga)) :=
  pe_imp (pe_callTy hc hg hm hv ha hn hdb he hpl) (tCB_of hl)
end
section
variable {K : PySem.W.Frag} {T : Env1}
theorem RVs.one {m : List Addr} {H : Hp} {v : LV} {xs : List V} (h : RVs K m H [v] xs) : ∃ x, xs = [x] ∧ RV K m H v x := by
  unfold RVs at h
  obtain ⟨x, r, rfl, h1, h2⟩ := h
  rw [h2.nilE]
  exact ⟨x, rfl, h1⟩
theorem RVs.two {m : List Addr} {H : Hp} {v w : LV} {xs : List V} (h : RVs K m H [v, w] xs) : ∃ x y, xs = [x, y] ∧ RV K m H v x ∧ RV K m H w y := by
  unfold RVs at h
  obtain ⟨x, r, rfl, h1, h2⟩ := h
  obtain ⟨y, rfl, h3⟩ := h2.one
  exact ⟨x, y, rfl, h1, h3⟩
/-- len -/
def lenO (v : LV) (S : Sto) : Option Nat := match v with
  | .str z => if okStr z = true then some z.length else none
  | .tup xs => some xs.length
  | .ktp xs => some xs.length
  | .scr ns => some ns.length
  | .ref n => match S[n]? with
    | some (.lst xs) => some xs.length
    | some (.dct kvs) => some kvs.length
    | _ => none
  | _ => none
def lenL : OpN
  | [v], S => match lenO v S with
    | some n => .ok (.int n) S
    | none => .no
  | _, _ => .no
def rLenU (K : PySem.W.Frag) : List V → Hp → VK → Prop := fun xs H Q => (∃ x n, xs = [x] ∧ LenV K x H n ∧ Q (.int n) H) ∨ (∃ a kvs, xs = [V.ref a] ∧ H a = some (.dK kvs) ∧ Q (.int kvs.length) H)
theorem cr_lenU {X : Cx} : CallR X (.builtin "len") (rLenU X.K) := CallR.or call_len call_lenD
theorem cl_len : CallL K T (rLenU K) lenL := fun m S H vs xs Q W r rv h => by
  unfold lenL at h
  split at h
  · rename_i v
    obtain ⟨x, rfl, rx⟩ := rv.one
    split at h
    · rename_i n hn
      have q := h.here r (x := .int n) rfl
      unfold lenO at hn
      split at hn
      · split at hn
        · rename_i hz
          cases hn
          cases (show x = .str _ from rx)
          exact .inl ⟨_, _, rfl, ⟨small_ok hz, rfl⟩, q⟩
        · cases hn
      · cases hn
        obtain ⟨a, vs, rfl, ht, hs⟩ := rx.tupE
        exact .inl ⟨_, _, rfl, .inr ⟨vs, SqT.of ht, hs.len⟩, q⟩
      · cases hn
        unfold RV at rx
        obtain ⟨a, vs, rfl, ht, hs⟩ := rx
        exact .inl ⟨_, _, rfl, .inr ⟨vs, ht _, hs.len⟩, q⟩
      · cases hn
        unfold RV at rx
        obtain ⟨a, rfl, h1⟩ := rx
        exact .inl ⟨_, _, rfl, .inl ⟨_, scr_sq h1, by rw [List.length_map]⟩, q⟩
      · split at hn
        · rename_i ys e
          cases hn
          obtain ⟨a, vs, rfl, _, ha, hs⟩ := rx.lst r e
          exact .inl ⟨_, _, rfl, .inl ⟨vs, SqL.of ha, hs.len⟩, q⟩
        · rename_i kvs e
          cases hn
          unfold RV at rx
          obtain ⟨a, rfl, hm⟩ := rx
          obtain ⟨ws, h1, h2, h3⟩ := r.at hm e
          have hl : ws.length = kvs.length := by
            have := congrArg List.length h2
            simpa using this
          exact .inr ⟨a, ws, rfl, h1, by rw [hl]; exact q⟩
        · cases hn
      · cases hn
    · exact h.elim
  · exact h.elim
/-- isinstance -/
def kindL (v : LV) (S : Sto) : Option String := match v with
  | .non => some "NoneType"
  | .bl _ => some "bool"
  | .int _ => some "int"
  | .str _ => some "str"
  | .tup _ => some "tuple"
  | .ref n => match S[n]? with
    | some (.lst _) => some "list"
    | some (.dct _) => some "dict"
    | some (.dcT _) => some "dict"
    | _ => none
  | _ => none
def isiT (k n : String) : Option Bool := if n = "int" ∨ n = "bool" ∨ n = "str" ∨ n = "list" ∨ n = "tuple" ∨ n = "dict" then some (decide (k = n) || (decide (k = "bool") && decide (n = "int"))) else none
def isiL : OpN
  | [v, .ty n], S => match kindL v S with
    | some k => match isiT k n with
      | some b => .ok (.bl b) S
      | none => .no
    | none => .no
  | _, _ => .no
theorem kit_all {k n : String} {b : Bool} (hk : k = "NoneType" ∨ k = "bool" ∨ k = "int" ∨ k = "str" ∨ k = "tuple" ∨ k = "list" ∨ k = "dict") (h : isiT k n = some b) : kitB k n = some b := by
  unfold isiT at h
  split at h
  · rename_i hn
    cases h
    rcases hk with rfl | rfl | rfl | rfl | rfl | rfl | rfl <;> rcases hn with rfl | rfl | rfl | rfl | rfl | rfl <;> decide +kernel
  · cases h
theorem cl_isi : CallL K T (rIsi K) isiL := fun m S H vs xs Q W r rv h => by
  unfold isiL at h
  split at h
  · rename_i v n
    obtain ⟨x, y, rfl, rx, ry⟩ := rv.two
    cases (show y = .ty n from ry)
    split at h
    · rename_i k hk
      split at h
      · rename_i b hb
        have q := h.here r (x := .bl b) rfl
        have fin : ∀ t : Value, t = .type k → TyX K H x t → (k = "NoneType" ∨ k = "bool" ∨ k = "int" ∨ k = "str" ∨ k = "tuple" ∨ k = "list" ∨ k = "dict") → rIsi K [x, .ty n] H Q := fun t et ht hk => by
          subst et
          exact ⟨x, .ty n, _, _, b, rfl, .ty n, ht, kit_ty (kit_all hk hb), q⟩
        unfold kindL at hk
        split at hk
        · cases hk
          cases (show x = .non from rx)
          exact fin _ rfl (.base .non) (by simp)
        · cases hk
          cases (show x = .bl _ from rx)
          exact fin _ rfl (.base (.bl _)) (by simp)
        · cases hk
          cases (show x = .int _ from rx)
          exact fin _ rfl (.base (.int _)) (by simp)
        · cases hk
          cases (show x = .str _ from rx)
          exact fin _ rfl (.base (.str _)) (by simp)
        · cases hk
          obtain ⟨a, vs, rfl, ht, hs⟩ := rx.tupE
          exact fin _ rfl (.base (.tup ht)) (by simp)
        · split at hk
          · rename_i e
            cases hk
            obtain ⟨a, vs, rfl, _, ha, hs⟩ := rx.lst r e
            exact fin _ rfl (.base (.lst ha)) (by simp)
          · rename_i e
            cases hk
            unfold RV at rx
            obtain ⟨a, rfl, hm⟩ := rx
            obtain ⟨ws, h1, h2, h3⟩ := r.at hm e
            exact fin _ rfl (.base (.dK h1)) (by simp)
          · rename_i e
            cases hk
            unfold RV at rx
            obtain ⟨a, rfl, hm⟩ := rx
            obtain ⟨ws, h1, h2, h3⟩ := r.at hm e
            exact fin _ rfl (.base (.dT h1)) (by simp)
          · cases hk
        · cases hk
      · exact h.elim
    · exact h.elim
  · exact h.elim
/-- int -/
def intL : OpN
  | [.int i], S => .ok (.int i) S
  | [.bl b], S => .ok (.int (if b = true then 1 else 0)) S
  | [.str a], S => match PySem.intText? a with
    | some n => if decide (a.length ≤ 640) = true then .ok (.int n) S else .no
    | none => .no
  | _, _ => .no
def rIntU : List V → Hp → VK → Prop := fun xs H Q => ((∃ i, xs = [.int i] ∧ Q (.int i) H) ∨ ∃ k, xs = [.bl k] ∧ Q (.int (if k then 1 else 0)) H) ∨ (∃ a n, xs = [.str a] ∧ PySem.intText? a = some n ∧ a.length ≤ 640 ∧ Q (.int n) H)
theorem cr_intU {X : Cx} : CallR X (.type "int") rIntU := CallR.or call_int1 call_int_str
theorem cl_int : CallL K T rIntU intL := fun m S H vs xs Q W r rv h => by
  unfold intL at h
  split at h
  · obtain ⟨x, rfl, rx⟩ := rv.one
    cases (show x = .int _ from rx)
    exact .inl (.inl ⟨_, rfl, h.here r rfl⟩)
  · obtain ⟨x, rfl, rx⟩ := rv.one
    cases (show x = .bl _ from rx)
    exact .inl (.inr ⟨_, rfl, h.here r rfl⟩)
  · obtain ⟨x, rfl, rx⟩ := rv.one
    cases (show x = .str _ from rx)
    split at h
    · rename_i n hn
      split at h
      · rename_i hz
        exact .inr ⟨_, n, rfl, hn, of_decide_eq_true hz, h.here r rfl⟩
      · exact h.elim
    · exact h.elim
  · exact h.elim
/-- str of a whole number -/
def okNum (i : Int) : Bool := decide (-bigB ≤ i) && decide (i ≤ bigB)
def strL : OpN
  | [.int i], S => if okNum i = true then .ok (.str (toString i)) S else .no
  | _, _ => .no
theorem cl_str : CallL K T (fun xs H Q => ∃ i, xs = [.int i] ∧ i.natAbs.log2 < 1920 ∧ Q (.str (toString i)) H) strL := fun m S H vs xs Q W r rv h => by
  unfold strL at h
  split at h
  · obtain ⟨x, rfl, rx⟩ := rv.one
    cases (show x = .int _ from rx)
    split at h
    · rename_i hz
      simp only [okNum, Bool.and_eq_true, decide_eq_true_eq] at hz
      exact ⟨_, rfl, Nat.lt_trans (PySem.Flt.log2_lt_of (by decide) (bigB_lt hz.1 hz.2)) (by decide), h.here r rfl⟩
    · exact h.elim
  · exact h.elim
/-- abs, min, max -/
def absL : OpN
  | [.int i], S => .ok (.int (if i < 0 then -i else i)) S
  | _, _ => .no
theorem cl_abs : CallL K T (fun xs H Q => ∃ i, xs = [.int i] ∧ Q (.int (if i < 0 then -i else i)) H) absL := fun m S H vs xs Q W r rv h => by
  unfold absL at h
  split at h
  · obtain ⟨x, rfl, rx⟩ := rv.one
    cases (show x = .int _ from rx)
    exact ⟨_, rfl, h.here r rfl⟩
  · exact h.elim
def maxL : OpN
  | [.int i, .int j], S => .ok (.int (if j > i then j else i)) S
  | _, _ => .no
def minL : OpN
  | [.int i, .int j], S => .ok (.int (if j < i then j else i)) S
  | _, _ => .no
theorem cl_max : CallL K T (fun xs H Q => ∃ i j, xs = [.int i, .int j] ∧ Q (.int (if j > i then j else i)) H) maxL := fun m S H vs xs Q W r rv h => by
  unfold maxL at h
  split at h
  · obtain ⟨x, y, rfl, rx, ry⟩ := rv.two
    cases (show x = .int _ from rx)
    cases (show y = .int _ from ry)
    exact ⟨_, _, rfl, h.here r rfl⟩
  · exact h.elim
theorem cl_min : CallL K T (fun xs H Q => ∃ i j, xs = [.int i, .int j] ∧ Q (.int (if j < i then j else i)) H) minL := fun m S H vs xs Q W r rv h => by
  unfold minL at h
  split at h
  · obtain ⟨x, y, rfl, rx, ry⟩ := rv.two
    cases (show x = .int _ from rx)
    cases (show y = .int _ from ry)
    exact ⟨_, _, rfl, h.here r rfl⟩
  · exact h.elim
/-- the ints of a list -/
def intsL (vs : List LV) : Option (List Int) := seqO (vs.map fun v => match v with
  | .int i => some i
  | _ => none)
theorem intsL_ok {m : List Addr} {H : Hp} : ∀ {vs : List LV} {xs : List V} {ns : List Int}, intsL vs = some ns → RVs K m H vs xs → xs = ns.map V.int
  | [], xs, ns, e, h => by
    cases e
    rw [h.nilE]
    rfl
  | v :: vs, xs, ns, e, h => by
    unfold RVs at h
    obtain ⟨x, r, rfl, h1, h2⟩ := h
    unfold intsL at e
    rw [List.map_cons] at e
    cases v with
    | int i =>
      simp only at e
      unfold seqO at e
      split at e
      · rename_i l hl
        cases e
        rw [List.map_cons, intsL_ok (ns := l) hl h2]
        cases (show x = .int i from h1)
        rfl
      · cases e
    | _ => cases e
def listI (v : LV) (S : Sto) : Option (List Int) := match v with
  | .scr ns => some ns
  | .ref n => match S[n]? with
    | some (.lst xs) => intsL xs
    | _ => none
  | _ => none
theorem listI_ok {m : List Addr} {S : Sto} {H : Hp} {v : LV} {x : V} {ns : List Int} (r : RelS K T m S H) (e : listI v S = some ns) (rv : RV K m H v x) : ∃ a, x = .ref a ∧ SqL K H a (ns.map V.int) := by
  unfold listI at e
  split at e
  · cases e
    unfold RV at rv
    obtain ⟨a, rfl, h1⟩ := rv
    exact ⟨a, rfl, scr_sq h1⟩
  · split at e
    · rename_i xs hn
      obtain ⟨a, vs, rfl, _, ha, hs⟩ := rv.lst r hn
      exact ⟨a, rfl, SqL.of (by rw [ha, intsL_ok e hs])⟩
    · cases e
  · cases e
def sumL : OpN
  | [v], S => match listI v S with
    | some ns => .ok (.int ns.sum) S
    | none => .no
  | _, _ => .no
theorem cl_sum : CallL K T (rSum K) sumL := fun m S H vs xs Q W r rv h => by
  unfold sumL at h
  split at h
  · obtain ⟨x, rfl, rx⟩ := rv.one
    split at h
    · rename_i ns hn
      obtain ⟨a, rfl, hs⟩ := listI_ok r hn rx
      exact ⟨a, ns, rfl, hs, h.here r rfl⟩
    · exact h.elim
  · exact h.elim
/-- list(..), tuple(..) of what is a list or a tuple -/
def itemsO (v : LV) (S : Sto) : Option (List LV) := match v with
  | .tup xs => some xs
  | .ktp xs => some xs
  | .scr ns => some (ns.map .int)
  | .ref n => match S[n]? with
    | some (.lst xs) => some xs
    | _ => none
  | _ => none
theorem itemsO_ok {m : List Addr} {S : Sto} {H : Hp} {v : LV} {x : V} {vs : List LV} (r : RelS K T m S H) (e : itemsO v S = some vs) (rv : RV K m H v x) : ∃ a xs, x = .ref a ∧ (SqL K H a xs ∨ SqT K H a xs) ∧ RVs K m H vs xs := by
  unfold itemsO at e
  split at e
  · cases e
    obtain ⟨a, vs, rfl, ht, hs⟩ := rv.tupE
    exact ⟨a, vs, rfl, .inr (SqT.of ht), hs⟩
  · cases e
    unfold RV at rv
    obtain ⟨a, vs, rfl, ht, hs⟩ := rv
    exact ⟨a, vs, rfl, .inr (ht _), hs⟩
  · cases e
    unfold RV at rv
    obtain ⟨a, rfl, h1⟩ := rv
    exact ⟨a, _, rfl, .inl (scr_sq h1), RVs.ints _⟩
  · split at e
    · rename_i xs hn
      cases e
      obtain ⟨a, vs, rfl, _, ha, hs⟩ := rv.lst r hn
      exact ⟨a, vs, rfl, .inl (SqL.of ha), hs⟩
    · cases e
  · cases e
def listL : OpN
  | [v], S => match itemsO v S with
    | some vs => .ok (.ref S.length) (S ++ [.lst vs])
    | none => .no
  | _, _ => .no
theorem cl_list : CallL K T (fun xs H Q => ∃ p ys, xs = [.ref p] ∧ (SqL K H p ys ∨ SqT K H p ys) ∧ ∀ l, H l = none → Q (.ref l) (upd H l (.lst ys))) listL := fun m S H vs xs Q W r rv h => by
  unfold listL at h
  split at h
  · obtain ⟨x, rfl, rx⟩ := rv.one
    split at h
    · rename_i ys hn
      obtain ⟨a, zs, rfl, h1, h2⟩ := itemsO_ok r hn rx
      exact ⟨a, zs, rfl, h1, fin_lst r h2 h⟩
    · exact h.elim
  · exact h.elim
def tupleL : OpN
  | [.tup xs], S => .ok (.tup xs) S
  | [.ref n], S => match S[n]? with
    | some (.lst xs) => .ok (.tup xs) S
    | _ => .no
  | _, _ => .no
theorem cl_tuple : CallL K T (fun xs H Q => ∃ p ys, xs = [.ref p] ∧ ((SqL K H p ys ∧ ∀ l, H l = none → Q (.ref l) (upd H l (.tup ys))) ∨ (SqT K H p ys ∧ Q (.ref p) H))) tupleL := fun m S H vs xs Q W r rv h => by
  unfold tupleL at h
  split at h
  · obtain ⟨x, rfl, rx⟩ := rv.one
    obtain ⟨a, zs, rfl, ht, hs⟩ := rx.tupE
    exact ⟨a, zs, rfl, .inr ⟨SqT.of ht, h.here r (by unfold RV; exact ⟨a, zs, rfl, ht, hs⟩)⟩⟩
  · obtain ⟨x, rfl, rx⟩ := rv.one
    split at h
    · rename_i ys hn
      obtain ⟨a, zs, rfl, _, ha, hs⟩ := rx.lst r hn
      exact ⟨a, zs, rfl, .inl ⟨SqL.of ha, fin_tup r hs h⟩⟩
    · exact h.elim
  · exact h.elim
def blsL (vs : List LV) : Option (List Bool) := seqO (vs.map fun v => match v with
  | .bl i => some i
  | _ => none)
theorem blsL_ok {m : List Addr} {H : Hp} : ∀ {vs : List LV} {xs : List V} {ns : List Bool}, blsL vs = some ns → RVs K m H vs xs → xs = ns.map V.bl
  | [], xs, ns, e, h => by
    cases e
    rw [h.nilE]
    rfl
  | v :: vs, xs, ns, e, h => by
    unfold RVs at h
    obtain ⟨x, r, rfl, h1, h2⟩ := h
    unfold blsL at e
    rw [List.map_cons] at e
    cases v with
    | bl i =>
      simp only at e
      unfold seqO at e
      split at e
      · rename_i l hl
        cases e
        rw [List.map_cons, blsL_ok (ns := l) hl h2]
        cases (show x = .bl i from h1)
        rfl
      · cases e
    | _ => cases e
def allL : OpN
  | [.ref n], S => match S[n]? with
    | some (.lst xs) => match blsL xs with
      | some bs => .ok (.bl (bs.all id)) S
      | none => .no
    | _ => .no
  | _, _ => .no
theorem cl_all : CallL K T (rAll K) allL := fun m S H vs xs Q W r rv h => by
  unfold allL at h
  split at h
  · obtain ⟨x, rfl, rx⟩ := rv.one
    split at h
    · rename_i ys hn
      split at h
      · rename_i bs hb
        obtain ⟨a, zs, rfl, _, ha, hs⟩ := rx.lst r hn
        exact ⟨a, bs, rfl, SqL.of (by rw [ha, blsL_ok hb hs]), h.here r rfl⟩
      · exact h.elim
    · exact h.elim
  · exact h.elim
end
end LL


set_option Elab.async false
set_option linter.all false
set_option maxRecDepth 100000
set_option maxHeartbeats 2000000
/-! The logical layer: methods of built-in types, calls, statements, loops, comprehensions. -/
namespace LL
open PySem PySem.Spec PyProof.Rows L2

/-! ### methods of built-in types -/
abbrev OpM := LV → List LV → Sto → R
def MtL (K : PySem.W.Frag) (T : Env1) (r : V → List V → Hp → VK → Prop) (o : OpM) : Prop := ∀ m S H v vs x xs Q W, RelS K T m S H → RV K m H v x → RVs K m H vs xs → PoE K T m H (o v vs S) Q W → r x xs H Q
def isT (n : String) (v : LV) (S : Sto) : Bool := match v with
  | .str _ => decide (n = "str")
  | .scr _ => decide (n = "list")
  | .ref k => match S[k]? with
    | some (.lst _) => decide (n = "list")
    | some (.dct _) => decide (n = "dict")
    | some (.dcT _) => decide (n = "dict")
    | _ => false
  | _ => false
def gateK (n : String) (k : LV → Sto → R) : LV → Sto → R := fun v S => if isT n v S = true then k v S else .no
def lBm0 (n : String) (o : OpM) (fo : LE) : LE := fun ds S => (fo ds S).bind (gateK n fun v S1 => o v [] S1)
def lBm (n : String) (o : OpM) (fo : LE) (fa : LA) : LE := fun ds S => (fo ds S).bind (gateK n fun v S1 => (fa ds S1).bind fun vs S2 => o v vs S2)
section
variable {K : PySem.W.Frag} {T : Env1}
theorem isT_ok {m : List Addr} {S : Sto} {H : Hp} {v : LV} {x : V} {n : String} (r : RelS K T m S H) (e : isT n v S = true) (rv : RV K m H v x) : tyV K n x H := by
  unfold isT at e
  split at e
  · have := of_decide_eq_true e
    subst this
    cases (show x = .str _ from rv)
    rfl
  · have := of_decide_eq_true e
    subst this
    unfold RV at rv
    obtain ⟨a, rfl, h1⟩ := rv
    exact .inl ⟨rfl, _, scr_sq h1⟩
  · split at e
    · rename_i xs hn
      have := of_decide_eq_true e
      subst this
      obtain ⟨a, vs, rfl, _, ha, hs⟩ := rv.lst r hn
      exact .inl ⟨rfl, _, SqL.of ha⟩
    · rename_i kvs hn
      have := of_decide_eq_true e
      subst this
      unfold RV at rv
      obtain ⟨a, rfl, hm⟩ := rv
      obtain ⟨ws, h1, h2, h3⟩ := r.at hm hn
      exact .inr (.inr (.inl ⟨rfl, .inl ⟨_, h1⟩⟩))
    · rename_i kvs hn
      have := of_decide_eq_true e
      subst this
      unfold RV at rv
      obtain ⟨a, rfl, hm⟩ := rv
      obtain ⟨ws, h1, h2, h3⟩ := r.at hm hn
      exact .inr (.inr (.inl ⟨rfl, .inr ⟨_, h1⟩⟩))
    · cases e
  · cases e
end
section
variable {X : Cx} {T : Env1} {ξ : Xi} {W : WX} {e a b c o : Expr} {es : List Expr} {pos cpos apos : Pos} {fa fb fc fo : LE} {ga : LA} {k : Nat} {n id : String} {name : Str} {r : V → List V → Hp → VK → Prop} {om : OpM}
theorem pl_bm0 (pa : PlainAttrs n) (slot : Slot n name id) (hty : typeOf (.builtin id) = pure (.type "method_descriptor")) (hm : MtR X id r) (hl : MtL X.K T r om) (ho : PE X o (tL X.K T ξ W fo))
    (hbase : attributeBase o name X.env (eval o X.env) = eval o X.env := by rfl) (hline : (apos.endLine == cpos.line) = true := by rfl) : PE X (.Call (.Attribute o name apos) [] [] cpos) (tL X.K T ξ W (lBm0 n om fo)) :=
  pe_imp (pe_bm0 pa slot hty hm ho hbase hline) fun σ H Q ⟨m, S, ds, r0, rs, h⟩ => tL.bind r0 rs h fun v S1 m1 H1 x E r1 rs1 rv h1 => by
    unfold gateK at h1
    split at h1
    · rename_i ht
      exact ⟨isT_ok r1 ht rv, hl _ _ _ _ _ _ _ _ _ r1 rv RVs.nil h1⟩
    · exact h1.elim
theorem pl_bm (pa : PlainAttrs n) (slot : Slot n name id) (hty : typeOf (.builtin id) = pure (.type "method_descriptor")) (hm : MtR X id r) (hl : MtL X.K T r om) (ho : PE X o (tL X.K T ξ W fo)) (ha : PA X (e :: es) (tLA X.K T ξ W ga))
    (hbase : attributeBase o name X.env (eval o X.env) = eval o X.env := by rfl)
    (hfew : ((backTo cpos (starEach (e :: es) X.env)).all (fun x => !x.1) && (backToKw cpos (keywordEach [] X.env)).all (fun x => x.1.isSome)
      && decide ((e :: es).length + ([] : List Keyword).length + (if ([] : List Keyword).isEmpty then 0 else 1) < 30)) = true := by rfl)
    (hline : (apos.endLine == cpos.line) = true := by rfl) (hs : starEach (e :: es) X.env = (false, eval e X.env) :: starEach es X.env := by rfl) (hplain : (backTo cpos (starEach es X.env)).any (·.1) = false := by rfl) :
    PE X (.Call (.Attribute o name apos) (e :: es) [] cpos) (tL X.K T ξ W (lBm n om fo ga)) :=
  pe_imp (pe_bm pa slot hty hm ho ha hbase hfew hline hs hplain) fun σ H Q ⟨m, S, ds, r0, rs, h⟩ => tL.bind r0 rs h fun v S1 m1 H1 x E r1 rs1 rv h1 => by
    unfold gateK at h1
    split at h1
    · rename_i ht
      exact ⟨isT_ok r1 ht rv, tLA.bind r1 rs1 h1 fun vs S2 m2 H2 xs E2 r2 rs2 rvs h2 => hl _ _ _ _ _ _ _ _ _ r2 (rv.mono E2) rvs h2⟩
    · exact h1.elim
end
section
variable {K : PySem.W.Frag} {T : Env1}
/-- the texts of a list -/
def strsL (vs : List LV) : Option (List Str) := seqO (vs.map fun v => match v with
  | .str i => some i
  | _ => none)
theorem strsL_ok {m : List Addr} {H : Hp} : ∀ {vs : List LV} {xs : List V} {ns : List Str}, strsL vs = some ns → RVs K m H vs xs → xs = ns.map V.str
  | [], xs, ns, e, h => by
    cases e
    rw [h.nilE]
    rfl
  | v :: vs, xs, ns, e, h => by
    unfold RVs at h
    obtain ⟨x, r, rfl, h1, h2⟩ := h
    unfold strsL at e
    rw [List.map_cons] at e
    cases v with
    | str i =>
      simp only at e
      unfold seqO at e
      split at e
      · rename_i l hl
        cases e
        rw [List.map_cons, strsL_ok (ns := l) hl h2]
        cases (show x = .str i from h1)
        rfl
      · cases e
    | _ => cases e
def joinL2 : OpM
  | .str a, [w], S => match itemsO w S with
    | some vs => match strsL vs with
      | some ys => if decide ((ys.map (·.length)).sum + ys.length * a.length ≤ 16777216) = true then .ok (.str (Txt.join a ys)) S else .no
      | none => .no
    | none => .no
  | _, _, _ => .no
theorem ml_join : MtL K T (fun x xs H Q => ∃ a p, ∃ ys : List Str, x = .str a ∧ xs = [.ref p] ∧ (SqL K H p (ys.map V.str) ∨ SqT K H p (ys.map V.str)) ∧ (ys.map (·.length)).sum + ys.length * a.length ≤ 16777216 ∧ Q (.str (Txt.join a ys)) H) joinL2 :=
  fun m S H v vs x xs Q W r rv rvs h => by
    unfold joinL2 at h
    split at h
    · rename_i w
      obtain ⟨y, rfl, ry⟩ := rvs.one
      split at h
      · rename_i us hu
        split at h
        · rename_i ys hy
          split at h
          · rename_i hz
            obtain ⟨a, zs, rfl, hs, h2⟩ := itemsO_ok r hu ry
            have e := strsL_ok hy h2
            subst e
            exact ⟨_, a, ys, rv, rfl, hs, of_decide_eq_true hz, h.here r rfl⟩
          · exact h.elim
        · exact h.elim
      · exact h.elim
    · exact h.elim
def splitL : OpM
  | .str a, [.str b], S => if (decide (b.length ≠ 0) && small (a.length + 2)) = true then .ok (.ref S.length) (S ++ [.lst ((Txt.split a b).map .str)]) else .no
  | _, _, _ => .no
theorem ml_split : MtL K T (fun x xs H Q => ∃ a b, x = .str a ∧ xs = [.str b] ∧ (b.length == 0) = false ∧ a.length + 2 ≤ sizeLine ∧ rNewStrs (Txt.split a b) H Q) splitL := fun m S H v vs x xs Q W r rv rvs h => by
  unfold splitL at h
  split at h
  · rename_i a b
    obtain ⟨y, rfl, ry⟩ := rvs.one
    split at h
    · rename_i hz
      rw [Bool.and_eq_true] at hz
      cases (show y = .str b from ry)
      exact ⟨a, b, rv, rfl, by have := of_decide_eq_true hz.1; simpa using this, small_ok hz.2, fin_lst r (RVs.strs _) h⟩
    · exact h.elim
  · exact h.elim
def startsL : OpM
  | .str a, [.str b], S => .ok (.bl (Txt.startswith a b)) S
  | _, _, _ => .no
theorem ml_starts : MtL K T (fun x xs H Q => ∃ a b, x = .str a ∧ xs = [.str b] ∧ Q (.bl (Txt.startswith a b)) H) startsL := fun m S H v vs x xs Q W r rv rvs h => by
  unfold startsL at h
  split at h
  · obtain ⟨y, rfl, ry⟩ := rvs.one
    cases (show y = .str _ from ry)
    exact ⟨_, _, rv, rfl, h.here r rfl⟩
  · exact h.elim
def sindexL : OpM
  | .str a, [.str b], S => match Builtin.Str.occurrences a b 0 a.length 1 with
    | i :: _ => .ok (.int (i : Nat)) S
    | [] => .no
  | _, _, _ => .no
theorem ml_sindex : MtL K T (fun x xs H Q => ∃ a b i rest, x = .str a ∧ xs = [.str b] ∧ Builtin.Str.occurrences a b 0 a.length 1 = i :: rest ∧ Q (.int (i : Nat)) H) sindexL := fun m S H v vs x xs Q W r rv rvs h => by
  unfold sindexL at h
  split at h
  · obtain ⟨y, rfl, ry⟩ := rvs.one
    cases (show y = .str _ from ry)
    split at h
    · rename_i i rest ho
      exact ⟨_, _, i, rest, rv, rfl, ho, h.here r rfl⟩
    · exact h.elim
  · exact h.elim
/-- xs.append(v); xs.clear() -/
def appendL : OpM
  | .ref n, [v], S => match S[n]? with
    | some (.lst xs) => if small (xs.length + 1) = true then .ok .non (S.set n (.lst (xs ++ [v]))) else .no
    | _ => .no
  | _, _, _ => .no
theorem ml_append : MtL K T rAppend appendL := fun m S H v vs x xs Q W r rv rvs h => by
  unfold appendL at h
  split at h
  · rename_i n v
    obtain ⟨y, rfl, ry⟩ := rvs.one
    split at h
    · rename_i ys hn
      split at h
      · rename_i hz
        obtain ⟨a, zs, rfl, hm, ha, hs⟩ := rv.lst r hn
        refine ⟨a, zs, y, rfl, rfl, ha, ?_, ?_⟩
        · have := small_ok hz
          rw [← hs.len]
          omega
        · have E : Ext m H m (upd H a (.lst (zs ++ [y]))) := Ext.write r (List.mem_of_getElem? hm)
          exact h m _ _ E (r.write hm ⟨_, upd_same, (hs.append (RVs.cons ry RVs.nil)).mono E⟩) rfl
      · exact h.elim
    · exact h.elim
  · exact h.elim
def clearL : OpM
  | .ref n, [], S => match S[n]? with
    | some (.lst xs) => .ok .non (S.set n (.lst []))
    | _ => .no
  | _, _, _ => .no
theorem ml_clear : MtL K T rClear clearL := fun m S H v vs x xs Q W r rv rvs h => by
  unfold clearL at h
  split at h
  · rename_i n
    have := rvs.nilE
    subst this
    split at h
    · rename_i ys hn
      obtain ⟨a, zs, rfl, hm, ha, hs⟩ := rv.lst r hn
      refine ⟨a, zs, rfl, rfl, ha, ?_⟩
      have E : Ext m H m (upd H a (.lst [])) := Ext.write r (List.mem_of_getElem? hm)
      exact h m _ _ E (r.write hm ⟨_, upd_same, RVs.nil⟩) rfl
    · exact h.elim
  · exact h.elim
end
section
variable {X : Cx} {T : Env1} {ξ : Xi} {W : WX} {e a b c o : Expr} {es : List Expr} {pos cpos apos : Pos} {fa fb fc fo : LE} {ga : LA} {k : Nat}

end
/-! ### what nobody holds any more -/
mutual
/-- all numbers in it below n -/
def lowV (n : Nat) : LV → Bool
  | .ref k => decide (k < n)
  | .tup xs => lowVs n xs
  | .ktp xs => lowVs n xs
  | _ => true
def lowVs (n : Nat) : List LV → Bool
  | [] => true
  | v :: vs => lowV n v && lowVs n vs
end
def lowO (n : Nat) : LO → Bool
  | .lst xs => lowVs n xs
  | .dct kvs => lowVs n (kvs.map (·.2))
  | .dcT kvs => lowVs n (kvs.map (·.2))
  | .ins _ fs => lowVs n (fs.map (·.2))
section
variable {K : PySem.W.Frag} {T : Env1} {m t : List Addr} {H H' : Hp} {S S' : Sto}
mutual
theorem RV.low : ∀ {v : LV} {x : V}, RV K m H v x → lowV m.length v = true
  | .ref n, x, h => by
    unfold RV at h
    obtain ⟨a, _, hn⟩ := h
    exact decide_eq_true (List.getElem?_eq_some_iff.mp hn).1
  | .tup xs, x, h => by
    unfold RV at h
    obtain ⟨_, _, _, _, h⟩ := h
    exact RVs.low h
  | .ktp xs, x, h => by
    unfold RV at h
    obtain ⟨_, _, _, _, h⟩ := h
    exact RVs.low h
  | .non, _, _ => rfl
  | .bl _, _, _ => rfl
  | .int _, _, _ => rfl
  | .str _, _, _ => rfl
  | .ty _, _, _ => rfl
  | .scr _, _, _ => rfl
  | .cls _, _, _ => rfl
  | .exc _ _, _, h => h.elim
theorem RVs.low : ∀ {vs : List LV} {xs : List V}, RVs K m H vs xs → lowVs m.length vs = true
  | [], _, _ => rfl
  | v :: vs, xs, h => by
    unfold RVs at h
    obtain ⟨_, _, _, h1, h2⟩ := h
    show (lowV m.length v && lowVs m.length vs) = true
    rw [RV.low h1, RVs.low h2]
    rfl
end
mutual
theorem RV.cut : ∀ {v : LV} {x : V}, RV K (m ++ t) H v x → lowV m.length v = true → RV K m H v x
  | .ref n, x, h, l => by
    unfold RV at h ⊢
    obtain ⟨a, e, hn⟩ := h
    have hl : n < m.length := of_decide_eq_true l
    rw [List.getElem?_append_left hl] at hn
    exact ⟨a, e, hn⟩
  | .tup xs, x, h, l => by
    unfold RV at h ⊢
    obtain ⟨a, vs, e, ht, h⟩ := h
    exact ⟨a, vs, e, ht, RVs.cut h l⟩
  | .ktp xs, x, h, l => by
    unfold RV at h ⊢
    obtain ⟨a, vs, e, ht, h⟩ := h
    exact ⟨a, vs, e, ht, RVs.cut h l⟩
  | .non, _, h, _ => h
  | .bl _, _, h, _ => h
  | .int _, _, h, _ => h
  | .str _, _, h, _ => h
  | .ty _, _, h, _ => h
  | .scr _, _, h, _ => h
  | .cls _, _, h, _ => h
  | .exc _ _, _, h, _ => h
theorem RVs.cut : ∀ {vs : List LV} {xs : List V}, RVs K (m ++ t) H vs xs → lowVs m.length vs = true → RVs K m H vs xs
  | [], _, h, _ => h
  | v :: vs, xs, h, l => by
    unfold RVs at h ⊢
    obtain ⟨y, r, e, h1, h2⟩ := h
    have l' : (lowV m.length v && lowVs m.length vs) = true := l
    rw [Bool.and_eq_true] at l'
    exact ⟨y, r, e, RV.cut h1 l'.1, RVs.cut h2 l'.2⟩
end
theorem RO.low {a : Addr} {o : LO} (h : RO K T m H a o) : lowO m.length o = true := by
  cases o with
  | lst xs => obtain ⟨vs, _, h2⟩ := h; exact h2.low
  | dct xs => obtain ⟨vs, _, _, h2⟩ := h; exact h2.low
  | dcT xs => obtain ⟨vs, _, _, h2⟩ := h; exact h2.low
  | ins c xs => obtain ⟨_, vs, _, _, h2⟩ := h; exact h2.low
theorem RO.cut {a : Addr} {o : LO} (h : RO K T (m ++ t) H a o) (l : lowO m.length o = true) : RO K T m H a o := by
  cases o with
  | lst xs => obtain ⟨vs, h1, h2⟩ := h; exact ⟨vs, h1, h2.cut l⟩
  | dct xs => obtain ⟨vs, h1, h3, h2⟩ := h; exact ⟨vs, h1, h3, h2.cut l⟩
  | dcT xs => obtain ⟨vs, h1, h3, h2⟩ := h; exact ⟨vs, h1, h3, h2.cut l⟩
  | ins c xs => obtain ⟨dx, vs, h1, h3, h2⟩ := h; exact ⟨dx, vs, h1, h3, h2.cut l⟩
/-- the younger numbers are dropped -/
theorem RelS.cut (r : RelS K T m S H) (E : Ext m H (m ++ t) H') {U : Sto} (r' : RelS K T (m ++ t) (S ++ U) H') : RelS K T m S H' ∧ Ext m H m H' := by
  refine ⟨⟨r.len, r.nd, fun n a o hn ho => ?_⟩, ⟨⟨[], by simp⟩, E.fr, fun a h n => absurd h n, E.tup, E.frz⟩⟩
  have hl := (List.getElem?_eq_some_iff.mp hn).1
  have q := r'.ob n a o (by rw [List.getElem?_append_left hl]; exact hn) (by rw [List.getElem?_append_left (by rw [← r.len]; exact hl)]; exact ho)
  exact q.cut (r.ob n a o hn ho).low
/-- .. but for one, which has older ones alone -/
theorem RelS.cut1 (r : RelS K T m S H) (E : Ext m H (m ++ t) H') {U : Sto} (r' : RelS K T (m ++ t) (S ++ U) H') {k : Nat} {a : Addr} {o : LO} (hk : S.length ≤ k) (ha : (m ++ t)[k]? = some a) (ho : (S ++ U)[k]? = some o) (l : lowO S.length o = true) :
    RelS K T (m ++ [a]) (S ++ [o]) H' ∧ Ext m H (m ++ [a]) H' := by
  obtain ⟨r1, E1⟩ := r.cut E r'
  have hm : a ∈ m ++ t := List.mem_of_getElem? ha
  have na : a ∉ m := fun z => by
    obtain ⟨i, hi⟩ := List.mem_iff_getElem?.mp z
    have hi' : (m ++ t)[i]? = some a := by rw [List.getElem?_append_left (List.getElem?_eq_some_iff.mp hi).1]; exact hi
    obtain ⟨l1, e1⟩ := List.getElem?_eq_some_iff.mp ha
    obtain ⟨l2, e2⟩ := List.getElem?_eq_some_iff.mp hi'
    have := (List.getElem_inj r'.nd).mp (e1.trans e2.symm)
    have := (List.getElem?_eq_some_iff.mp hi).1
    have := r.len
    omega
  have q := (r'.ob k a o ha ho).cut (by rw [r.len]; exact l)
  refine ⟨r1.adopt na (q.kp Kp.more rfl), ⟨⟨[a], rfl⟩, E.fr, fun b h n => ?_, E.tup, E.frz⟩⟩
  rcases List.mem_append.mp h with h | h
  · exact absurd h n
  · rw [List.mem_singleton.mp h]
    exact E.new a hm na
end
open Classical in
/-- what a call leaves: new objects that its value doesn't reach are dropped -/
noncomputable def gcR (S : Sto) : R → R
  | .ok v S' => if (∃ U, S' = S ++ U) then (if lowV S.length v = true then .ok v S else match v with
    | .ref k => match S'[k]? with
      | some o => if lowO S.length o = true then .ok (.ref S.length) (S ++ [o]) else .ok v S'
      | none => .ok v S'
    | _ => .ok v S') else .ok v S'
  | .ex c fs S' => if (∃ U, S' = S ++ U) ∧ fs = [] then .ex c fs S else .ex c fs S'
  | .no => .no
theorem gc_low {S U : Sto} {v : LV} (h : lowV S.length v = true) : gcR S (.ok v (S ++ U)) = .ok v S := by
  unfold gcR
  simp only
  rw [if_pos ⟨U, rfl⟩, if_pos h]
theorem gc_low0 {S : Sto} {v : LV} (h : lowV S.length v = true) : gcR S (.ok v S) = .ok v S := by
  have := gc_low (S := S) (U := []) h
  rwa [List.append_nil] at this
theorem gc_ref {S U : Sto} {o : LO} {k : Nat} (hk : U[k]? = some o) (l : lowO S.length o = true) : gcR S (.ok (.ref (S.length + k)) (S ++ U)) = .ok (.ref S.length) (S ++ [o]) := by
  unfold gcR
  simp only
  rw [if_pos ⟨U, rfl⟩, if_neg (by simp [lowV])]
  have : (S ++ U)[S.length + k]? = some o := by rw [List.getElem?_append_right (Nat.le_add_right _ _), Nat.add_sub_cancel_left]; exact hk
  rw [this]
  simp only
  rw [if_pos l]
theorem gc_ex {S U : Sto} {c : Nat} : gcR S (.ex c [] (S ++ U)) = .ex c [] S := by
  unfold gcR
  simp only
  rw [if_pos ⟨⟨U, rfl⟩, rfl⟩]
theorem gc_ex0 {S : Sto} {c : Nat} : gcR S (.ex c [] S) = .ex c [] S := by
  have := gc_ex (S := S) (U := []) (c := c)
  rwa [List.append_nil] at this
section
variable {K : PySem.W.Frag} {T : Env1} {m t : List Addr} {H H' : Hp} {S S' : Sto} {Q : VK} {W : XK}
theorem gc_sound {r : R} (r0 : RelS K T m S H) (h : PoE K T m H (gcR S r) Q W) : PoE K T m H r Q W := by
  cases r with
  | no => exact h
  | ok v S' =>
    unfold gcR at h
    simp only at h
    split at h
    · rename_i hu
      obtain ⟨U, rfl⟩ := hu
      split at h
      · rename_i hl
        intro m' H' x E r' rv
        obtain ⟨t, rfl⟩ := E.pre
        obtain ⟨r1, E1⟩ := r0.cut E r'
        exact h m H' x E1 r1 (rv.cut (by rw [r0.len]; exact hl))
      · rename_i hl
        split at h
        · rename_i k
          split at h
          · rename_i o ho
            split at h
            · rename_i lo
              intro m' H' x E r' rv
              obtain ⟨t, rfl⟩ := E.pre
              unfold RV at rv
              obtain ⟨a, rfl, ha⟩ := rv
              have hk : S.length ≤ k := by
                have : ¬ k < S.length := fun z => hl (decide_eq_true z)
                omega
              obtain ⟨r1, E1⟩ := r0.cut1 E r' hk ha ho lo
              refine h _ H' _ E1 r1 ?_
              unfold RV
              exact ⟨a, rfl, by rw [← r0.len, List.getElem?_append_right (Nat.le_refl _), Nat.sub_self] <;> rfl⟩
            · exact h
          · exact h
        · exact h
    · exact h
  | ex c fs S' =>
    unfold gcR at h
    simp only at h
    split at h
    · rename_i hu
      obtain ⟨⟨U, rfl⟩, rfl⟩ := hu
      intro m' H' cls d E r' rx
      obtain ⟨t, rfl⟩ := E.pre
      obtain ⟨r1, E1⟩ := r0.cut E r'
      refine h m H' cls d E1 r1 ⟨rx.1, ?_⟩
      rcases rx.2 with q | ⟨v, x, dd, q, _⟩
      · exact .inl q
      · cases q
    · exact h
end
section
variable {X : Cx} {T : Env1} {ξ : Xi} {W : WX} {e a b c o : Expr} {es : List Expr} {pos cpos apos : Pos} {fa fb fc fo : LE} {ga : LA} {k : Nat}

/-! ### calls of the text's own defs -/
def fin : RS → R
  | .nx _ S => .ok .non S
  | .rt v S => .ok v S
  | .ex c fs _ S => .ex c fs S
  | _ => .no
/-- a def of n parameters and so many names -/
noncomputable def mkFn (n N : Nat) (g : LS) : Fn := fun xs S => if xs.length = n then gcR S (fin (g (xs.map some ++ List.replicate (N - n) none) S)) else .no
def lCall (g : Fn) (fa : LA) : LE := fun ds S => (fa ds S).bind g
abbrev ξ0 : Xi := fun _ _ _ => False
abbrev WF : WX := fun _ _ _ _ => False
def spF (K : PySem.W.Frag) (T : Env1) (g : Fn) : Sp := fun vs H Q E => ∃ m S xs, RelS K T m S H ∧ RVs K m H xs vs ∧ PoE K T m H (g xs S) Q E
theorem pl_call {f : Addr} {fd : FuncData} {ps : List Str} {x : Str} {p : Pos} {g : Fn} (F : FnOk X.prog X.w X.K X.mg X.base (L2.CX X.prog X.w) k f fd ps (spF X.K T g)) (tk : Takes X W) (hr : Room k X.A) (hg : Gl X x) (hm : X.mg x = some (.ref f)) (hk : PySem.W.keepIn X.K (.ref f) = true) (hb : Binds X.K fd ps [])
    (ha : PA X (e :: es) (tLA X.K T ξ W ga)) (hdb : (x == ("__debug__" : Str)) = false := by decide) (he : starEach (e :: es) X.env = (false, eval e X.env) :: starEach es X.env := by rfl) (hpl : (backTo pos (starEach es X.env)).any (·.1) = false := by rfl) :
    PE X (.Call (.Name x p) (e :: es) [] pos) (tL X.K T ξ W (lCall g ga)) :=
  pe_imp (pe_callS F hr hg hm hk hb (E := WE W) (fun σ => passAt tk σ) ha hdb he hpl) fun σ H Q ⟨m, S, ds, r0, rs, h⟩ => tLA.bind r0 rs h fun vs S1 m1 H1 xs E r1 rs1 rv h1 => ⟨m1, S1, vs, r1, rv, h1⟩
theorem pl_call0 {f : Addr} {fd : FuncData} {ps : List Str} {x : Str} {p : Pos} {g : Fn} (F : FnOk X.prog X.w X.K X.mg X.base (L2.CX X.prog X.w) k f fd ps (spF X.K T g)) (tk : Takes X W) (hr : Room k X.A) (hg : Gl X x) (hm : X.mg x = some (.ref f)) (hk : PySem.W.keepIn X.K (.ref f) = true) (hb : Binds X.K fd ps [])
    (hdb : (x == ("__debug__" : Str)) = false := by decide) :
    PE X (.Call (.Name x p) [] [] pos) (tL X.K T ξ W (lCall g lNil)) := ⟨fun pins s σ H Q I ⟨m, S, ds, r0, rs, h⟩ => by
  refine wpAny_Call_Name_kw (ld_glob I hg hm ?_ hdb)
  exact PySem.W.callWith_K0 I.kIn hk (run_fnS (us := []) F hr hb (E := WE W) (passAt tk σ) I .nil ⟨m, S, [], r0, RVs.nil, h⟩)⟩
end

/-! ### statements -/
def bindS (r : R) (ds : Sl) (k : LV → Sto → RS) : RS := match r with
  | .ok v S => k v S
  | .ex c fs S => .ex c fs ds S
  | .no => .no
def seqK (b : LS) : RS → RS
  | .nx ds S => b ds S
  | r => r
def lSeq (a b : LS) : LS := fun ds S => seqK b (a ds S)
def lNx : LS := fun ds S => .nx ds S
def lDrop (fe : LE) : LS := fun ds S => bindS (fe ds S) ds fun _ S1 => .nx ds S1
def lRet (fe : LE) : LS := fun ds S => bindS (fe ds S) ds fun v S1 => .rt v S1
def lRetN : LS := fun _ S => .rt .non S
def lBrk : LS := fun ds S => .bk ds S
def lCnt : LS := fun ds S => .ct ds S
def iteS (r r' : Sto → RS) : LV → Sto → RS
  | .bl true, S => r S
  | .bl false, S => r' S
  | _, _ => .no
def lIf (fc : LE) (a b : LS) : LS := fun ds S => bindS (fc ds S) ds (iteS (fun S1 => a ds S1) fun S1 => b ds S1)
/-- a target: what the slots are behind it -/
abbrev LG := LV → Sto → Sl → Option Sl
def gNm (i : Nat) : LG := fun v _ ds => some (ds.set i (some v))
abbrev LGs := List LV → Sto → Sl → Option Sl
def gsNil : LGs := fun vs _ ds => match vs with
  | [] => some ds
  | _ => none
def gsCons (g : LG) (gs : LGs) : LGs := fun vs S ds => match vs with
  | v :: r => match g v S ds with
    | some ds1 => gs r S ds1
    | none => none
  | [] => none
def gTp (gs : LGs) : LG := fun v S ds => match v with
  | .tup xs => gs xs S ds
  | .ktp xs => gs xs S ds
  | _ => none
def asgK (g : LG) (ds : Sl) : LV → Sto → RS := fun v S => match g v S ds with
  | some ds1 => .nx ds1 S
  | none => .no
def lAsg (fe : LE) (g : LG) : LS := fun ds S => bindS (fe ds S) ds (asgK g ds)
def tGL (K : PySem.W.Frag) (T : Env1) (ξ : Xi) (g : LG) : TG := fun x σ H Q => ∃ m S v ds ds', RelS K T m S H ∧ RSl K ξ m H ds σ ∧ RV K m H v x ∧ g v S ds = some ds' ∧ ∀ σ', RSl K ξ m H ds' σ' → Q σ' H
def tGLs (K : PySem.W.Frag) (T : Env1) (ξ : Xi) (g : LGs) : TGs := fun xs σ H Q => ∃ m S vs ds ds', RelS K T m S H ∧ RSl K ξ m H ds σ ∧ RVs K m H vs xs ∧ g vs S ds = some ds' ∧ ∀ σ', RSl K ξ m H ds' σ' → Q σ' H
section
variable {X : Cx} {T : Env1} {ξ : Xi} {W : WX} {e c : Expr} {es : List Expr} {st : Stmt} {sts sb : List Stmt} {pos : Pos} {fe fc : LE} {a b : LS} {lg : LG} {lgs : LGs} {k : Nat}
theorem ps_imp {t t' : TS} (h : PS X st t) (i : ∀ D σ H, t' D σ H → t D σ H) : PS X st t' := ⟨fun pins s σ H D I q => h.run pins s σ H D I (i D σ H q)⟩
theorem pss_imp {t t' : TS} (h : PSs X sts t) (i : ∀ D σ H, t' D σ H → t D σ H) : PSs X sts t' := ⟨fun pins s σ H D I q => h.run pins s σ H D I (i D σ H q)⟩
theorem pg_imp {t t' : TG} (h : PG X e t) (i : ∀ x σ H Q, t' x σ H Q → t x σ H Q) : PG X e t' := ⟨fun pins s σ H v u Q I r q => h.run pins s σ H v u Q I r (i v σ H Q q)⟩
theorem pgs_imp {t t' : TGs} (h : PGs X es t) (i : ∀ x σ H Q, t' x σ H Q → t x σ H Q) : PGs X es t' := ⟨fun pins s σ H v u Q I r q => h.run pins s σ H v u Q I r (i v σ H Q q)⟩
/-- an expression in a statement -/
theorem tL.bindS {σ : L2.St} {m : List Addr} {S : Sto} {H : Hp} {ds : Sl} {k : LV → Sto → RS} {D : Ends} (r : RelS X.K T m S H) (rs : RSl X.K ξ m H ds σ) (h : PoS X.K T ξ m H (LL.bindS (fe ds S) ds k) D W) {Q2 : VK}
    (hq : ∀ v S1 m1 H1 x, Ext m H m1 H1 → RelS X.K T m1 S1 H1 → RSl X.K ξ m1 H1 ds σ → RV X.K m1 H1 v x → PoS X.K T ξ m1 H1 (k v S1) D W → Q2 x H1) : tL X.K T ξ W fe σ H Q2 := by
  refine ⟨m, S, ds, r, rs, ?_⟩
  cases e : fe ds S with
  | ok v S1 =>
    rw [e] at h
    exact fun m1 H1 x E r1 rv => hq v S1 m1 H1 x E r1 (rs.mono E) rv (PoS.mono E h)
  | ex c fs S1 =>
    rw [e] at h
    exact fun m1 H1 cls d E r1 rx => h m1 H1 σ cls d E r1 (rs.mono E) rx
  | no =>
    rw [e] at h
    exact h
theorem sl_nil : PSs X [] (tLS X.K T ξ W lNx) := pss_imp pss_nil fun D σ H ⟨m, S, ds, r, rs, h⟩ => h m H σ Ext.refl r rs
theorem sl_cons (h1 : PS X st (tLS X.K T ξ W a)) (h2 : PSs X sts (tLS X.K T ξ W b)) : PSs X (st :: sts) (tLS X.K T ξ W (lSeq a b)) := pss_imp (pss_cons h1 h2) fun D σ H ⟨m, S, ds, r, rs, h⟩ => by
  refine ⟨m, S, ds, r, rs, ?_⟩
  unfold lSeq at h
  cases e : a ds S with
  | nx ds1 S1 =>
    rw [e] at h
    exact fun m1 H1 σ1 E r1 rs1 => ⟨m1, S1, ds1, r1, rs1, PoS.mono E h⟩
  | rt v S1 => rw [e] at h; exact h
  | bk ds1 S1 => rw [e] at h; exact h
  | ct ds1 S1 => rw [e] at h; exact h
  | ex c fs ds1 S1 => rw [e] at h; exact h
  | no => rw [e] at h; exact h
theorem sl_one (h : PS X st (tLS X.K T ξ W a)) : PSs X [st] (tLS X.K T ξ W a) := pss_one h
theorem sl_pass : PS X (.Pass pos) (tLS X.K T ξ W lNx) := ps_imp ps_pass fun D σ H ⟨m, S, ds, r, rs, h⟩ => h m H σ Ext.refl r rs
theorem sl_break : PS X (.Break pos) (tLS X.K T ξ W lBrk) := ps_imp ps_break fun D σ H ⟨m, S, ds, r, rs, h⟩ => h m H σ Ext.refl r rs
theorem sl_continue : PS X (.Continue pos) (tLS X.K T ξ W lCnt) := ps_imp ps_continue fun D σ H ⟨m, S, ds, r, rs, h⟩ => h m H σ Ext.refl r rs
theorem sl_expr (he : PE X e (tL X.K T ξ W fe)) (hs : swapsWith e none pos.line X.env = pure false := by rfl) : PS X (.Expr e pos) (tLS X.K T ξ W (lDrop fe)) :=
  ps_imp (ps_expr he hs) fun D σ H ⟨m, S, ds, r, rs, h⟩ => tL.bindS r rs h fun v S1 m1 H1 x E r1 rs1 rv h1 => h1 m1 H1 σ Ext.refl r1 rs1
theorem sl_ret (he : PE X e (tL X.K T ξ W fe)) : PS X (.Return (some e) pos) (tLS X.K T ξ W (lRet fe)) :=
  ps_imp (ps_ret he) fun D σ H ⟨m, S, ds, r, rs, h⟩ => tL.bindS r rs h fun v S1 m1 H1 x E r1 rs1 rv h1 => h1 m1 H1 x Ext.refl r1 rv
theorem sl_retN : PS X (.Return none pos) (tLS X.K T ξ W lRetN) := ps_imp ps_retN fun D σ H ⟨m, S, ds, r, rs, h⟩ => h m H .non Ext.refl r rfl
theorem sl_if (hc : PT X c (tTest (tL X.K T ξ W fc))) (ha : PSs X sts (tLS X.K T ξ W a)) (hb : PSs X sb (tLS X.K T ξ W b)) : PS X (.If c sts sb pos) (tLS X.K T ξ W (lIf fc a b)) :=
  ps_imp (ps_if hc ha hb) fun D σ H ⟨m, S, ds, r, rs, h⟩ => tL.bindS r rs h fun v S1 m1 H1 x E r1 rs1 rv h1 => by
    cases v with
    | bl k =>
      refine ⟨k, rv, ?_⟩
      cases k with
      | true => exact ⟨_, _, _, r1, rs1, h1⟩
      | false => exact ⟨_, _, _, r1, rs1, h1⟩
    | _ => exact h1.elim
theorem gl_name (i : Nat) {x : Str} (hN : X.N.Nodup) (hi : X.N[i]? = some x := by rfl) (hx : Loc X.env.scope x := by first | exact Or.inl rfl | exact Or.inr rfl) (hf : X.fn x = true ∨ X.env.scope.names.lookup x = some .local := by first | exact .inl rfl | exact .inr rfl | assumption) :
    PG X (.Name x pos) (tGL X.K T ξ (gNm i)) := pg_imp (pg_name hN hi hx hf) fun x σ H Q ⟨m, S, v, ds, ds', r, rs, rv, e, q⟩ => by
  cases e
  exact q _ (rs.set i (RVx.of rv))
theorem gsl_nil : PGs X [] (tGLs X.K T ξ gsNil) := pgs_imp pgs_nil fun x σ H Q ⟨m, S, vs, ds, ds', r, rs, rv, e, q⟩ => by
  cases vs with
  | nil =>
    cases e
    exact ⟨rv.nilE, q σ rs⟩
  | cons v r => cases e
theorem gsl_cons {e : Expr} {es : List Expr} (h1 : PG X e (tGL X.K T ξ lg)) (h2 : PGs X es (tGLs X.K T ξ lgs)) (hs : (assignEach (e :: es) X.env).map (·.2) = assign e X.env :: (assignEach es X.env).map (·.2) := by rfl) : PGs X (e :: es) (tGLs X.K T ξ (gsCons lg lgs)) :=
  pgs_imp (pgs_cons h1 h2 hs) fun xs σ H Q ⟨m, S, vs, ds, ds', r, rs, rv, e, q⟩ => by
    cases vs with
    | nil => cases e
    | cons v vr =>
      unfold RVs at rv
      obtain ⟨y, ys, rfl, h1, h2⟩ := rv
      unfold gsCons at e
      simp only at e
      split at e
      · rename_i ds1 hd
        exact ⟨y, ys, rfl, m, S, v, ds, ds1, r, rs, h1, hd, fun σ1 rs1 => ⟨m, S, vr, ds1, ds', r, rs1, h2, e, q⟩⟩
      · cases e
theorem gl_tup {es : List Expr} {j : Nat} (n : Nat) (hc : X.calm = true) (h : PGs X es (tGLs X.K T ξ lgs)) (hl : ∀ vs S ds ds', lgs vs S ds = some ds' → vs.length = n)
    (hn : (assignEach es X.env).length = n := by rfl) (hst : (assignEach es X.env).findIdx? (·.1) = none := by rfl) : PG X (.Tuple es j pos) (tGL X.K T ξ (gTp lgs)) :=
  pg_imp (pg_tup hc h hn hst) fun x σ H Q ⟨m, S, v, ds, ds', r, rs, rv, e, q⟩ => by
    unfold gTp at e
    split at e
    · obtain ⟨a, vs, rfl, ht, hs⟩ := rv.tupE
      exact ⟨a, vs, rfl, SqT.of ht, by rw [← hs.len]; exact hl _ _ _ _ e, m, S, _, ds, ds', r, rs, hs, e, q⟩
    · unfold RV at rv
      obtain ⟨a, vs, rfl, ht, hs⟩ := rv
      exact ⟨a, vs, rfl, ht _, by rw [← hs.len]; exact hl _ _ _ _ e, m, S, _, ds, ds', r, rs, hs, e, q⟩
    · cases e
theorem gs_len0 : ∀ vs S ds ds', gsNil vs S ds = some ds' → vs.length = 0 := fun vs S ds ds' e => by
  cases vs with
  | nil => rfl
  | cons v r => cases e
theorem gs_len1 {n : Nat} (h : ∀ vs S ds ds', lgs vs S ds = some ds' → vs.length = n) : ∀ vs S ds ds', gsCons lg lgs vs S ds = some ds' → vs.length = n + 1 := fun vs S ds ds' e => by
  cases vs with
  | nil => cases e
  | cons v r =>
    unfold gsCons at e
    simp only at e
    split at e
    · rw [List.length_cons, h _ _ _ _ e]
    · cases e
theorem sl_asg {tg : Expr} (he : PE X e (tL X.K T ξ W fe)) (hg : PG X tg (tGL X.K T ξ lg)) (hs : swapsWithSole [tg] e pos.line X.env = pure false := by rfl) (hw : swappedStores [tg] e X.env = pure none := by rfl)
    (h1 : (assignEach [tg] X.env).map (·.2) = [assign tg X.env] := by rfl) : PS X (.Assign [tg] e pos) (tLS X.K T ξ W (lAsg fe lg)) :=
  ps_imp (ps_asg he hg hs hw h1) fun D σ H ⟨m, S, ds, r, rs, h⟩ => tL.bindS r rs h fun v S1 m1 H1 x E r1 rs1 rv h1 => by
    unfold asgK at h1
    split at h1
    · rename_i ds1 hd
      exact ⟨m1, S1, v, ds, ds1, r1, rs1, rv, hd, fun σ' rs' => h1 m1 H1 σ' Ext.refl r1 rs'⟩
    · exact h1.elim
theorem sl_set (i : Nat) {x : Str} {pos' : Pos} (hN : X.N.Nodup) (he : PE X e (tL X.K T ξ W fe)) (hi : X.N[i]? = some x := by rfl) (hx : Loc X.env.scope x := by first | exact Or.inl rfl | exact Or.inr rfl) (hs : swapsWith e (some (.Name x pos')) pos.line X.env = pure false := by rfl)
    (hf : X.fn x = true ∨ X.env.scope.names.lookup x = some .local := by first | exact .inl rfl | exact .inr rfl | assumption) : PS X (.Assign [.Name x pos'] e pos) (tLS X.K T ξ W (lAsg fe (gNm i))) :=
  ps_imp (ps_set hN hi hx he hs hf) fun D σ H ⟨m, S, ds, r, rs, h⟩ => tL.bindS r rs h fun v S1 m1 H1 x E r1 rs1 rv h1 => h1 m1 H1 _ Ext.refl r1 (rs1.set i (RVx.of rv))

/-! ### while -/
def whK (fc : LE) (fb : LS) : Nat → Sl → Sto → RS
  | 0, _, _ => .no
  | n + 1, ds, S => bindS (fc ds S) ds (iteS (fun S1 => match fb ds S1 with
    | .nx ds2 S2 => whK fc fb n ds2 S2
    | .ct ds2 S2 => whK fc fb n ds2 S2
    | .bk ds2 S2 => .nx ds2 S2
    | r => r) fun S1 => .nx ds S1)
def lWh (n : Nat) (fc : LE) (fb : LS) : LS := whK fc fb n
theorem sl_while (n : Nat) (hp : PassesOwn (model X.prog X.w) X.A X.env X.xe) (hc : PT X c (tTest (tL X.K T ξ W fc))) (hb : PSs X sts (tLS X.K T ξ W b)) : PS X (.While c sts [] pos) (tLS X.K T ξ W (lWh n fc b)) :=
  ps_imp (ps_while hp hc hb) fun D σ H ⟨m, S, ds, r, rs, h⟩ => by
    refine ⟨fun j σ' H' => ∃ m' S' ds', RelS X.K T m' S' H' ∧ RSl X.K ξ m' H' ds' σ' ∧ PoS X.K T ξ m' H' (whK fc b j ds' S') D W, ⟨n, m, S, ds, r, rs, h⟩, ?_⟩
    rintro j σ' H' ⟨m', S', ds', r', rs', h'⟩
    cases j with
    | zero => exact h'.elim
    | succ j =>
      unfold whK at h'
      refine tL.bindS r' rs' h' fun v S1 m1 H1 x E r1 rs1 rv h1 => ?_
      cases v with
      | bl k =>
        refine ⟨k, rv, ?_⟩
        cases k with
        | true =>
          refine ⟨fun σ2 H2 => ∃ m' S' ds', RelS X.K T m' S' H2 ∧ RSl X.K ξ m' H2 ds' σ2 ∧ PoS X.K T ξ m' H2 (whK fc b j ds' S') D W, fun σ2 H2 q => ⟨j, Nat.lt_succ_self j, q⟩, m1, S1, ds', r1, rs1, ?_⟩
          change PoS X.K T ξ m1 H1 (match b ds' S1 with
            | .nx ds2 S2 => whK fc b j ds2 S2
            | .ct ds2 S2 => whK fc b j ds2 S2
            | .bk ds2 S2 => .nx ds2 S2
            | r => r) D W at h1
          cases e : b ds' S1 with
          | nx ds2 S2 =>
            rw [e] at h1
            exact fun m2 H2 σ2 E2 r2 rs2 => ⟨m2, S2, ds2, r2, rs2, PoS.mono E2 h1⟩
          | ct ds2 S2 =>
            rw [e] at h1
            exact fun m2 H2 σ2 E2 r2 rs2 => ⟨m2, S2, ds2, r2, rs2, PoS.mono E2 h1⟩
          | bk ds2 S2 => rw [e] at h1; exact h1
          | rt v S2 => rw [e] at h1; exact h1
          | ex c fs ds2 S2 => rw [e] at h1; exact h1
          | no => rw [e] at h1; exact h1
        | false => exact h1 m1 H1 σ' Ext.refl r1 rs1
      | _ => exact h1.elim

end
end LL


set_option Elab.async false
set_option linter.all false
set_option maxRecDepth 100000
set_option maxHeartbeats 2000000
/-! The logical layer: what loops go through, for, list comprehensions. -/
namespace LL
open PySem PySem.Spec PyProof.Rows L2

/-- so many turns, the item at each, whether it ends as it should -/
structure LIt where
  n : Nat
  item : Nat → Sto → Option LV
  fine : Sto → Bool
def itOf (xs : List LV) : LIt := ⟨xs.length, fun i _ => xs[i]?, fun _ => true⟩
def refI (k n i : Nat) (S : Sto) : Option LV := match S[k]? with
  | some (.lst ys) => if ys.length = n then ys[i]? else none
  | _ => none
def refF (k n : Nat) (S : Sto) : Bool := match S[k]? with
  | some (.lst ys) => decide (ys.length = n)
  | _ => false
def itRef (k n : Nat) : LIt := ⟨n, fun i S => refI k n i S, fun S => refF k n S⟩
inductive RI where
  | ok (l : LIt) (S : Sto)
  | ex (c : Nat) (fs : List LV) (S : Sto)
  | no
abbrev LI := Sl → Sto → RI
structure ItL (K : PySem.W.Frag) (T : Env1) (m0 : List Addr) (H0 : Hp) (J : It) (l : LIt) : Prop where
  stop : ∀ m S H, Ext m0 H0 m H → RelS K T m S H → l.fine S = true → J.stop l.n H
  go : ∀ i m S H v, i < l.n → Ext m0 H0 m H → RelS K T m S H → l.item i S = some v → J.go i H
  yld : ∀ i x H' m S H v, i < l.n → Ext m0 H0 m H → RelS K T m S H → l.item i S = some v → J.yld i H x H' → Ext m H m H' ∧ RelS K T m S H' ∧ RV K m H' v x
def PoI (K : PySem.W.Frag) (T : Env1) (m : List Addr) (H : Hp) (r : RI) (R : It → Hp → Prop) (W : XK) : Prop :=
  match r with
  | .ok l S => ∀ m' H' J, Ext m H m' H' → RelS K T m' S H' → ItL K T m' H' J l → R J H'
  | .ex c fs S => ∀ m' H' cls d, Ext m H m' H' → RelS K T m' S H' → RX K T m' H' c fs cls d → W cls d H'
  | .no => False
def tI (K : PySem.W.Frag) (T : Env1) (ξ : Xi) (W : WX) (f : LI) : TI := fun σ H R => ∃ m S ds, RelS K T m S H ∧ RSl K ξ m H ds σ ∧ PoI K T m H (f ds S) R (fun cls d H' => W cls d σ H')
def bindI (r : R) (k : LV → Sto → RI) : RI := match r with
  | .ok v S => k v S
  | .ex c fs S => .ex c fs S
  | .no => .no
def bindIA (r : RL) (k : List LV → Sto → RI) : RI := match r with
  | .ok v S => k v S
  | .ex c fs S => .ex c fs S
  | .no => .no
def signs (z : Str) : List LV := z.cps.toList.map fun c => .str ⟨#[c]⟩
def iterO (v : LV) (S : Sto) : RI := match v with
  | .tup xs => .ok (itOf xs) S
  | .ktp xs => .ok (itOf xs) S
  | .scr ns => .ok (itOf (ns.map .int)) S
  | .str z => .ok (itOf (signs z)) S
  | .ref n => match S[n]? with
    | some (.lst xs) => .ok (itRef n xs.length) S
    | _ => .no
  | _ => .no
def lIter (f : LE) : LI := fun ds S => bindI (f ds S) iterO
def okRg (i : Int) : Bool := decide (-(2 ^ 62) ≤ i) && decide (i < 2 ^ 62)
def rng (lo : Int) (n : Nat) : List LV := (List.range n).map fun (k : Nat) => .int (lo + (k : Int))
def rng1O : List LV → Sto → RI
  | [.int j], S => if okRg j = true then .ok (itOf (rng 0 j.toNat)) S else .no
  | _, _ => .no
def rng2O : List LV → Sto → RI
  | [.int i, .int j], S => if (okRg i && okRg j) = true then .ok (itOf (rng i (j - i).toNat)) S else .no
  | _, _ => .no
def lRng1 (f : LA) : LI := fun ds S => bindIA (f ds S) rng1O
def lRng2 (f : LA) : LI := fun ds S => bindIA (f ds S) rng2O
section
variable {K : PySem.W.Frag} {T : Env1} {m0 : List Addr} {H0 : Hp}
theorem it_list {S0 : Sto} {a : Addr} {k n : Nat} (hm : m0[k]? = some a) : ItL K T m0 H0 (Itl K a) (itRef k n) where
  stop := fun m S H E r h => by
    simp only [itRef, refF] at h
    split at h
    · rename_i ys hk
      obtain ⟨vs, h1, h2⟩ := r.at (E.get hm) hk
      exact ⟨vs, SqL.of h1, by
        show vs.length ≤ n
        rw [← h2.len, of_decide_eq_true h]
        exact Nat.le_refl _⟩
    · cases h
  go := fun i m S H v hi E r h => by
    simp only [itRef, refI] at h
    split at h
    · rename_i ys hk
      split at h
      · obtain ⟨vs, h1, h2⟩ := r.at (E.get hm) hk
        obtain ⟨x, hx, _⟩ := h2.get h
        exact ⟨vs, x, SqL.of h1, hx⟩
      · cases h
    · cases h
  yld := fun i x H' m S H v hi E r h y => by
    simp only [itRef, refI] at h
    split at h
    · rename_i ys hk
      split at h
      · obtain ⟨vs, h1, h2⟩ := r.at (E.get hm) hk
        obtain ⟨z, hz, rz⟩ := h2.get h
        obtain ⟨rfl, y2⟩ := y
        have := y2 vs (SqL.of h1)
        rw [hz] at this
        cases this
        exact ⟨Ext.refl, r, rz⟩
      · cases h
    · cases h
theorem it_tup {a : Addr} {xs : List LV} {vs : List V} (ht : ∀ m H, Ext m0 H0 m H → SqT K H a vs) (hs : RVs K m0 H0 xs vs) : ItL K T m0 H0 (Itt K a) (itOf xs) where
  stop := fun m S H E r h => ⟨vs, ht m H E, by show vs.length ≤ xs.length; rw [hs.len]; exact Nat.le_refl _⟩
  go := fun i m S H v hi E r h => by
    obtain ⟨x, hx, _⟩ := hs.get (show xs[i]? = some v from h)
    exact ⟨vs, x, ht m H E, hx⟩
  yld := fun i x H' m S H v hi E r h y => by
    obtain ⟨z, hz, rz⟩ := hs.get (show xs[i]? = some v from h)
    obtain ⟨rfl, y2⟩ := y
    have := y2 vs (ht m _ E)
    rw [hz] at this
    cases this
    exact ⟨Ext.refl, r, rz.mono E⟩
theorem it_lst {a : Addr} {xs : List LV} {vs : List V} (ht : ∀ m H, Ext m0 H0 m H → SqL K H a vs) (hs : RVs K m0 H0 xs vs) : ItL K T m0 H0 (Itl K a) (itOf xs) where
  stop := fun m S H E r h => ⟨vs, ht m H E, by show vs.length ≤ xs.length; rw [hs.len]; exact Nat.le_refl _⟩
  go := fun i m S H v hi E r h => by
    obtain ⟨x, hx, _⟩ := hs.get (show xs[i]? = some v from h)
    exact ⟨vs, x, ht m H E, hx⟩
  yld := fun i x H' m S H v hi E r h y => by
    obtain ⟨z, hz, rz⟩ := hs.get (show xs[i]? = some v from h)
    obtain ⟨rfl, y2⟩ := y
    have := y2 vs (ht m _ E)
    rw [hz] at this
    cases this
    exact ⟨Ext.refl, r, rz.mono E⟩
theorem it_str {z : Str} : ItL K T m0 H0 (Its z) (itOf (signs z)) where
  stop := fun m S H E r h => by
    show z.cps.size ≤ (signs z).length
    simp [signs]
  go := fun i m S H v hi E r h => by
    have : i < (signs z).length := hi
    have : i < z.cps.size := by simpa [signs] using this
    exact this
  yld := fun i x H' m S H v hi E r h y => by
    obtain ⟨rfl, c, hc, rfl⟩ := y
    refine ⟨Ext.refl, r, ?_⟩
    have h' : (signs z)[i]? = some v := h
    unfold signs at h'
    rw [List.getElem?_map, Array.getElem?_toList, hc] at h'
    cases h'
    rfl
theorem it_rng {lo : Int} {n : Nat} : ItL K T m0 H0 (Itr lo n) (itOf (rng lo n)) where
  stop := fun m S H E r h => by
    show n ≤ (rng lo n).length
    simp [rng]
  go := fun i m S H v hi E r h => by
    have : i < (rng lo n).length := hi
    have : i < n := by simpa [rng] using this
    exact this
  yld := fun i x H' m S H v hi E r h y => by
    obtain ⟨rfl, rfl⟩ := y
    refine ⟨Ext.refl, r, ?_⟩
    have hi' : i < n := by
      have : i < (rng lo n).length := hi
      simpa [rng] using this
    have h' : (rng lo n)[i]? = some v := h
    unfold rng at h'
    rw [List.getElem?_map, List.getElem?_range hi'] at h'
    cases h'
    rfl
end

section
variable {X : Cx} {T : Env1} {ξ : Xi} {W : WX} {e tg : Expr} {es : List Expr} {sts : List Stmt} {pos p : Pos} {fe fc : LE} {ga : LA} {b : LS} {lg : LG} {li : LI}
theorem pi_imp {t t' : TI} (h : PI X tg e t) (i : ∀ σ H Q, t' σ H Q → t σ H Q) : PI X tg e t' := ⟨fun pins s σ H Q I q => h.run pins s σ H Q I (i σ H Q q)⟩
theorem tL.bindI {σ : L2.St} {m : List Addr} {S : Sto} {H : Hp} {ds : Sl} {k : LV → Sto → RI} {R : It → Hp → Prop} (r : RelS X.K T m S H) (rs : RSl X.K ξ m H ds σ) (h : PoI X.K T m H (LL.bindI (fe ds S) k) R (fun cls d H' => W cls d σ H')) {Q2 : VK}
    (hq : ∀ v S1 m1 H1 x, fe ds S = .ok v S1 → Ext m H m1 H1 → RelS X.K T m1 S1 H1 → RV X.K m1 H1 v x → PoI X.K T m1 H1 (k v S1) R (fun cls d H' => W cls d σ H') → Q2 x H1) : tL X.K T ξ W fe σ H Q2 := by
  refine ⟨m, S, ds, r, rs, ?_⟩
  have mono : ∀ {m1 H1} {x : RI}, Ext m H m1 H1 → PoI X.K T m H x R (fun cls d H' => W cls d σ H') → PoI X.K T m1 H1 x R (fun cls d H' => W cls d σ H') := fun {m1 H1 x} E h => by
    cases x with
    | ok l S2 => exact fun m' H' J E' => h m' H' J (E.trans E')
    | ex c fs S2 => exact fun m' H' cls d E' => h m' H' cls d (E.trans E')
    | no => exact h
  cases e : fe ds S with
  | ok v S1 =>
    rw [e] at h
    exact fun m1 H1 x E r1 rv => hq v S1 m1 H1 x e E r1 rv (mono E h)
  | ex c fs S1 =>
    rw [e] at h
    exact h
  | no =>
    rw [e] at h
    exact h
/-- over a list, a tuple, a text -/
theorem il_val (he : PE X e (tL X.K T ξ W fe)) : PI X tg e (tI X.K T ξ W (lIter fe)) := ⟨fun pins s σ H R I ⟨m, S, ds, r, rs, h⟩ => by
  cases q : fe ds S with
  | ok v S1 =>
    cases v with
    | ref n =>
      refine (pi_list he).run pins s σ H R I (tL.bindI r rs h fun v S2 m1 H1 x e2 E r1 rv h1 => ?_)
      rw [q] at e2
      cases e2
      unfold iterO at h1
      simp only at h1
      split at h1
      · rename_i xs hn
        obtain ⟨a, vs, rfl, hm, ha, hs⟩ := rv.lst r1 hn
        exact ⟨a, rfl, ⟨vs, SqL.of ha⟩, h1 m1 H1 _ Ext.refl r1 (it_list (S0 := S1) hm)⟩
      · exact h1.elim
    | scr ns =>
      refine (pi_list he).run pins s σ H R I (tL.bindI r rs h fun v S2 m1 H1 x e2 E r1 rv h1 => ?_)
      rw [q] at e2
      cases e2
      unfold RV at rv
      obtain ⟨a, rfl, ha⟩ := rv
      exact ⟨a, rfl, ⟨_, scr_sq ha⟩, h1 m1 H1 _ Ext.refl r1 (it_lst (fun m2 H2 E2 => scr_sq (E2.kp.scr ha)) (RVs.ints ns))⟩
    | tup xs =>
      refine (pi_tup he).run pins s σ H R I (tL.bindI r rs h fun v S2 m1 H1 x e2 E r1 rv h1 => ?_)
      rw [q] at e2
      cases e2
      obtain ⟨a, vs, rfl, ht, hs⟩ := rv.tupE
      exact ⟨a, rfl, ⟨vs, SqT.of ht⟩, h1 m1 H1 _ Ext.refl r1 (it_tup (fun m2 H2 E2 => SqT.of (E2.tup _ _ ht)) hs)⟩
    | ktp xs =>
      refine (pi_tup he).run pins s σ H R I (tL.bindI r rs h fun v S2 m1 H1 x e2 E r1 rv h1 => ?_)
      rw [q] at e2
      cases e2
      unfold RV at rv
      obtain ⟨a, vs, rfl, ht, hs⟩ := rv
      exact ⟨a, rfl, ⟨vs, ht _⟩, h1 m1 H1 _ Ext.refl r1 (it_tup (fun m2 H2 E2 => ht _) hs)⟩
    | str z =>
      refine (pi_str he).run pins s σ H R I (tL.bindI r rs h fun v S2 m1 H1 x e2 E r1 rv h1 => ?_)
      rw [q] at e2
      cases e2
      exact ⟨z, rv, h1 m1 H1 _ Ext.refl r1 it_str⟩
    | _ =>
      unfold lIter at h
      rw [q] at h
      exact h.elim
  | ex c fs S1 =>
    refine (pi_list he).run pins s σ H R I ⟨m, S, ds, r, rs, ?_⟩
    unfold lIter at h
    rw [q] at h ⊢
    exact h
  | no =>
    unfold lIter at h
    rw [q] at h
    exact h.elim⟩
theorem tLA.bindI {σ : L2.St} {m : List Addr} {S : Sto} {H : Hp} {ds : Sl} {k : List LV → Sto → RI} {R : It → Hp → Prop} (r : RelS X.K T m S H) (rs : RSl X.K ξ m H ds σ) (h : PoI X.K T m H (LL.bindIA (ga ds S) k) R (fun cls d H' => W cls d σ H')) {Q2 : List V → Hp → Prop}
    (hq : ∀ v S1 m1 H1 x, Ext m H m1 H1 → RelS X.K T m1 S1 H1 → RVs X.K m1 H1 v x → PoI X.K T m1 H1 (k v S1) R (fun cls d H' => W cls d σ H') → Q2 x H1) : tLA X.K T ξ W ga σ H Q2 := by
  refine ⟨m, S, ds, r, rs, ?_⟩
  have mono : ∀ {m1 H1} {x : RI}, Ext m H m1 H1 → PoI X.K T m H x R (fun cls d H' => W cls d σ H') → PoI X.K T m1 H1 x R (fun cls d H' => W cls d σ H') := fun {m1 H1 x} E h => by
    cases x with
    | ok l S2 => exact fun m' H' J E' => h m' H' J (E.trans E')
    | ex c fs S2 => exact fun m' H' cls d E' => h m' H' cls d (E.trans E')
    | no => exact h
  cases e : ga ds S with
  | ok v S1 =>
    rw [e] at h
    exact fun m1 H1 x E r1 rv => hq v S1 m1 H1 x E r1 rv (mono E h)
  | ex c fs S1 =>
    rw [e] at h
    exact h
  | no =>
    rw [e] at h
    exact h
theorem okRg_ok {i : Int} (h : okRg i = true) : -(2 ^ 62) ≤ i ∧ i < 2 ^ 62 := by
  unfold okRg at h
  rw [Bool.and_eq_true] at h
  exact ⟨of_decide_eq_true h.1, of_decide_eq_true h.2⟩
theorem il_rng1 {a : Expr} (hg : Gl X "range") (hm : X.mg "range" = none) (ha : PA X [a] (tLA X.K T ξ W ga)) (hs : starEach [a] X.env = [(false, eval a X.env)] := by rfl) : PI X tg (.Call (.Name "range" p) [a] [] pos) (tI X.K T ξ W (lRng1 ga)) :=
  pi_imp (pi_range1 hg hm ha hs) fun σ H R ⟨m, S, ds, r, rs, h⟩ => tLA.bindI (k := rng1O) (R := R) r rs h fun vs S1 m1 H1 xs E r1 rv h1 => by
    unfold rng1O at h1
    split at h1
    · obtain ⟨x, rfl, rx⟩ := rv.one
      split at h1
      · rename_i hz
        obtain ⟨z1, z2⟩ := okRg_ok hz
        exact ⟨_, by rw [show x = .int _ from rx], z1, z2, h1 m1 H1 _ Ext.refl r1 it_rng⟩
      · exact h1.elim
    · exact h1.elim
theorem il_rng2 {a b : Expr} (hg : Gl X "range") (hm : X.mg "range" = none) (ha : PA X [a, b] (tLA X.K T ξ W ga)) (hs : starEach [a, b] X.env = [(false, eval a X.env), (false, eval b X.env)] := by rfl) (hs2 : starEach [b] X.env = [(false, eval b X.env)] := by rfl) :
    PI X tg (.Call (.Name "range" p) [a, b] [] pos) (tI X.K T ξ W (lRng2 ga)) :=
  pi_imp (pi_range2 hg hm ha hs hs2) fun σ H R ⟨m, S, ds, r, rs, h⟩ => tLA.bindI (k := rng2O) (R := R) r rs h fun vs S1 m1 H1 xs E r1 rv h1 => by
    unfold rng2O at h1
    split at h1
    · obtain ⟨x, y, rfl, rx, ry⟩ := rv.two
      split at h1
      · rename_i hz
        rw [Bool.and_eq_true] at hz
        obtain ⟨z1, z2⟩ := okRg_ok hz.1
        obtain ⟨z3, z4⟩ := okRg_ok hz.2
        exact ⟨_, _, by rw [show x = .int _ from rx, show y = .int _ from ry], ⟨z1, z2, z3, z4⟩, h1 m1 H1 _ Ext.refl r1 it_rng⟩
      · exact h1.elim
    · exact h1.elim

/-! ### for -/
def forK (l : LIt) (lg : LG) (fb : LS) : Nat → Nat → Sl → Sto → RS
  | 0, _, ds, S => if l.fine S = true then .nx ds S else .no
  | k + 1, i, ds, S => match l.item i S with
    | none => .no
    | some v => match lg v S ds with
      | none => .no
      | some ds1 => match fb ds1 S with
        | .nx ds2 S2 => forK l lg fb k (i + 1) ds2 S2
        | .ct ds2 S2 => forK l lg fb k (i + 1) ds2 S2
        | .bk ds2 S2 => .nx ds2 S2
        | r => r
def forS (lg : LG) (fb : LS) (ds : Sl) : RI → RS
  | .ok l S => forK l lg fb l.n 0 ds S
  | .ex c fs S => .ex c fs ds S
  | .no => .no
def lFor (li : LI) (lg : LG) (fb : LS) : LS := fun ds S => forS lg fb ds (li ds S)
theorem sl_for (hp : PassesOwn (model X.prog X.w) X.A X.env X.xe) (hc : X.calm = true) (hi : PI X tg e (tI X.K T ξ W li)) (hg : PG X tg (tGL X.K T ξ lg)) (hb : PSs X sts (tLS X.K T ξ W b)) (hs : ∀ x, foldedSetIterable e X.env x = pure x := by intro _; rfl) :
    PS X (.For tg e sts [] pos) (tLS X.K T ξ W (lFor li lg b)) :=
  ps_imp (ps_for hp hc hi hg hb hs) fun D σ H ⟨m, S, ds, r, rs, h⟩ => by
    refine ⟨m, S, ds, r, rs, ?_⟩
    unfold lFor at h
    cases q : li ds S with
    | ex c fs S1 =>
      rw [q] at h
      exact fun m1 H1 cls d E r1 rx => h m1 H1 σ cls d E r1 (rs.mono E) rx
    | no => rw [q] at h; exact h
    | ok l S1 =>
      rw [q] at h
      intro m1 H1 J E1 r1 it
      refine ⟨fun i k σ' H' => i + k = l.n ∧ ∃ m' S' ds', Ext m1 H1 m' H' ∧ RelS X.K T m' S' H' ∧ RSl X.K ξ m' H' ds' σ' ∧ PoS X.K T ξ m' H' (forK l lg b k i ds' S') D W,
        ⟨l.n, Nat.zero_add _, m1, S1, ds, Ext.refl, r1, rs.mono E1, PoS.mono E1 h⟩, ?_⟩
      rintro i k σ' H' ⟨ek, m', S', ds', E', r', rs', h'⟩
      cases k with
      | zero =>
        unfold forK at h'
        split at h'
        · rename_i hf
          have ei : i = l.n := by omega
          subst ei
          exact .inl ⟨it.stop m' S' H' E' r' hf, h' m' H' σ' Ext.refl r' rs'⟩
        · exact h'.elim
      | succ k =>
        unfold forK at h'
        split at h'
        · exact h'.elim
        · rename_i v hv
          split at h'
          · exact h'.elim
          · rename_i ds1 hd
            have hi : i < l.n := by omega
            refine .inr ⟨it.go i m' S' H' v hi E' r' hv, fun σ2 H2 => i + 1 + k = l.n ∧ ∃ m' S' ds', Ext m1 H1 m' H2 ∧ RelS X.K T m' S' H2 ∧ RSl X.K ξ m' H2 ds' σ2 ∧ PoS X.K T ξ m' H2 (forK l lg b k (i + 1) ds' S') D W,
              fun σ2 H2 q => ⟨k, Nat.lt_succ_self k, q⟩, fun x H2 y => ?_⟩
            obtain ⟨E2, r2, rv2⟩ := it.yld i x H2 m' S' H' v hi E' r' hv y
            refine ⟨m', S', v, ds', ds1, r2, rs'.mono E2, rv2, hd, fun σ3 rs3 => ⟨m', S', ds1, r2, rs3, ?_⟩⟩
            have h2 := PoS.mono E2 h'
            cases e : b ds1 S' with
            | nx ds2 S2 =>
              rw [e] at h2
              exact fun m3 H3 σ4 E3 r3 rs4 => ⟨by omega, m3, S2, ds2, (E'.trans E2).trans E3, r3, rs4, PoS.mono E3 h2⟩
            | ct ds2 S2 =>
              rw [e] at h2
              exact fun m3 H3 σ4 E3 r3 rs4 => ⟨by omega, m3, S2, ds2, (E'.trans E2).trans E3, r3, rs4, PoS.mono E3 h2⟩
            | bk ds2 S2 => rw [e] at h2; exact h2
            | rt v S2 => rw [e] at h2; exact h2
            | ex c fs ds2 S2 => rw [e] at h2; exact h2
            | no => rw [e] at h2; exact h2

/-! ### list comprehensions -/
/-- the block's own slots forgotten -/
def wipeL (ds : Sl) : List Nat → Sl
  | [] => ds
  | v :: vs => (wipeL ds vs).set v none
theorem RSl.wipe {K : PySem.W.Frag} {ξ : Xi} {m : List Addr} {H : Hp} {ds : Sl} {σ : L2.St} (h : RSl K ξ m H ds σ) : ∀ vs : List Nat, RSl K ξ m H (wipeL ds vs) (L2.wipe σ vs)
  | [] => h
  | v :: vs => by
    have ih := RSl.wipe h vs
    unfold wipeL L2.wipe
    refine ⟨by simp [ih.len], fun i w e => ?_⟩
    by_cases hi : i = v
    · subst hi
      by_cases hl : i < (wipeL ds vs).length
      · rw [List.getElem?_set_self hl] at e; cases e
      · rw [List.getElem?_eq_none (by simpa using hl)] at e; cases e
    · rw [List.getElem?_set_ne (Ne.symm hi)] at e ⊢
      exact ih.at_ i w e
/-- a test in a comprehension -/
def lYes : LE := fun _ S => .ok (.bl true) S
def lcK (l : LIt) (lg : LG) (ft fe : LE) (ds : Sl) : Nat → Nat → List LV → Sto → R
  | 0, _, acc, S => if (l.fine S && small acc.length) = true then .ok (.ref S.length) (S ++ [.lst acc]) else .no
  | k + 1, i, acc, S => match l.item i S with
    | none => .no
    | some v => match lg v S ds with
      | none => .no
      | some ds1 => match ft ds1 S with
        | .ok (.bl true) S1 => match fe ds1 S1 with
          | .ok u S2 => lcK l lg ft fe ds k (i + 1) (acc ++ [u]) S2
          | _ => .no
        | .ok (.bl false) S1 => lcK l lg ft fe ds k (i + 1) acc S1
        | _ => .no
def lcR (lg : LG) (ft fe : LE) (ds : Sl) : RI → R
  | .ok l S => lcK l lg ft fe ds l.n 0 [] S
  | .ex c fs S => .ex c fs S
  | .no => .no
def lLc (li : LI) (lg : LG) (ft fe : LE) (vs : List Nat) : LE := fun ds S => lcR lg ft fe (wipeL ds vs) (li ds S)
/-- a target of a comprehension stores in the block's own slots alone -/
def tGC (K : PySem.W.Frag) (T : Env1) (ξ : Xi) (vs : List Nat) (g : LG) : TG := fun x σ H Q => ∃ m S v ds ds', RelS K T m S H ∧ RSl K ξ m H ds σ ∧ RV K m H v x ∧ g v S ds = some ds' ∧ ∀ σ', RSl K ξ m H ds' σ' → L2.wipe σ' vs = L2.wipe σ vs → Q σ' H
def tGCs (K : PySem.W.Frag) (T : Env1) (ξ : Xi) (vs : List Nat) (g : LGs) : TGs := fun xs σ H Q => ∃ m S us ds ds', RelS K T m S H ∧ RSl K ξ m H ds σ ∧ RVs K m H us xs ∧ g us S ds = some ds' ∧ ∀ σ', RSl K ξ m H ds' σ' → L2.wipe σ' vs = L2.wipe σ vs → Q σ' H
theorem wipe_get (σ : L2.St) (j : Nat) : ∀ vs : List Nat, (L2.wipe σ vs)[j]? = if j ∈ vs then (σ[j]?).map (fun _ => none) else σ[j]?
  | [] => by simp [L2.wipe]
  | v :: vs => by
    unfold L2.wipe
    by_cases h : v = j
    · subst h
      rw [if_pos List.mem_cons_self]
      by_cases hl : v < σ.length
      · rw [List.getElem?_set_self (by rw [L2.wipe_length]; exact hl), List.getElem?_eq_getElem hl]
        rfl
      · rw [List.getElem?_eq_none (by rw [List.length_set, L2.wipe_length]; omega), List.getElem?_eq_none (by omega)]
        rfl
    · rw [List.getElem?_set_ne h, wipe_get σ j vs]
      by_cases hm : j ∈ vs
      · rw [if_pos hm, if_pos (List.mem_cons_of_mem _ hm)]
      · rw [if_neg hm, if_neg (by rw [List.mem_cons]; rintro (q | q); exact h q.symm; exact hm q)]
theorem wipe_set {σ : L2.St} {i : Nat} {o : Option V} {vs : List Nat} (h : i ∈ vs) : L2.wipe (σ.set i o) vs = L2.wipe σ vs := by
  apply List.ext_getElem?
  intro j
  rw [wipe_get, wipe_get]
  by_cases hj : j ∈ vs
  · rw [if_pos hj, if_pos hj]
    by_cases e : i = j
    · subst e
      by_cases hl : i < σ.length
      · rw [List.getElem?_set_self hl, List.getElem?_eq_getElem hl]
        rfl
      · rw [List.getElem?_eq_none (by rw [List.length_set]; omega), List.getElem?_eq_none (by omega)]
    · rw [List.getElem?_set_ne e]
  · rw [if_neg hj, if_neg hj, List.getElem?_set_ne (fun e => hj (by rw [← e]; exact h))]
theorem gc_name (i : Nat) {x : Str} {vs : List Nat} (hN : X.N.Nodup) (hv : i ∈ vs) (hi : X.N[i]? = some x := by rfl) (hx : Loc X.env.scope x := by first | exact Or.inl rfl | exact Or.inr rfl) (hf : X.fn x = true ∨ X.env.scope.names.lookup x = some .local := by first | exact .inl rfl | exact .inr rfl | assumption) :
    PG X (.Name x pos) (tGC X.K T ξ vs (gNm i)) := pg_imp (pg_name hN hi hx hf) fun x σ H Q ⟨m, S, v, ds, ds', r, rs, rv, e, q⟩ => by
  cases e
  exact q _ (rs.set i (RVx.of rv)) (wipe_set hv)
theorem gcs_nil {vs : List Nat} : PGs X [] (tGCs X.K T ξ vs gsNil) := pgs_imp pgs_nil fun x σ H Q ⟨m, S, us, ds, ds', r, rs, rv, e, q⟩ => by
  cases us with
  | nil =>
    cases e
    exact ⟨rv.nilE, q σ rs rfl⟩
  | cons v r => cases e
theorem gcs_cons {e : Expr} {es : List Expr} {vs : List Nat} {lgs : LGs} (h1 : PG X e (tGC X.K T ξ vs lg)) (h2 : PGs X es (tGCs X.K T ξ vs lgs)) (hs : (assignEach (e :: es) X.env).map (·.2) = assign e X.env :: (assignEach es X.env).map (·.2) := by rfl) : PGs X (e :: es) (tGCs X.K T ξ vs (gsCons lg lgs)) :=
  pgs_imp (pgs_cons h1 h2 hs) fun xs σ H Q ⟨m, S, us, ds, ds', r, rs, rv, e, q⟩ => by
    cases us with
    | nil => cases e
    | cons v vr =>
      unfold RVs at rv
      obtain ⟨y, ys, rfl, h1, h2⟩ := rv
      unfold gsCons at e
      simp only at e
      split at e
      · rename_i ds1 hd
        exact ⟨y, ys, rfl, m, S, v, ds, ds1, r, rs, h1, hd, fun σ1 rs1 w1 => ⟨m, S, vr, ds1, ds', r, rs1, h2, e, fun σ2 rs2 w2 => q σ2 rs2 (w2.trans w1)⟩⟩
      · cases e
theorem gc_tup {es : List Expr} {j : Nat} {vs : List Nat} {lgs : LGs} (n : Nat) (hc : X.calm = true) (h : PGs X es (tGCs X.K T ξ vs lgs)) (hl : ∀ vs S ds ds', lgs vs S ds = some ds' → vs.length = n)
    (hn : (assignEach es X.env).length = n := by rfl) (hst : (assignEach es X.env).findIdx? (·.1) = none := by rfl) : PG X (.Tuple es j pos) (tGC X.K T ξ vs (gTp lgs)) :=
  pg_imp (pg_tup hc h hn hst) fun x σ H Q ⟨m, S, v, ds, ds', r, rs, rv, e, q⟩ => by
    unfold gTp at e
    split at e
    · obtain ⟨a, vs, rfl, ht, hs⟩ := rv.tupE
      exact ⟨a, vs, rfl, SqT.of ht, by rw [← hs.len]; exact hl _ _ _ _ e, m, S, _, ds, ds', r, rs, hs, e, q⟩
    · unfold RV at rv
      obtain ⟨a, vs, rfl, ht, hs⟩ := rv
      exact ⟨a, vs, rfl, ht _, by rw [← hs.len]; exact hl _ _ _ _ e, m, S, _, ds, ds', r, rs, hs, e, q⟩
    · cases e
theorem pt_yes : PTs X [] (tTest (tL X.K T ξ W lYes)) := ⟨fun pins s σ H Q I ⟨m, S, ds, r, rs, h⟩ => by
  obtain ⟨k, e, q⟩ := h.here r (x := .bl true) rfl
  cases e
  exact pts_nil.run pins s σ H Q I q⟩
theorem pt_one (h : PT X e (tTest (tL X.K T ξ W fe))) : PTs X [e] (tTest (tL X.K T ξ W fe)) := pts_one h
theorem lcK_small {l : LIt} {ft fe : LE} {ds : Sl} : ∀ (k i : Nat) (acc : List LV) (S : Sto), lcK l lg ft fe ds k i acc S ≠ .no → small acc.length = true
  | 0, i, acc, S, h => by
    unfold lcK at h
    split at h
    · rename_i q
      rw [Bool.and_eq_true] at q
      exact q.2
    · exact absurd rfl h
  | k + 1, i, acc, S, h => by
    unfold lcK at h
    split at h
    · exact absurd rfl h
    · split at h
      · exact absurd rfl h
      · split at h
        · split at h
          · have q := lcK_small k (i + 1) _ _ h
            unfold small at q ⊢
            have := of_decide_eq_true q
            rw [List.length_append] at this
            exact decide_eq_true (by omega)
          · exact absurd rfl h
        · exact lcK_small k (i + 1) acc _ h
        · exact absurd rfl h
theorem lc_read {li : LI} {ft fe : LE} {vs : List Nat} : ∀ σ H Q, tL X.K T ξ W (lLc li lg ft fe vs) σ H Q → tLc (tI X.K T ξ W li) (tGC X.K T ξ vs lg) (tTest (tL X.K T ξ WF ft)) (tL X.K T ξ WF fe) vs σ H Q :=
  fun σ H Q ⟨m, S, ds, r, rs, h⟩ => by
    refine ⟨m, S, ds, r, rs, ?_⟩
    unfold lLc at h
    cases q : li ds S with
    | ex c fs S1 => rw [q] at h; exact h
    | no => rw [q] at h; exact h
    | ok l S1 =>
      rw [q] at h
      intro m1 H1 J E1 r1 it D hD
      have h0 := PoE.mono E1 h
      have rs1 := (rs.mono E1).wipe vs
      have oD : D ∉ m1 := r1.out hD
      refine ⟨fun i k H' => i + k = l.n ∧ ∃ m' S' acc accV, Ext m1 H1 m' H' ∧ RelS X.K T m' S' H' ∧ D ∉ m' ∧ H' D = some (.lst accV) ∧ RVs X.K m' H' acc accV ∧ PoE X.K T m1 H1 (lcK l lg ft fe (wipeL ds vs) k i acc S') Q (fun cls d H' => W cls d σ H'),
        ⟨l.n, Nat.zero_add _, m1, S1, [], [], Ext.side hD, r1.side hD, oD, upd_same, RVs.nil, h0⟩, ?_⟩
      rintro i k H' ⟨ek, m', S', acc, accV, E', r', oD', hD', ra, h'⟩
      cases k with
      | zero =>
        unfold lcK at h'
        split at h'
        · rename_i hf
          rw [Bool.and_eq_true] at hf
          have ei : i = l.n := by omega
          subst ei
          refine .inl ⟨it.stop m' S' H' E' r' hf.1, ?_⟩
          have E2 : Ext m1 H1 (m' ++ [D]) H' := ⟨by obtain ⟨t, rfl⟩ := E'.pre; exact ⟨t ++ [D], by simp⟩, E'.fr, fun a ha na => by
            rcases List.mem_append.mp ha with ha | ha
            · exact E'.new a ha na
            · rw [List.mem_singleton.mp ha]; exact hD, E'.tup, E'.frz⟩
          refine h' _ _ _ E2 (r'.adopt oD' ⟨accV, hD', ra.kp Kp.more⟩) ?_
          unfold RV
          exact ⟨D, rfl, by rw [← r'.len, List.getElem?_append_right (Nat.le_refl _), Nat.sub_self] <;> rfl⟩
        · exact h'.elim
      | succ k =>
        have hn : lcK l lg ft fe (wipeL ds vs) (k + 1) i acc S' ≠ .no := fun z => by rw [z] at h'; exact h'.elim
        unfold lcK at h' hn
        split at h'
        · exact h'.elim
        · rename_i v hv
          rw [hv] at hn
          split at h'
          · exact h'.elim
          · rename_i ds1 hd
            simp only [hd] at hn
            have hi : i < l.n := by omega
            refine .inr ⟨it.go i m' S' H' v hi E' r' hv, fun H2 => i + 1 + k = l.n ∧ ∃ m' S' acc accV, Ext m1 H1 m' H2 ∧ RelS X.K T m' S' H2 ∧ D ∉ m' ∧ H2 D = some (.lst accV) ∧ RVs X.K m' H2 acc accV ∧ PoE X.K T m1 H1 (lcK l lg ft fe (wipeL ds vs) k (i + 1) acc S') Q (fun cls d H' => W cls d σ H'),
              fun H2 q => ⟨k, Nat.lt_succ_self k, q⟩, fun x H2 y => ?_⟩
            obtain ⟨E2, r2, rv2⟩ := it.yld i x H2 m' S' H' v hi E' r' hv y
            have E12 := E'.trans E2
            have rsT : RSl X.K ξ m' H2 (wipeL ds vs) (L2.wipe σ vs) := by
              have := (rs.mono E1).mono E12
              exact this.wipe vs
            refine ⟨m', S', v, wipeL ds vs, ds1, r2, rsT, rv2, hd, fun σ2 rs2 w2 => ⟨?_, ?_⟩⟩
            · rw [w2]
              apply List.ext_getElem?
              intro j
              rw [wipe_get, wipe_get]
              by_cases hj : j ∈ vs
              · rw [if_pos hj, if_pos hj]
                cases σ[j]? <;> rfl
              · rw [if_neg hj]
            · refine ⟨m', S', ds1, r2, rs2, ?_⟩
              cases e1 : ft ds1 S' with
              | ok b S2 =>
                rw [e1] at h' hn
                intro m3 H3 z E3 r3 rz
                have oD3 : D ∉ m3 := E3.out oD' (E2.fr D _ oD' hD')
                have hD3 : H3 D = some (.lst accV) := E3.fr D _ oD' (E2.fr D _ oD' hD')
                have ra3 := (ra.mono E2).mono E3
                cases b with
                | bl b =>
                  refine ⟨b, rz, ?_⟩
                  cases b with
                  | true =>
                    refine ⟨m3, S2, ds1, r3, rs2.mono E3, ?_⟩
                    simp only at h' hn
                    cases e2 : fe ds1 S2 with
                    | ok u S3 =>
                      rw [e2] at h' hn
                      intro m4 H4 y E4 r4 ry
                      have oD4 : D ∉ m4 := E4.out oD3 hD3
                      have hD4 : H4 D = some (.lst accV) := E4.fr D _ oD3 hD3
                      have ra4 := ra3.mono E4
                      have hs := lcK_small _ _ _ _ hn
                      have hs2 : acc.length + 1 ≤ sizeLine := by
                        have := small_ok hs
                        rw [List.length_append] at this
                        exact this
                      refine ⟨accV, hD4, by rw [← ra4.len]; omega, by omega, m4, S3, acc ++ [u], accV ++ [y], ?_, ?_, oD4, upd_same, ?_, h'⟩
                      · have E14 := (E12.trans E3).trans E4
                        refine ⟨E14.pre, fun a o na ha => ?_, E14.new, fun a w ha => ?_, fun a o u ha => ?_⟩
                        · have : a ≠ D := fun z => by rw [z, hD] at ha; cases ha
                          rw [upd_ne this]
                          exact E14.fr a o na ha
                        · have : a ≠ D := fun z => by rw [z, hD] at ha; cases ha
                          rw [upd_ne this]
                          exact E14.tup a w ha
                        · have : a ≠ D := fun z => by rw [z, hD] at ha; cases ha
                          rw [upd_ne this]
                          exact E14.frz a o u ha
                      · refine ⟨r4.len, r4.nd, fun n a o hn ho => ?_⟩
                        have : a ≠ D := fun z => oD4 (z ▸ List.mem_of_getElem? hn)
                        exact (r4.ob n a o hn ho).kp ⟨fun _ _ h => h, fun b w hb => by
                          have : b ≠ D := fun z => by rw [z, hD4] at hb; cases hb
                          rw [upd_ne this]; exact hb, fun b w u hb => by
                          have : b ≠ D := fun z => by rw [z, hD4] at hb; cases hb
                          rw [upd_ne this]; exact hb⟩ (upd_ne this)
                      · refine RVs.kp ⟨fun _ _ h => h, fun b w hb => ?_, fun b w u hb => ?_⟩ (ra4.append (RVs.cons ry RVs.nil))
                        · have : b ≠ D := fun z => by rw [z, hD4] at hb; cases hb
                          rw [upd_ne this]; exact hb
                        · have : b ≠ D := fun z => by rw [z, hD4] at hb; cases hb
                          rw [upd_ne this]; exact hb
                    | ex c fs S3 => rw [e2] at h'; exact h'.elim
                    | no => rw [e2] at h'; exact h'.elim
                  | false => exact ⟨by omega, m3, S2, acc, accV, E12.trans E3, r3, oD3, hD3, ra3, h'⟩
                | _ => exact h'.elim
              | ex c fs S2 => rw [e1] at h'; exact h'.elim
              | no => rw [e1] at h'; exact h'.elim
variable {elt : Expr} {ifs : List Expr} {scope : Scope} {own : List (Str × Nat)} {ft : LE}
theorem pl_lc (hc : X.calm = true) (hN : X.N.Nodup) (hi : PI X tg e (tI X.K T ξ W li)) (ok : BlkOk X.N X.env.scope scope own)
    (hg : ∀ (s : Shared) (H : Hp) (C : Addr) (cl : List (Str × Addr)) (fp : List Addr), PG (X.blk s H scope (compEnvC scope cl C X.env) fp) tg (tGC X.K T ξ (own.map (·.2)) lg))
    (ht : ∀ (s : Shared) (H : Hp) (C : Addr) (cl : List (Str × Addr)) (fp : List Addr), PTs (X.blk s H scope (compEnvC scope cl C X.env) fp) ifs (tTest (tL X.K T ξ WF ft)))
    (he : ∀ (s : Shared) (H : Hp) (C : Addr) (cl : List (Str × Addr)) (fp : List Addr), PE (X.blk s H scope (compEnvC scope cl C X.env) fp) elt (tL X.K T ξ WF fe)) (hs : ∀ x, foldedSetIterable e X.env x = pure x := by intro _; rfl) :
    PE X (.ListComp elt [⟨tg, e, ifs, 0⟩] scope pos) (tL X.K T ξ W (lLc li lg ft fe (own.map (·.2)))) := pe_imp (pe_lc hc hN hi ok hg ht he hs) lc_read
theorem sl_setLc (i : Nat) {y : Str} {py spos : Pos} (hc : X.calm = true) (hN : X.N.Nodup) (hy : X.N[i]? = some y) (hyl : X.env.scope.names.lookup y = some .local)
    (hsw : swapsWith (.ListComp elt [⟨tg, e, ifs, 0⟩] scope pos) (some (.Name y py)) spos.line X.env = pure true) (hi : PI X tg e (tI X.K T ξ W li)) (ok : BlkOk X.N X.env.scope scope own)
    (hg : ∀ (s : Shared) (H : Hp) (C : Addr) (cl : List (Str × Addr)) (fp : List Addr), PG (X.blk s H scope (compEnvC scope cl C X.env) fp) tg (tGC X.K T ξ (own.map (·.2)) lg))
    (ht : ∀ (s : Shared) (H : Hp) (C : Addr) (cl : List (Str × Addr)) (fp : List Addr), PTs (X.blk s H scope (compEnvC scope cl C X.env) fp) ifs (tTest (tL X.K T ξ WF ft)))
    (he : ∀ (s : Shared) (H : Hp) (C : Addr) (cl : List (Str × Addr)) (fp : List Addr), PE (X.blk s H scope (compEnvC scope cl C X.env) fp) elt (tL X.K T ξ WF fe)) (hs : ∀ x, foldedSetIterable e X.env x = pure x := by intro _; rfl) :
    PS X (.Assign [.Name y py] (.ListComp elt [⟨tg, e, ifs, 0⟩] scope pos) spos) (tLS X.K T ξ W (lAsg (lLc li lg ft fe (own.map (·.2))) (gNm i))) :=
  ps_imp (ps_setLc hc hN hy hyl hsw hi ok hg ht he hs) fun D σ H ⟨m, S, ds, r, rs, h⟩ => lc_read σ H _ (tL.bindS r rs h fun v S1 m1 H1 x E r1 rs1 rv h1 => h1 m1 H1 _ Ext.refl r1 (rs1.set i (RVx.of rv)))
end
/-! ### {} -/
def lDnew : LE := fun _ S => .ok (.ref S.length) (S ++ [.dct []])
section
variable {X : Cx} {T : Env1} {ξ : Xi} {W : WX} {pos : Pos}
theorem fin_dct {K : PySem.W.Frag} {m : List Addr} {S : Sto} {H : Hp} {kvs : List (Key × LV)} {ws : List (Key × V)} {Q : VK} {W : XK} (r : RelS K T m S H) (hk : ws.map (·.1) = kvs.map (·.1)) (rv : RVs K m H (kvs.map (·.2)) (ws.map (·.2)))
    (h : PoE K T m H (.ok (.ref S.length) (S ++ [.dct kvs])) Q W) : ∀ p, H p = none → Q (.ref p) (upd H p (.dK ws)) := fun p hp => by
  have E : Ext m H (m ++ [p]) (upd H p (.dK ws)) := Ext.alloc r hp
  refine h _ _ _ E (r.alloc hp ⟨ws, upd_same, hk, rv.mono E⟩) ?_
  unfold RV
  exact ⟨p, rfl, by rw [← r.len, List.getElem?_append_right (Nat.le_refl _), Nat.sub_self] <;> rfl⟩
theorem pl_dnew : PE X (.Dict [] [] pos) (tL X.K T ξ W lDnew) := pe_imp pe_dnewK fun σ H Q ⟨m, S, ds, r, rs, h⟩ => fin_dct r rfl RVs.nil h
/-- a tuple of the module's -/
theorem pl_globT {x : Str} {vs : List LV} {xs : List V} (h : ∃ a, X.mg x = some (.ref a) ∧ ∀ H, SqT X.K H a xs) (hg : Gl X x) (rv : ∀ m H, RVs X.K m H vs xs) (hd : (x == ("__debug__" : Str)) = false := by decide) : PE X (.Name x pos) (tL X.K T ξ W (lC (.ktp vs))) := by
  obtain ⟨a, h1, h2⟩ := h
  refine pl_c (pe_glob (v := .ref a) hg h1 rfl hd) fun m H => ?_
  unfold RV
  exact ⟨a, xs, rfl, h2, rv m H⟩
end
/-! ### a def -/
section
variable {P : Program} {w : World} {K : PySem.W.Frag} {mg : Str → Option Value} {base : Heap} {T : Env1}
theorem fn_ok {x qual : Str} {st : Stmt} {f : Addr} {fd : FuncData} {N ps : List Str} {k : Nat} {g : LS} (F : Fun K x qual st f fd) (S : FnScope N ps (defScope st))
    (hbody : ∀ (cdv : Value) (A : Around) (outer : List Env) (s : Shared) (H : Hp) (E : XK), Room k (A.deeper (envOfC qual (defScope st) s.heap.objs.size f cdv)) →
      PSs (cxOf (L2.CX P w) P w K mg base N qual (defScope st) f cdv A outer s H E) (defBody st) (tLS K T ξ0 (fun cls d _ H => E cls d H) g)) : FnOk P w K mg base (L2.CX P w) (k + 1) f fd ps (spF K T (mkFn ps.length N.length g)) := by
  refine F.okX S (fun vs H Q E h => ?_) (fun cdv A outer s H vs Q E hr h => ⟨_, hbody cdv A outer s H E hr, ?_⟩)
  · obtain ⟨m, S', xs, r, rv, h⟩ := h
    unfold mkFn at h
    split at h
    · rename_i hl
      rw [← rv.len, hl]
    · exact h.elim
  · obtain ⟨m, S', xs, r, rv, h⟩ := h
    refine ⟨m, S', _, r, RSl.start rv, ?_⟩
    unfold mkFn at h
    split at h
    · rename_i hl
      replace h := gc_sound r h
      rw [hl]
      cases e : g (xs.map some ++ List.replicate (N.length - ps.length) none) S' with
      | nx ds S2 =>
        rw [e] at h
        exact fun m' H' σ' E' r' rs' => h m' H' .non E' r' rfl
      | rt v S2 =>
        rw [e] at h
        exact fun m' H' x E' r' rv' => h m' H' x E' r' rv'
      | ex c fs ds S2 =>
        rw [e] at h
        exact fun m' H' σ' cls d E' r' rs' rx => h m' H' cls d E' r' rx
      | bk ds S2 => rw [e] at h; exact h.elim
      | ct ds S2 => rw [e] at h; exact h.elim
      | no => rw [e] at h; exact h.elim
    · exact h.elim
/-- the law's own promise -/
def scrOk (K : PySem.W.Frag) (H : Hp) (a : Addr) (ns : List Int) : Prop := (∃ o, H a = some (.frz o (.lst (ns.map V.int)))) ∨ ∀ H', SqL K H' a (ns.map V.int)
def spTop (K : PySem.W.Frag) : Sp := fun vs H Q _ => ∃ a ns, vs = [.ref a] ∧ scrOk K H a ns ∧ ns.length ≤ 63 ∧ ∀ H', Q (.bl true) H'
theorem top_sp {H : Hp} {a : Addr} {ns : List Int} (hl : ns.length ≤ 63) (hO : Only H) (hS : SqL K H a (ns.map V.int)) : spTop K [.ref a] H (fun v _ => v = .bl true) fun _ _ _ => False := by
  refine ⟨a, ns, rfl, ?_, hl, fun _ => rfl⟩
  rcases hS with (h | ⟨o, h⟩) | h
  · rcases hO a with z | ⟨o, xs, z⟩
    · rw [z] at h; cases h
    · rw [z] at h; cases h
  · exact .inl ⟨o, h⟩
  · exact .inr fun _ => .inr h
theorem top_no {H : Hp} {s s' : Shared} {e : Value} (h : L2.CX P w [] H s (fun _ _ _ => False) e s') : False := by
  obtain ⟨_, _, _, _, _, _, _, _, _, _, _, _, z⟩ := h
  exact z.elim
theorem top_law {f : Addr} {fd : FuncData} {ps : List Str} {k : Nat} {g : Fn} (F : FnOk P w K mg base (L2.CX P w) k f fd ps (spF K T g)) (hg : ∀ ns : List Int, ns.length ≤ 63 → ∃ S, g [.scr ns] [] = .ok (.bl true) S) : FnOk P w K mg base (L2.CX P w) k f fd ps (spTop K) :=
  F.imp fun vs H Q E ⟨a, ns, ev, hs, hl, q⟩ => by
    subst ev
    obtain ⟨S, e⟩ := hg ns hl
    refine ⟨[], [], [.scr ns], RelS.nil, RVs.cons (by unfold RV; exact ⟨a, rfl, hs⟩) RVs.nil, ?_⟩
    rw [e]
    intro m' H' x E' r' rv
    cases (show x = .bl true from rv)
    exact q H'
end
end LL


set_option Elab.async false
set_option linter.all false
set_option maxRecDepth 100000
set_option maxHeartbeats 2000000
/-! The logical layer: how it is reckoned with. -/
namespace LL
open PySem PySem.Spec PyProof.Rows L2

/-! ### results -/
def op2 (o : Op2) (v : LV) : R → R
  | .ok w S => o v w S
  | .ex c fs S => .ex c fs S
  | .no => .no
def op1 (o : Op2) (fb : LE) (ds : Sl) : R → R
  | .ok v S => op2 o v (fb ds S)
  | .ex c fs S => .ex c fs S
  | .no => .no
def un1 (o : Op1) : R → R
  | .ok v S => o v S
  | .ex c fs S => .ex c fs S
  | .no => .no
def and1 (fb : LE) (ds : Sl) : R → R
  | .ok (.bl true) S => fb ds S
  | .ok (.bl false) S => .ok (.bl false) S
  | .ok _ _ => .no
  | .ex c fs S => .ex c fs S
  | .no => .no
def or1 (fb : LE) (ds : Sl) : R → R
  | .ok (.bl true) S => .ok (.bl true) S
  | .ok (.bl false) S => fb ds S
  | .ok _ _ => .no
  | .ex c fs S => .ex c fs S
  | .no => .no
def not1 : R → R
  | .ok (.bl b) S => .ok (.bl !b) S
  | .ok _ _ => .no
  | .ex c fs S => .ex c fs S
  | .no => .no
def ite1 (fa fb : LE) (ds : Sl) : R → R
  | .ok (.bl true) S => fa ds S
  | .ok (.bl false) S => fb ds S
  | .ok _ _ => .no
  | .ex c fs S => .ex c fs S
  | .no => .no
def ch2 (o o' : Op2) (v : LV) (fc : LE) (ds : Sl) : R → R
  | .ok w S => match o v w S with
    | .ok (.bl true) S3 => op2 o' w (fc ds S3)
    | .ok (.bl false) S3 => .ok (.bl false) S3
    | .ok _ _ => .no
    | .ex c fs S => .ex c fs S
    | .no => .no
  | .ex c fs S => .ex c fs S
  | .no => .no
def ch3 (o' : Op2) (w : LV) (fc : LE) (ds : Sl) : R → R
  | .ok (.bl true) S3 => op2 o' w (fc ds S3)
  | .ok (.bl false) S3 => .ok (.bl false) S3
  | .ok _ _ => .no
  | .ex c fs S => .ex c fs S
  | .no => .no
def ch1 (o o' : Op2) (fb fc : LE) (ds : Sl) : R → R
  | .ok v S => ch2 o o' v fc ds (fb ds S)
  | .ex c fs S => .ex c fs S
  | .no => .no
def cons1 (fr : LA) (ds : Sl) : R → RL
  | .ok v S => consK v (fr ds S)
  | .ex c fs S => .ex c fs S
  | .no => .no
def app1 (o : OpN) : RL → R
  | .ok vs S => o vs S
  | .ex c fs S => .ex c fs S
  | .no => .no
def part1 (f : Option Int → Sto → R) : R → R
  | .ok (.int i) S => f (some i) S
  | .ok _ _ => .no
  | .ex c fs S => .ex c fs S
  | .no => .no
def sl3 (v : LV) (l : Option Int) : R → R
  | .ok (.int i) S => slO v l (some i) S
  | .ok _ _ => .no
  | .ex c fs S => .ex c fs S
  | .no => .no
def sl2h (v : LV) (l : Option Int) (hi : Option LE) (ds : Sl) (S : Sto) : R := match hi with
  | none => slO v l none S
  | some f => sl3 v l (f ds S)
def sl2 (v : LV) (hi : Option LE) (ds : Sl) : R → R
  | .ok (.int i) S => sl2h v (some i) hi ds S
  | .ok _ _ => .no
  | .ex c fs S => .ex c fs S
  | .no => .no
def sl1 (lo hi : Option LE) (ds : Sl) : R → R
  | .ok v S => match lo with
    | none => sl2h v none hi ds S
    | some f => sl2 v hi ds (f ds S)
  | .ex c fs S => .ex c fs S
  | .no => .no
def bm2 (o : OpM) (v : LV) : RL → R
  | .ok vs S => o v vs S
  | .ex c fs S => .ex c fs S
  | .no => .no
def bm1 (n : String) (o : OpM) (fa : LA) (ds : Sl) : R → R
  | .ok v S => if isT n v S = true then bm2 o v (fa ds S) else .no
  | .ex c fs S => .ex c fs S
  | .no => .no
def bm0 (n : String) (o : OpM) : R → R
  | .ok v S => if isT n v S = true then o v [] S else .no
  | .ex c fs S => .ex c fs S
  | .no => .no
def drop1 (ds : Sl) : R → RS
  | .ok _ S => .nx ds S
  | .ex c fs S => .ex c fs ds S
  | .no => .no
def ret1 (ds : Sl) : R → RS
  | .ok v S => .rt v S
  | .ex c fs S => .ex c fs ds S
  | .no => .no
def if1 (a b : LS) (ds : Sl) : R → RS
  | .ok (.bl true) S => a ds S
  | .ok (.bl false) S => b ds S
  | .ok _ _ => .no
  | .ex c fs S => .ex c fs ds S
  | .no => .no
def asg1 (g : LG) (ds : Sl) : R → RS
  | .ok v S => asgK g ds v S
  | .ex c fs S => .ex c fs ds S
  | .no => .no
def it1 : R → RI
  | .ok v S => iterO v S
  | .ex c fs S => .ex c fs S
  | .no => .no
def ita1 (f : List LV → Sto → RI) : RL → RI
  | .ok v S => f v S
  | .ex c fs S => .ex c fs S
  | .no => .no
section
variable {v w : LV} {vs fs : List LV} {ds : Sl} {S S' U : Sto} {o o' : Op2} {fa fb fc : LE} {fr : LA} {c n i : Nat} {x : Option LV} {a b : LS} {g : LG}
/-! ### how each is opened -/
@[simp] theorem e_var0 (h : isX v = false) : lVar 0 (some v :: ds) S = .ok v S := by simp [lVar, h]
@[simp] theorem e_varS : lVar (i + 1) (x :: ds) S = lVar i ds S := by simp [lVar]
@[simp] theorem e_c : lC v ds S = .ok v S := (rfl)
@[simp] theorem e_yes : lYes ds S = .ok (.bl true) S := (rfl)
theorem e_op : lOp o fa fb ds S = op1 o fb ds (fa ds S) := by
  unfold lOp
  cases fa ds S with
  | ok v S1 =>
    show (fb ds S1).bind _ = op2 o v (fb ds S1)
    cases fb ds S1 <;> rfl
  | _ => rfl
theorem e_un {o : Op1} : lUn o fa ds S = un1 o (fa ds S) := by unfold lUn; cases fa ds S <;> rfl
theorem e_and : lAnd fa fb ds S = and1 fb ds (fa ds S) := by
  unfold lAnd
  cases fa ds S with
  | ok v S1 => cases v with
    | bl b => cases b <;> rfl
    | _ => rfl
  | _ => rfl
theorem e_or : lOr fa fb ds S = or1 fb ds (fa ds S) := by
  unfold lOr
  cases fa ds S with
  | ok v S1 => cases v with
    | bl b => cases b <;> rfl
    | _ => rfl
  | _ => rfl
theorem e_not : lNot fa ds S = not1 (fa ds S) := by
  unfold lNot
  cases fa ds S with
  | ok v S1 => cases v <;> rfl
  | _ => rfl
theorem e_ite : lIte fc fa fb ds S = ite1 fa fb ds (fc ds S) := by
  unfold lIte
  cases fc ds S with
  | ok v S1 => cases v with
    | bl b => cases b <;> rfl
    | _ => rfl
  | _ => rfl
theorem e_chain : lChain o o' fa fb fc ds S = ch1 o o' fb fc ds (fa ds S) := by
  unfold lChain
  cases fa ds S with
  | ok v S1 =>
    show (fb ds S1).bind _ = ch2 o o' v fc ds (fb ds S1)
    cases fb ds S1 with
    | ok w S2 =>
      show (o v w S2).bind _ = _
      unfold ch2
      simp only
      cases o v w S2 with
      | ok u S3 => cases u with
        | bl b => cases b with
          | true => show (fc ds S3).bind _ = op2 o' w (fc ds S3); cases fc ds S3 <;> rfl
          | false => rfl
        | _ => rfl
      | _ => rfl
    | _ => rfl
  | _ => rfl
theorem e_nil : lNil ds S = .ok [] S := (rfl)
theorem e_cons : lCons fa fr ds S = cons1 fr ds (fa ds S) := by unfold lCons; cases fa ds S <;> rfl
theorem e_tup : lTup fr ds S = app1 mkTup (fr ds S) := by unfold lTup; cases fr ds S <;> rfl
theorem e_lst : lLst fr ds S = app1 mkLst (fr ds S) := by unfold lLst; cases fr ds S <;> rfl
theorem e_bi {o : OpN} : lBi o fr ds S = app1 o (fr ds S) := by unfold lBi; cases fr ds S <;> rfl
theorem e_call {g : Fn} : lCall g fr ds S = app1 g (fr ds S) := by unfold lCall; cases fr ds S <;> rfl
theorem e_sl {lo hi : Option LE} : lSl fa lo hi ds S = sl1 lo hi ds (fa ds S) := by
  unfold lSl
  cases fa ds S with
  | ok v S1 =>
    have hh : ∀ l S2, partK hi ds S2 (fun h S3 => slO v l h S3) = sl2h v l hi ds S2 := fun l S2 => by
      cases hi with
      | none => rfl
      | some f =>
        show (f ds S2).bind _ = sl3 v l (f ds S2)
        cases f ds S2 with
        | ok u S3 => cases u <;> rfl
        | _ => rfl
    cases lo with
    | none => exact hh none S1
    | some f =>
      show (f ds S1).bind _ = sl2 v hi ds (f ds S1)
      cases f ds S1 with
      | ok u S2 => cases u with
        | int i => exact hh _ _
        | _ => rfl
      | _ => rfl
  | _ => rfl
theorem e_bm {n : String} {o : OpM} : lBm n o fa fr ds S = bm1 n o fr ds (fa ds S) := by
  unfold lBm
  cases fa ds S with
  | ok v S1 =>
    show (if isT n v S1 = true then (fr ds S1).bind (fun vs S2 => o v vs S2) else .no) = (if isT n v S1 = true then bm2 o v (fr ds S1) else .no)
    cases fr ds S1 <;> rfl
  | _ => rfl
theorem e_bm0 {n : String} {o : OpM} : lBm0 n o fa ds S = bm0 n o (fa ds S) := by unfold lBm0; cases fa ds S <;> rfl
theorem e_seq : lSeq a b ds S = seqK b (a ds S) := (rfl)
theorem e_nx : lNx ds S = .nx ds S := (rfl)
theorem e_drop : lDrop fa ds S = drop1 ds (fa ds S) := by unfold lDrop; cases fa ds S <;> rfl
theorem e_ret : lRet fa ds S = ret1 ds (fa ds S) := by unfold lRet; cases fa ds S <;> rfl
theorem e_retN : lRetN ds S = .rt .non S := (rfl)
theorem e_brk : lBrk ds S = .bk ds S := (rfl)
theorem e_cnt : lCnt ds S = .ct ds S := (rfl)
theorem e_if : lIf fc a b ds S = if1 a b ds (fc ds S) := by
  unfold lIf
  cases fc ds S with
  | ok v S1 => cases v with
    | bl b => cases b <;> rfl
    | _ => rfl
  | _ => rfl
theorem e_asg : lAsg fa g ds S = asg1 g ds (fa ds S) := by unfold lAsg; cases fa ds S <;> rfl
theorem e_iter : lIter fa ds S = it1 (fa ds S) := by unfold lIter; cases fa ds S <;> rfl
theorem e_rng1 : lRng1 fr ds S = ita1 rng1O (fr ds S) := by unfold lRng1; cases fr ds S <;> rfl
theorem e_rng2 : lRng2 fr ds S = ita1 rng2O (fr ds S) := by unfold lRng2; cases fr ds S <;> rfl
theorem e_for {li : LI} {fb : LS} : lFor li g fb ds S = forS g fb ds (li ds S) := (rfl)
theorem e_lc {li : LI} {ft fe : LE} {us : List Nat} : lLc li g ft fe us ds S = lcR g ft fe (wipeL ds us) (li ds S) := (rfl)
theorem e_dnew : lDnew ds S = .ok (.ref S.length) (S ++ [.dct []]) := (rfl)
theorem e_nm : asgK (gNm i) ds v S = .nx (ds.set i (some v)) S := (rfl)
theorem e_fn {N : Nat} {s : LS} (h : vs.length = n) : mkFn n N s vs S = gcR S (fin (s (vs.map some ++ List.replicate (N - n) none) S)) := by unfold mkFn; rw [if_pos h]
/-! ### what is behind -/
@[simp] theorem op1_ok : op1 o fb ds (.ok v S) = op2 o v (fb ds S) := (rfl)
@[simp] theorem op1_ex : op1 o fb ds (.ex c fs S) = .ex c fs S := (rfl)
@[simp] theorem op2_ok : op2 o v (.ok w S) = o v w S := (rfl)
@[simp] theorem op2_ex : op2 o v (.ex c fs S) = .ex c fs S := (rfl)
@[simp] theorem un1_ok {o : Op1} : un1 o (.ok v S) = o v S := (rfl)
@[simp] theorem un1_ex {o : Op1} : un1 o (.ex c fs S) = .ex c fs S := (rfl)
@[simp] theorem and1_t : and1 fb ds (.ok (.bl true) S) = fb ds S := (rfl)
@[simp] theorem and1_f : and1 fb ds (.ok (.bl false) S) = .ok (.bl false) S := (rfl)
@[simp] theorem and1_ex : and1 fb ds (.ex c fs S) = .ex c fs S := (rfl)
@[simp] theorem or1_t : or1 fb ds (.ok (.bl true) S) = .ok (.bl true) S := (rfl)
@[simp] theorem or1_f : or1 fb ds (.ok (.bl false) S) = fb ds S := (rfl)
@[simp] theorem or1_ex : or1 fb ds (.ex c fs S) = .ex c fs S := (rfl)
@[simp] theorem not1_ok {k : Bool} : not1 (.ok (.bl k) S) = .ok (.bl !k) S := (rfl)
@[simp] theorem not1_ex : not1 (.ex c fs S) = .ex c fs S := (rfl)
@[simp] theorem ite1_t : ite1 fa fb ds (.ok (.bl true) S) = fa ds S := (rfl)
@[simp] theorem ite1_f : ite1 fa fb ds (.ok (.bl false) S) = fb ds S := (rfl)
@[simp] theorem ite1_ex : ite1 fa fb ds (.ex c fs S) = .ex c fs S := (rfl)
@[simp] theorem ch1_ok : ch1 o o' fb fc ds (.ok v S) = ch2 o o' v fc ds (fb ds S) := (rfl)
@[simp] theorem ch2_ok : ch2 o o' v fc ds (.ok w S) = ch3 o' w fc ds (o v w S) := (rfl)
@[simp] theorem ch3_t : ch3 o' w fc ds (.ok (.bl true) S) = op2 o' w (fc ds S) := (rfl)
@[simp] theorem ch3_f : ch3 o' w fc ds (.ok (.bl false) S) = .ok (.bl false) S := (rfl)
@[simp] theorem cons1_ok : cons1 fr ds (.ok v S) = consK v (fr ds S) := (rfl)
@[simp] theorem cons1_ex : cons1 fr ds (.ex c fs S) = .ex c fs S := (rfl)
@[simp] theorem consK_ok : consK v (.ok vs S) = .ok (v :: vs) S := (rfl)
@[simp] theorem consK_ex : consK v (.ex c fs S) = .ex c fs S := (rfl)
@[simp] theorem app1_ok {o : OpN} : app1 o (.ok vs S) = o vs S := (rfl)
@[simp] theorem app1_ex {o : OpN} : app1 o (.ex c fs S) = .ex c fs S := (rfl)
@[simp] theorem sl1_nn : sl1 none none ds (.ok v S) = slO v none none S := (rfl)
@[simp] theorem sl1_nh : sl1 none (some fb) ds (.ok v S) = sl3 v none (fb ds S) := (rfl)
@[simp] theorem sl1_l {hi : Option LE} : sl1 (some fa) hi ds (.ok v S) = sl2 v hi ds (fa ds S) := (rfl)
@[simp] theorem sl2_n {k : Int} : sl2 v none ds (.ok (.int k) S) = slO v (some k) none S := (rfl)
@[simp] theorem sl2_h {k : Int} : sl2 v (some fb) ds (.ok (.int k) S) = sl3 v (some k) (fb ds S) := (rfl)
@[simp] theorem sl3_ok {k : Int} {l : Option Int} : sl3 v l (.ok (.int k) S) = slO v l (some k) S := (rfl)
theorem bm1_ok {n : String} {o : OpM} (h : isT n v S = true) : bm1 n o fr ds (.ok v S) = bm2 o v (fr ds S) := by unfold bm1; simp [h]
theorem bm0_ok {n : String} {o : OpM} (h : isT n v S = true) : bm0 n o (.ok v S) = o v [] S := by unfold bm0; simp [h]
@[simp] theorem bm1_s {o : OpM} {z : Str} : bm1 "str" o fr ds (.ok (.str z) S) = bm2 o (.str z) (fr ds S) := bm1_ok (by simp [isT])
@[simp] theorem bm2_ok {o : OpM} : bm2 o v (.ok vs S) = o v vs S := (rfl)
@[simp] theorem drop1_ok : drop1 ds (.ok v S) = .nx ds S := (rfl)
@[simp] theorem drop1_ex : drop1 ds (.ex c fs S) = .ex c fs ds S := (rfl)
@[simp] theorem ret1_ok : ret1 ds (.ok v S) = .rt v S := (rfl)
@[simp] theorem ret1_ex : ret1 ds (.ex c fs S) = .ex c fs ds S := (rfl)
@[simp] theorem if1_t : if1 a b ds (.ok (.bl true) S) = a ds S := (rfl)
@[simp] theorem if1_f : if1 a b ds (.ok (.bl false) S) = b ds S := (rfl)
@[simp] theorem if1_ex : if1 a b ds (.ex c fs S) = .ex c fs ds S := (rfl)
@[simp] theorem asg1_ok : asg1 g ds (.ok v S) = asgK g ds v S := (rfl)
@[simp] theorem asg1_ex : asg1 g ds (.ex c fs S) = .ex c fs ds S := (rfl)
@[simp] theorem seq_nx : seqK b (.nx ds S) = b ds S := (rfl)
@[simp] theorem seq_rt : seqK b (.rt v S) = .rt v S := (rfl)
@[simp] theorem seq_bk : seqK b (.bk ds S) = .bk ds S := (rfl)
@[simp] theorem seq_ct : seqK b (.ct ds S) = .ct ds S := (rfl)
@[simp] theorem seq_ex : seqK b (.ex c fs ds S) = .ex c fs ds S := (rfl)
@[simp] theorem fin_nx : fin (.nx ds S) = .ok .non S := (rfl)
@[simp] theorem fin_rt : fin (.rt v S) = .ok v S := (rfl)
@[simp] theorem fin_ex : fin (.ex c fs ds S) = .ex c fs S := (rfl)
@[simp] theorem it1_ok : it1 (.ok v S) = iterO v S := (rfl)
@[simp] theorem ita1_ok {f : List LV → Sto → RI} : ita1 f (.ok vs S) = f vs S := (rfl)
theorem if1_b {k : Bool} : if1 a b ds (.ok (.bl k) S) = if k = true then a ds S else b ds S := by cases k <;> rfl
theorem ite1_b {k : Bool} : ite1 fa fb ds (.ok (.bl k) S) = if k = true then fa ds S else fb ds S := by cases k <;> rfl
/-! ### what nobody holds is dropped -/
@[simp] theorem low_int {k : Int} : lowV n (.int k) = true := (rfl)
@[simp] theorem low_str {k : Str} : lowV n (.str k) = true := (rfl)
@[simp] theorem low_bl {k : Bool} : lowV n (.bl k) = true := (rfl)
@[simp] theorem low_non : lowV n .non = true := (rfl)
@[simp] theorem low_scr {ns : List Int} : lowV n (.scr ns) = true := (rfl)
@[simp] theorem low_tup : lowV n (.tup vs) = lowVs n vs := (rfl)
@[simp] theorem low_ktp : lowV n (.ktp vs) = lowVs n vs := (rfl)
@[simp] theorem low_ref {k : Nat} : lowV n (.ref k) = decide (k < n) := (rfl)
@[simp] theorem lows_nil : lowVs n [] = true := (rfl)
@[simp] theorem lows_cons : lowVs n (v :: vs) = (lowV n v && lowVs n vs) := (rfl)
theorem gc_bl {S S' : Sto} {k : Bool} : ∃ S2, gcR S (.ok (.bl k) S') = .ok (.bl k) S2 := by
  unfold gcR
  simp only [low_bl, if_true]
  split
  · exact ⟨_, rfl⟩
  · exact ⟨_, rfl⟩
theorem gc_new {o : LO} (l : lowO S.length o = true) : gcR S (.ok (.ref S.length) (S ++ [o])) = .ok (.ref S.length) (S ++ [o]) := gc_ref (k := 0) rfl l
@[simp] theorem get_app0 : (S ++ U)[S.length]? = U[0]? := by rw [List.getElem?_append_right (Nat.le_refl _), Nat.sub_self]
@[simp] theorem get_app {k : Nat} : (S ++ U)[S.length + k]? = U[k]? := by rw [List.getElem?_append_right (Nat.le_add_right _ _), Nat.add_sub_cancel_left]
theorem set_app0 {o : LO} : (S ++ U).set S.length o = S ++ U.set 0 o := by
  rw [List.set_append_right _ _ (Nat.le_refl _), Nat.sub_self]
theorem set_app {k : Nat} {o : LO} : (S ++ U).set (S.length + k) o = S ++ U.set k o := by
  rw [List.set_append_right _ _ (Nat.le_add_right _ _), Nat.add_sub_cancel_left]
end
/-! ### loops over what is known -/
def forL (lg : LG) (fb : LS) : List LV → Sl → Sto → RS
  | [], ds, S => .nx ds S
  | v :: vs, ds, S => match lg v S ds with
    | none => .no
    | some ds1 => match fb ds1 S with
      | .nx ds2 S2 => forL lg fb vs ds2 S2
      | .ct ds2 S2 => forL lg fb vs ds2 S2
      | .bk ds2 S2 => .nx ds2 S2
      | r => r
theorem for_ofAux (lg : LG) (fb : LS) (xs : List LV) : ∀ (k i : Nat) (ds : Sl) (S : Sto), i + k = xs.length → forK (itOf xs) lg fb k i ds S = forL lg fb (xs.drop i) ds S
  | 0, i, ds, S, h => by
    have : xs.drop i = [] := List.drop_eq_nil_of_le (by omega)
    rw [this]
    rfl
  | k + 1, i, ds, S, h => by
    have hi : i < xs.length := by omega
    rw [List.drop_eq_getElem_cons hi]
    have e : xs[i]? = some xs[i] := List.getElem?_eq_getElem hi
    unfold forK forL
    show (match xs[i]? with | none => RS.no | some v => _) = _
    rw [e]
    simp only
    cases lg xs[i] S ds with
    | none => rfl
    | some ds1 =>
      simp only
      cases fb ds1 S with
      | nx ds2 S2 => exact for_ofAux lg fb xs k (i + 1) ds2 S2 (by omega)
      | ct ds2 S2 => exact for_ofAux lg fb xs k (i + 1) ds2 S2 (by omega)
      | _ => rfl
@[simp] theorem forS_of {lg : LG} {fb : LS} {xs : List LV} {ds : Sl} {S : Sto} : forS lg fb ds (.ok (itOf xs) S) = forL lg fb xs ds S := by
  show forK (itOf xs) lg fb xs.length 0 ds S = _
  rw [for_ofAux lg fb xs _ _ _ _ (by omega), List.drop_zero]
@[simp] theorem forS_ex {lg : LG} {fb : LS} {ds : Sl} {S : Sto} {c : Nat} {fs : List LV} : forS lg fb ds (.ex c fs S) = .ex c fs ds S := (rfl)
def lcL (lg : LG) (ft fe : LE) (ds : Sl) : List LV → List LV → Sto → R
  | [], acc, S => if small acc.length = true then .ok (.ref S.length) (S ++ [.lst acc]) else .no
  | v :: vs, acc, S => match lg v S ds with
    | none => .no
    | some ds1 => match ft ds1 S with
      | .ok (.bl true) S1 => match fe ds1 S1 with
        | .ok u S2 => lcL lg ft fe ds vs (acc ++ [u]) S2
        | _ => .no
      | .ok (.bl false) S1 => lcL lg ft fe ds vs acc S1
      | _ => .no
theorem lc_ofAux (lg : LG) (ft fe : LE) (xs : List LV) (ds : Sl) : ∀ (k i : Nat) (acc : List LV) (S : Sto), i + k = xs.length → lcK (itOf xs) lg ft fe ds k i acc S = lcL lg ft fe ds (xs.drop i) acc S
  | 0, i, acc, S, h => by
    have : xs.drop i = [] := List.drop_eq_nil_of_le (by omega)
    rw [this]
    unfold lcK lcL
    show (if (true && small acc.length) = true then _ else _) = _
    rw [Bool.true_and]
  | k + 1, i, acc, S, h => by
    have hi : i < xs.length := by omega
    rw [List.drop_eq_getElem_cons hi]
    have e : xs[i]? = some xs[i] := List.getElem?_eq_getElem hi
    unfold lcK lcL
    show (match xs[i]? with | none => R.no | some v => _) = _
    rw [e]
    simp only
    cases lg xs[i] S ds with
    | none => rfl
    | some ds1 =>
      simp only
      cases ft ds1 S with
      | ok v S1 =>
        cases v with
        | bl b =>
          cases b with
          | true =>
            simp only
            cases fe ds1 S1 with
            | ok u S2 => exact lc_ofAux lg ft fe xs ds k (i + 1) _ S2 (by omega)
            | _ => rfl
          | false => exact lc_ofAux lg ft fe xs ds k (i + 1) _ S1 (by omega)
        | _ => rfl
      | _ => rfl
@[simp] theorem lcR_of {lg : LG} {ft fe : LE} {xs : List LV} {ds : Sl} {S : Sto} : lcR lg ft fe ds (.ok (itOf xs) S) = lcL lg ft fe ds xs [] S := by
  show lcK (itOf xs) lg ft fe ds xs.length 0 [] S = _
  rw [lc_ofAux lg ft fe xs ds _ _ _ _ (by omega), List.drop_zero]
/-- a list's own loop, where nothing writes at it -/
theorem for_refAux (lg : LG) (fb : LS) (P : Sto → Prop) (n : Nat) (xs : List LV) (hP : ∀ S, P S → S[n]? = some (.lst xs))
    (hf : ∀ v ds1 S, v ∈ xs → P S → match fb ds1 S with | .nx _ S2 => P S2 | .ct _ S2 => P S2 | _ => True) :
    ∀ (k i : Nat) (ds : Sl) (S : Sto), i + k = xs.length → P S → forK (itRef n xs.length) lg fb k i ds S = forL lg fb (xs.drop i) ds S
  | 0, i, ds, S, h, p => by
    have : xs.drop i = [] := List.drop_eq_nil_of_le (by omega)
    rw [this]
    unfold forK forL
    show (if refF n xs.length S = true then _ else _) = _
    unfold refF
    rw [hP S p]
    simp
  | k + 1, i, ds, S, h, p => by
    have hi : i < xs.length := by omega
    rw [List.drop_eq_getElem_cons hi]
    have e : xs[i]? = some xs[i] := List.getElem?_eq_getElem hi
    unfold forK forL
    have e2 : (itRef n xs.length).item i S = some xs[i] := by
      show refI n xs.length i S = _
      unfold refI
      rw [hP S p]
      simp [e]
    rw [e2]
    simp only
    cases lg xs[i] S ds with
    | none => rfl
    | some ds1 =>
      simp only
      have q := hf xs[i] ds1 S (List.getElem_mem hi) p
      cases h2 : fb ds1 S with
      | nx ds2 S2 => rw [h2] at q; exact for_refAux lg fb P n xs hP hf k (i + 1) ds2 S2 (by omega) q
      | ct ds2 S2 => rw [h2] at q; exact for_refAux lg fb P n xs hP hf k (i + 1) ds2 S2 (by omega) q
      | _ => rfl
theorem forS_ref {lg : LG} {fb : LS} {n : Nat} {xs : List LV} {ds : Sl} {S : Sto} (P : Sto → Prop) (hP : ∀ S, P S → S[n]? = some (.lst xs))
    (hf : ∀ v ds1 S, v ∈ xs → P S → match fb ds1 S with | .nx _ S2 => P S2 | .ct _ S2 => P S2 | _ => True) (p : P S) :
    forS lg fb ds (.ok (itRef n xs.length) S) = forL lg fb xs ds S := by
  show forK (itRef n xs.length) lg fb xs.length 0 ds S = _
  rw [for_refAux lg fb P n xs hP hf _ _ _ _ (by omega) p, List.drop_zero]
theorem lc_refAux (lg : LG) (ft fe : LE) (P : Sto → Prop) (n : Nat) (xs : List LV) (ds : Sl) (hP : ∀ S, P S → S[n]? = some (.lst xs))
    (hf : ∀ ds1 S, P S → match ft ds1 S with | .ok _ S2 => P S2 | _ => True) (he : ∀ ds1 S, P S → match fe ds1 S with | .ok _ S2 => P S2 | _ => True) :
    ∀ (k i : Nat) (acc : List LV) (S : Sto), i + k = xs.length → P S → lcK (itRef n xs.length) lg ft fe ds k i acc S = lcL lg ft fe ds (xs.drop i) acc S
  | 0, i, acc, S, h, p => by
    have : xs.drop i = [] := List.drop_eq_nil_of_le (by omega)
    rw [this]
    unfold lcK lcL
    show (if (refF n xs.length S && small acc.length) = true then _ else _) = _
    unfold refF
    rw [hP S p]
    simp
  | k + 1, i, acc, S, h, p => by
    have hi : i < xs.length := by omega
    rw [List.drop_eq_getElem_cons hi]
    have e : xs[i]? = some xs[i] := List.getElem?_eq_getElem hi
    unfold lcK lcL
    have e2 : (itRef n xs.length).item i S = some xs[i] := by
      show refI n xs.length i S = _
      unfold refI
      rw [hP S p]
      simp [e]
    rw [e2]
    simp only
    cases lg xs[i] S ds with
    | none => rfl
    | some ds1 =>
      simp only
      have q := hf ds1 S p
      cases h2 : ft ds1 S with
      | ok v S1 =>
        rw [h2] at q
        cases v with
        | bl b =>
          cases b with
          | true =>
            simp only
            have q2 := he ds1 S1 q
            cases h3 : fe ds1 S1 with
            | ok u S2 => rw [h3] at q2; exact lc_refAux lg ft fe P n xs ds hP hf he k (i + 1) _ S2 (by omega) q2
            | _ => rfl
          | false => exact lc_refAux lg ft fe P n xs ds hP hf he k (i + 1) _ S1 (by omega) q
        | _ => rfl
      | _ => rfl
theorem lcR_ref {lg : LG} {ft fe : LE} {n : Nat} {xs : List LV} {ds : Sl} {S : Sto} (P : Sto → Prop) (hP : ∀ S, P S → S[n]? = some (.lst xs))
    (hf : ∀ ds1 S, P S → match ft ds1 S with | .ok _ S2 => P S2 | _ => True) (he : ∀ ds1 S, P S → match fe ds1 S with | .ok _ S2 => P S2 | _ => True) (p : P S) :
    lcR lg ft fe ds (.ok (itRef n xs.length) S) = lcL lg ft fe ds xs [] S := by
  show lcK (itRef n xs.length) lg ft fe ds xs.length 0 [] S = _
  rw [lc_refAux lg ft fe P n xs ds hP hf he _ _ _ _ (by omega) p, List.drop_zero]
/-- a comprehension whose test and part leave the store -/
theorem lcL_pure {lg : LG} {ft fe : LE} {ds : Sl} {S : Sto} (t : LV → Bool) (f : LV → LV) : ∀ (xs acc : List LV),
    (∀ v ∈ xs, ∃ ds1, lg v S ds = some ds1 ∧ ft ds1 S = .ok (.bl (t v)) S ∧ (t v = true → fe ds1 S = .ok (f v) S)) →
    small (acc.length + xs.length) = true →
    lcL lg ft fe ds xs acc S = .ok (.ref S.length) (S ++ [.lst (acc ++ (xs.filter t).map f)])
  | [], acc, h, hs => by
    unfold lcL
    rw [if_pos (by simpa using hs)]
    simp
  | v :: vs, acc, h, hs => by
    obtain ⟨ds1, h1, h2, h3⟩ := h v (List.mem_cons_self ..)
    have hr : ∀ u ∈ vs, ∃ ds1, lg u S ds = some ds1 ∧ ft ds1 S = .ok (.bl (t u)) S ∧ (t u = true → fe ds1 S = .ok (f u) S) := fun u hu => h u (List.mem_cons_of_mem _ hu)
    unfold lcL
    rw [h1]
    simp only
    rw [h2]
    cases ht : t v with
    | true =>
      simp only
      rw [h3 ht]
      simp only
      rw [lcL_pure t f vs (acc ++ [f v]) hr (by simp only [List.length_append, List.length_cons, List.length_nil] at hs ⊢; rw [show acc.length + (0 + 1) + vs.length = acc.length + (vs.length + 1) by omega]; exact hs)]
      simp [List.filter_cons, ht]
    | false =>
      simp only
      rw [lcL_pure t f vs acc hr (by unfold small at hs ⊢; simp only [List.length_cons, decide_eq_true_eq] at hs ⊢; omega)]
      simp [List.filter_cons, ht]
/-! ### operators on what is known -/
/-- the signs of a text; the text of one sign -/
def tl (z : Str) : List Nat := z.cps.toList
def one (c : Nat) : Str := ⟨#[c]⟩
theorem signs_tl (z : Str) : LL.signs z = (tl z).map fun c => .str (one c) := (rfl)
section
variable {i j : Int} {y z : Str} {S : Sto} {p q : Bool} {v w : LV} {vs us : List LV}
@[simp] theorem add_ii : addL (.int i) (.int j) S = .ok (.int (i + j)) S := (rfl)
theorem add_ss (h : y.length + z.length ≤ 16777216) : addL (.str y) (.str z) S = .ok (.str (y ++ z)) S := by simp [addL, small, h]
theorem add_tt (h : vs.length + us.length ≤ 16777216) : addL (.tup vs) (.tup us) S = .ok (.tup (vs ++ us)) S := by simp [addL, small, h]
@[simp] theorem sub_ii : subL (.int i) (.int j) S = .ok (.int (i - j)) S := (rfl)
theorem mul_l (h : -(2 ^ 64) < i) (h2 : i < 2 ^ 64) : mulL (.int i) (.int j) S = .ok (.int (i * j)) S := by
  have : okMul i j = true := by simp only [okMul, Bool.or_eq_true, Bool.and_eq_true, decide_eq_true_eq]; exact .inl (.inl ⟨h, h2⟩)
  simp only [mulL, this, if_true]
theorem mul_r (h : -(2 ^ 64) < j) (h2 : j < 2 ^ 64) : mulL (.int i) (.int j) S = .ok (.int (i * j)) S := by
  have : okMul i j = true := by simp only [okMul, Bool.or_eq_true, Bool.and_eq_true, decide_eq_true_eq]; exact .inl (.inr ⟨h, h2⟩)
  simp only [mulL, this, if_true]
theorem mul_b (h : -bigB ≤ i ∧ i ≤ bigB) (h2 : -bigB ≤ j ∧ j ≤ bigB) : mulL (.int i) (.int j) S = .ok (.int (i * j)) S := by
  have : okMul i j = true := by simp only [okMul, Bool.or_eq_true, Bool.and_eq_true, decide_eq_true_eq]; exact .inr ⟨⟨⟨h.1, h.2⟩, h2.1⟩, h2.2⟩
  simp only [mulL, this, if_true]
theorem div_ii (h : 0 < j) (h2 : j ≤ 10 ^ 70) : divL (.int i) (.int j) S = .ok (.int (i / j)) S := by
  have : okDiv j = true := by unfold okDiv bigB; rw [decide_eq_true h, decide_eq_true h2]; rfl
  simp only [divL, this, if_true]
theorem mod_ii (h : 0 < j) : modL (.int i) (.int j) S = .ok (.int (i % j)) S := by simp only [modL, h, if_true]
theorem pow_ii (h : 0 ≤ j) (h2 : j ≤ 1000000) (h3 : i.natAbs < 2 ^ 64) : powL (.int i) (.int j) S = .ok (.int (i ^ j.toNat)) S := by
  have : okPow i j = true := by simp only [okPow, Bool.and_eq_true, decide_eq_true_eq]; exact ⟨⟨h, h2⟩, h3⟩
  simp only [powL, this, if_true]
@[simp] theorem neg_i : negL (.int i) S = .ok (.int (-i)) S := (rfl)
@[simp] theorem lt_ii : ltL (.int i) (.int j) S = .ok (.bl (decide (i < j))) S := (rfl)
@[simp] theorem le_ii : leL (.int i) (.int j) S = .ok (.bl (decide (i ≤ j))) S := (rfl)
@[simp] theorem gt_ii : gtL (.int i) (.int j) S = .ok (.bl (decide (j < i))) S := (rfl)
@[simp] theorem ge_ii : geL (.int i) (.int j) S = .ok (.bl (decide (j ≤ i))) S := (rfl)
@[simp] theorem lt_ss : ltL (.str y) (.str z) S = .ok (.bl (sLt y z)) S := (rfl)
@[simp] theorem le_ss : leL (.str y) (.str z) S = .ok (.bl (!sLt z y)) S := (rfl)
@[simp] theorem gt_ss : gtL (.str y) (.str z) S = .ok (.bl (sLt z y)) S := (rfl)
@[simp] theorem ge_ss : geL (.str y) (.str z) S = .ok (.bl (!sLt y z)) S := (rfl)
@[simp] theorem eq_ii : eqL (.int i) (.int j) S = .ok (.bl (decide (i = j))) S := (rfl)
theorem tl_beq (y z : Str) : decide (y = z) = (tl y == tl z) := by
  by_cases h : y = z
  · subst h
    rw [decide_eq_true rfl, beq_self_eq_true]
  · rw [decide_eq_false h]
    symm
    exact beq_false_of_ne fun e => h (TL.ext_tl e)
@[simp] theorem eq_ss : eqL (.str y) (.str z) S = .ok (.bl (tl y == tl z)) S := by rw [← tl_beq]; rfl
@[simp] theorem eq_bb : eqL (.bl p) (.bl q) S = .ok (.bl (decide (p = q))) S := (rfl)
@[simp] theorem eq_nn : eqL .non .non S = .ok (.bl true) S := (rfl)
@[simp] theorem eq_in : eqL (.int i) .non S = .ok (.bl false) S := (rfl)
@[simp] theorem eq_ni : eqL .non (.int i) S = .ok (.bl false) S := (rfl)
@[simp] theorem eq_sn : eqL (.str y) .non S = .ok (.bl false) S := (rfl)
@[simp] theorem eq_ns : eqL .non (.str y) S = .ok (.bl false) S := (rfl)
@[simp] theorem eq_is : eqL (.int i) (.str y) S = .ok (.bl false) S := (rfl)
@[simp] theorem eq_si : eqL (.str y) (.int i) S = .ok (.bl false) S := (rfl)
@[simp] theorem ne_ii : neL (.int i) (.int j) S = .ok (.bl (!decide (i = j))) S := (rfl)
@[simp] theorem ne_ss : neL (.str y) (.str z) S = .ok (.bl (!(tl y == tl z))) S := by rw [← tl_beq]; rfl
@[simp] theorem ne_bb : neL (.bl p) (.bl q) S = .ok (.bl (!decide (p = q))) S := (rfl)
@[simp] theorem ne_nn : neL .non .non S = .ok (.bl false) S := (rfl)
@[simp] theorem ne_in : neL (.int i) .non S = .ok (.bl true) S := (rfl)
@[simp] theorem ne_ni : neL .non (.int i) S = .ok (.bl true) S := (rfl)
@[simp] theorem ne_sn : neL (.str y) .non S = .ok (.bl true) S := (rfl)
@[simp] theorem is_n : isL v .non S = .ok (.bl (isN v)) S := by cases v <;> rfl
@[simp] theorem isnot_n : isnotL v .non S = .ok (.bl (!isN v)) S := by cases v <;> rfl
@[simp] theorem is_bb : isL (.bl p) (.bl q) S = .ok (.bl (decide (p = q))) S := (rfl)
@[simp] theorem isnot_bb : isnotL (.bl p) (.bl q) S = .ok (.bl (!decide (p = q))) S := (rfl)
@[simp] theorem isN_n : isN .non = true := (rfl)
@[simp] theorem isN_i : isN (.int i) = false := (rfl)
@[simp] theorem isN_s : isN (.str y) = false := (rfl)
@[simp] theorem isN_b : isN (.bl p) = false := (rfl)
@[simp] theorem isN_t : isN (.tup vs) = false := (rfl)
@[simp] theorem isN_r {n : Nat} : isN (.ref n) = false := (rfl)
@[simp] theorem isX_n : isX .non = false := (rfl)
@[simp] theorem isX_i : isX (.int i) = false := (rfl)
@[simp] theorem isX_s : isX (.str y) = false := (rfl)
@[simp] theorem isX_b : isX (.bl p) = false := (rfl)
@[simp] theorem isX_t : isX (.tup vs) = false := (rfl)
@[simp] theorem isX_r {n : Nat} : isX (.ref n) = false := (rfl)
@[simp] theorem isX_c {ns : List Int} : isX (.scr ns) = false := (rfl)
@[simp] theorem in_ss : inL (.str y) (.str z) S = .ok (.bl (inT y z)) S := (rfl)
@[simp] theorem nin_ss : notinL (.str y) (.str z) S = .ok (.bl (!inT y z)) S := (rfl)
@[simp] theorem inT_1 {c : Nat} : inT (one c) z = decide (c ∈ tl z) := by simp [inT, tl, one]
theorem str_i (h : -(10 ^ 70) ≤ i) (h2 : i ≤ 10 ^ 70) : strL [.int i] S = .ok (.str (toString i)) S := by
  have : okNum i = true := by unfold okNum bigB; rw [decide_eq_true h, decide_eq_true h2]; rfl
  simp only [strL, this, if_true]
theorem len_s (h : z.length ≤ 16777216) : lenL [.str z] S = .ok (.int z.length) S := by simp [lenL, lenO, okStr, small, h]
@[simp] theorem len_c {ns : List Int} : lenL [.scr ns] S = .ok (.int ns.length) S := (rfl)
@[simp] theorem len_t : lenL [.tup vs] S = .ok (.int vs.length) S := (rfl)
@[simp] theorem isi_i {n : String} : isiL [.int i, .ty n] S = (match isiT "int" n with | some b => .ok (.bl b) S | none => .no) := (rfl)
@[simp] theorem isi_b {n : String} : isiL [.bl p, .ty n] S = (match isiT "bool" n with | some b => .ok (.bl b) S | none => .no) := (rfl)
@[simp] theorem isi_s {n : String} : isiL [.str y, .ty n] S = (match isiT "str" n with | some b => .ok (.bl b) S | none => .no) := (rfl)
@[simp] theorem isi_n {n : String} : isiL [.non, .ty n] S = (match isiT "NoneType" n with | some b => .ok (.bl b) S | none => .no) := (rfl)
@[simp] theorem isi_t {n : String} : isiL [.tup vs, .ty n] S = (match isiT "tuple" n with | some b => .ok (.bl b) S | none => .no) := (rfl)
theorem isi_l {n k : String} {S : Sto} {m : Nat} {xs : List LV} (h : S[m]? = some (.lst xs)) : isiL [.ref m, .ty n] S = (match isiT "list" n with | some b => .ok (.bl b) S | none => .no) := by
  simp only [isiL, kindL, h]
  all_goals (cases isiT _ n <;> rfl)
theorem isi_d {n k : String} {S : Sto} {m : Nat} {xs} (h : S[m]? = some (.dct xs)) : isiL [.ref m, .ty n] S = (match isiT "dict" n with | some b => .ok (.bl b) S | none => .no) := by
  simp only [isiL, kindL, h]
  all_goals (cases isiT _ n <;> rfl)
theorem sl_s {lo hi : Option Int} (h : z.length ≤ 16777216) : slO (.str z) lo hi S = .ok (.str (cutS z lo hi)) S := by simp [slO, okStr, small, h]
@[simp] theorem iter_s : iterO (.str z) S = .ok (itOf (LL.signs z)) S := (rfl)
@[simp] theorem iter_c {ns : List Int} : iterO (.scr ns) S = .ok (itOf (ns.map .int)) S := (rfl)
@[simp] theorem iter_t : iterO (.tup vs) S = .ok (itOf vs) S := (rfl)
@[simp] theorem iter_k : iterO (.ktp vs) S = .ok (itOf vs) S := (rfl)
theorem rng1_e (h : -(2 ^ 62) ≤ j) (h2 : j < 2 ^ 62) : rng1O [.int j] S = .ok (itOf (rng 0 j.toNat)) S := by
  have : okRg j = true := by simp only [okRg, Bool.and_eq_true, decide_eq_true_eq]; exact ⟨h, h2⟩
  simp only [rng1O, this, if_true]
theorem rng2_e (h : -(2 ^ 62) ≤ i) (h2 : i < 2 ^ 62) (h3 : -(2 ^ 62) ≤ j) (h4 : j < 2 ^ 62) : rng2O [.int i, .int j] S = .ok (itOf (rng i (j - i).toNat)) S := by
  have : (okRg i && okRg j) = true := by simp only [okRg, Bool.and_eq_true, decide_eq_true_eq]; exact ⟨⟨h, h2⟩, h3, h4⟩
  simp only [rng2O, this, if_true]
@[simp] theorem isiT_ii : isiT "int" "int" = some true := by decide
@[simp] theorem isiT_ib : isiT "int" "bool" = some false := by decide
@[simp] theorem isiT_is : isiT "int" "str" = some false := by decide
@[simp] theorem isiT_il : isiT "int" "list" = some false := by decide
@[simp] theorem isiT_it : isiT "int" "tuple" = some false := by decide
@[simp] theorem isiT_bi : isiT "bool" "int" = some true := by decide
@[simp] theorem isiT_bb : isiT "bool" "bool" = some true := by decide
@[simp] theorem isiT_bs : isiT "bool" "str" = some false := by decide
@[simp] theorem isiT_bl : isiT "bool" "list" = some false := by decide
@[simp] theorem isiT_bt : isiT "bool" "tuple" = some false := by decide
@[simp] theorem isiT_si : isiT "str" "int" = some false := by decide
@[simp] theorem isiT_sb : isiT "str" "bool" = some false := by decide
@[simp] theorem isiT_ss : isiT "str" "str" = some true := by decide
@[simp] theorem isiT_sl : isiT "str" "list" = some false := by decide
@[simp] theorem isiT_st : isiT "str" "tuple" = some false := by decide
@[simp] theorem isiT_ni : isiT "NoneType" "int" = some false := by decide
@[simp] theorem isiT_nb : isiT "NoneType" "bool" = some false := by decide
@[simp] theorem isiT_ns : isiT "NoneType" "str" = some false := by decide
@[simp] theorem isiT_nl : isiT "NoneType" "list" = some false := by decide
@[simp] theorem isiT_nt : isiT "NoneType" "tuple" = some false := by decide
@[simp] theorem isiT_ti : isiT "tuple" "int" = some false := by decide
@[simp] theorem isiT_tb : isiT "tuple" "bool" = some false := by decide
@[simp] theorem isiT_ts : isiT "tuple" "str" = some false := by decide
@[simp] theorem isiT_tl : isiT "tuple" "list" = some false := by decide
@[simp] theorem isiT_tt : isiT "tuple" "tuple" = some true := by decide
@[simp] theorem isiT_li : isiT "list" "int" = some false := by decide
@[simp] theorem isiT_lb : isiT "list" "bool" = some false := by decide
@[simp] theorem isiT_ls : isiT "list" "str" = some false := by decide
@[simp] theorem isiT_ll : isiT "list" "list" = some true := by decide
@[simp] theorem isiT_lt : isiT "list" "tuple" = some false := by decide
@[simp] theorem isiT_di : isiT "dict" "int" = some false := by decide
@[simp] theorem isiT_db : isiT "dict" "bool" = some false := by decide
@[simp] theorem isiT_ds : isiT "dict" "str" = some false := by decide
@[simp] theorem isiT_dl : isiT "dict" "list" = some false := by decide
@[simp] theorem isiT_dt : isiT "dict" "tuple" = some false := by decide
end
end LL


set_option Elab.async false
set_option linter.all false
set_option maxRecDepth 100000
set_option maxHeartbeats 2000000
/-! The logical layer: texts by their signs, subscripts, comparing lists. -/
namespace LL
open PySem PySem.Spec PyProof.Rows L2

theorem tl_ext {y z : Str} (h : tl y = tl z) : y = z := TL.ext_tl h
theorem tl_eq {y z : Str} : y = z ↔ tl y = tl z := ⟨fun h => h ▸ rfl, tl_ext⟩
theorem deq (y z : Str) : decide (y = z) = decide (tl y = tl z) := by
  by_cases h : y = z
  · rw [decide_eq_true h, decide_eq_true (tl_eq.mp h)]
  · rw [decide_eq_false h, decide_eq_false fun k => h (tl_eq.mpr k)]
@[simp] theorem tl_one (c : Nat) : tl (one c) = [c] := (rfl)
@[simp] theorem tl_emp : tl ("" : Str) = [] := (rfl)
@[simp] theorem len_one (c : Nat) : (one c).length = 1 := (rfl)
theorem filter_not_empty {α : Type} (p : α → Bool) : ∀ l : List α, (l.filter (fun c => !p c)).isEmpty = l.all p
  | [] => rfl
  | a :: l => by
    rw [List.filter_cons, List.all_cons]
    cases h : p a
    · simp
    · simp [filter_not_empty p l]
theorem tl_app (y z : Str) : tl (y ++ z) = tl y ++ tl z := TL.tl_append y z
theorem tl_len (z : Str) : z.length = (tl z).length := TL.len_tl z
theorem app_len (y z : Str) : (y ++ z).length = y.length + z.length := by rw [tl_len, tl_app, List.length_append, ← tl_len, ← tl_len]
theorem len_tl (z : Str) : (tl z).length = z.length := (tl_len z).symm
theorem tl_mk (l : List Nat) : tl ⟨l.toArray⟩ = l := (rfl)
theorem tl_cut (z : Str) (lo hi : Option Int) : tl (cutS z lo hi) = ((tl z).drop (HT.sIx z.length 0 lo)).take (HT.sIx z.length z.length hi - HT.sIx z.length 0 lo) := (rfl)
theorem cut_to (z : Str) {k : Int} (h : 0 ≤ k) : tl (cutS z none (some k)) = (tl z).take k.toNat := by
  rw [tl_cut]
  show ((tl z).drop 0).take ((if k < 0 then (k + (z.length : Int)).toNat else min k.toNat z.length) - 0) = _
  rw [if_neg (by omega), List.drop_zero, Nat.sub_zero, tl_len, ← List.take_take, List.take_length]
theorem cut_from (z : Str) {k : Int} (h : 0 ≤ k) : tl (cutS z (some k) none) = (tl z).drop k.toNat := by
  rw [tl_cut]
  show ((tl z).drop (if k < 0 then (k + (z.length : Int)).toNat else min k.toNat z.length)).take (z.length - (if k < 0 then (k + (z.length : Int)).toNat else min k.toNat z.length)) = _
  rw [if_neg (by omega), tl_len]
  by_cases c : k.toNat ≤ (tl z).length
  · rw [Nat.min_eq_left c]
    exact List.take_of_length_le (by rw [List.length_drop]; exact Nat.le_refl _)
  · rw [Nat.min_eq_right (by omega), List.drop_length, List.drop_eq_nil_of_le (by omega)]
    simp
theorem cut_last (z : Str) : tl (cutS z (some (-1)) none) = (tl z).drop ((tl z).length - 1) := by
  rw [tl_cut]
  show ((tl z).drop (if (-1 : Int) < 0 then (-1 + (z.length : Int)).toNat else min (-1 : Int).toNat z.length)).take (z.length - (if (-1 : Int) < 0 then (-1 + (z.length : Int)).toNat else min (-1 : Int).toNat z.length)) = _
  rw [if_pos (by decide), tl_len, show (-1 + ((tl z).length : Int)).toNat = (tl z).length - 1 by omega]
  exact List.take_of_length_le (by rw [List.length_drop]; exact Nat.le_refl _)
theorem cut_len (z : Str) (lo hi : Option Int) : (cutS z lo hi).length ≤ z.length := cutS_length z lo hi
/-- a cell of a script; a sign of a text -/
def cell (ns : List Int) (k : Int) : Int := ns.getD k.toNat 0
def atN (l : List Nat) (i : Int) : Nat := l.getD i.toNat 0
/-- the sign at each of some numbers -/
def codes (g : Int → Nat) (lo : Int) (n : Nat) : List Nat := (List.range n).map fun k : Nat => g (lo + (k : Int))
theorem codes_len (g : Int → Nat) (lo : Int) (n : Nat) : (codes g lo n).length = n := by simp [codes]
theorem codes_all {g : Int → Nat} {lo : Int} {n m : Nat} (h : ∀ k : Nat, k < n → g (lo + k) < m) : ∀ c ∈ codes g lo n, c < m := fun c hc => by
  obtain ⟨k, hk, rfl⟩ := List.mem_map.mp hc
  exact h k (List.mem_range.mp hk)
theorem getD_lt {l : List Nat} {i m : Nat} (h : ∀ c ∈ l, c < m) (hi : i < l.length) : l.getD i 0 < m := by
  rw [List.getD_eq_getElem?_getD, List.getElem?_eq_getElem hi]
  exact h _ (List.getElem_mem hi)
theorem atN_lt {l : List Nat} {i : Int} {m : Nat} (h : ∀ c ∈ l, c < m) (h0 : 0 ≤ i) (hi : i < l.length) : atN l i < m := getD_lt h (by omega)
section
variable {i j : Int} {y z : Str} {S : Sto} {v w : LV} {vs us : List LV}
theorem atI_nn {α : Type} {xs : List α} {j : Int} (h : 0 ≤ j) : atI xs j = xs[j.toNat]? := by
  unfold atI ixN
  rw [if_pos h]
  by_cases c : j < xs.length
  · rw [if_pos c]; rfl
  · rw [if_neg c, List.getElem?_eq_none (by omega)]; rfl
theorem atI_m1 {α : Type} {xs : List α} : atI xs (-1) = xs[xs.length - 1]? := by
  unfold atI ixN
  rw [if_neg (by omega)]
  by_cases c : -(xs.length : Int) ≤ -1
  · rw [if_pos c, show (-1 + (xs.length : Int)).toNat = xs.length - 1 by omega]; rfl
  · rw [if_neg c, List.getElem?_eq_none (by omega)]; rfl
theorem ix_c {ns : List Int} (h : 0 ≤ j) (h2 : j < ns.length) : ixL (.scr ns) (.int j) S = .ok (.int (cell ns j)) S := by
  unfold cell
  simp only [ixL, ixO, atI_nn h]
  have hl : j.toNat < ns.length := by omega
  rw [List.getElem?_eq_getElem hl, List.getD_eq_getElem?_getD, List.getElem?_eq_getElem hl]
  rfl
theorem ix_s (h : 0 ≤ j) (h2 : j < z.length) (h3 : z.length ≤ 16777216) : ixL (.str z) (.int j) S = .ok (.str (one (atN (tl z) j))) S := by
  unfold atN
  have hs : okStr z = true := by unfold okStr small; exact decide_eq_true h3
  simp only [ixL, ixO, atI_nn h, hs, if_true]
  have hl : j.toNat < (tl z).length := by rw [len_tl]; omega
  rw [show z.cps.toList = tl z from rfl, List.getElem?_eq_getElem hl, List.getD_eq_getElem?_getD, List.getElem?_eq_getElem hl]
  rfl
theorem ix_s1 (h2 : 0 < z.length) (h3 : z.length ≤ 16777216) : ixL (.str z) (.int (-1)) S = .ok (.str (one ((tl z).getD ((tl z).length - 1) 0))) S := by
  have hs : okStr z = true := by unfold okStr small; exact decide_eq_true h3
  simp only [ixL, ixO, atI_m1, hs, if_true]
  have hl : (tl z).length - 1 < (tl z).length := by rw [len_tl]; omega
  rw [show z.cps.toList = tl z from rfl, List.getElem?_eq_getElem hl, List.getD_eq_getElem?_getD, List.getElem?_eq_getElem hl]
  rfl
theorem ix_s0 {a : Nat} {l : List Nat} (h : tl z = a :: l) (h3 : z.length ≤ 16777216) : ixL (.str z) (.int 0) S = .ok (.str (one a)) S := by
  rw [ix_s (by omega) (by rw [tl_len, h]; simp) h3, h]; rfl
theorem ix_sl {c : Nat} (h : (tl z).getLast? = some c) (h3 : z.length ≤ 16777216) : ixL (.str z) (.int (-1)) S = .ok (.str (one c)) S := by
  have hl : 0 < z.length := by
    rw [tl_len]
    cases e : tl z with
    | nil => rw [e] at h; cases h
    | cons a l => simp
  rw [ix_s1 hl h3, List.getD_eq_getElem?_getD, ← List.getLast?_eq_getElem?, h]; rfl
theorem ix_l {n : Nat} {xs : List LV} {u : LV} (hn : S[n]? = some (.lst xs)) (h : 0 ≤ j) (hu : xs[j.toNat]? = some u) : ixL (.ref n) (.int j) S = .ok u S := by
  simp only [ixL, ixO, hn, atI_nn h, hu]
theorem ix_t {xs : List LV} {u : LV} (h : 0 ≤ j) (hu : xs[j.toNat]? = some u) : ixL (.tup xs) (.int j) S = .ok u S := by
  simp only [ixL, ixO, atI_nn h, hu]
/-- lists of texts compared with the empty list -/
theorem seqO_strs (S : Sto) (f : Nat) : ∀ zs : List Str, seqO ((zs.map LV.str).map (dat S f)) = some (zs.map PyData.str)
  | [] => rfl
  | z :: zs => by
    rw [List.map_cons, List.map_cons, show dat S f (.str z) = some (.str z) by cases f <;> rfl]
    unfold seqO
    rw [seqO_strs S f zs]
    rfl
theorem strs_lay : ∀ zs : List Str, (∀ z ∈ zs, PyData.strOk z = true) → PyData.canLayAll0 (zs.map PyData.str) = true ∧ PyData.depthAll (zs.map PyData.str) = 0
  | [], _ => ⟨rfl, rfl⟩
  | z :: zs, h => by
    have ih := strs_lay zs fun y hy => h y (List.mem_cons_of_mem _ hy)
    rw [List.map_cons]
    unfold PyData.canLayAll0 PyData.depthAll PyData.canLay0 PyData.depth
    rw [h z (List.mem_cons_self ..), ih.1, ih.2]
    exact ⟨rfl, rfl⟩
theorem eqv_strs_nil {n k : Nat} {zs : List Str} (hn : S[n]? = some (.lst (zs.map .str))) (hk : S[k]? = some (.lst [])) (h : ∀ z ∈ zs, PyData.strOk z = true) : eqV2 (.ref n) (.ref k) S = some zs.isEmpty := by
  have l := strs_lay zs h
  have d1 : dat S 60 (.ref n) = some (.list (zs.map .str)) := by
    show (match S[n]? with | some (.lst xs) => _ | _ => none) = _
    rw [hn]
    simp only
    rw [seqO_strs]
  have d2 : dat S 60 (.ref k) = some (.list []) := by
    show (match S[k]? with | some (.lst xs) => _ | _ => none) = _
    rw [hk]
    rfl
  unfold eqV2
  rw [show eqS (.ref n) (.ref k) = none from rfl]
  simp only
  rw [d1, d2]
  simp only
  have s1 : SeqAt.shaped (.list (zs.map .str)) = true := by
    unfold SeqAt.shaped PyData.canLay0 PyData.depth
    rw [l.1, l.2]
    rfl
  rw [s1, show SeqAt.shaped (.list []) = true from rfl]
  cases zs <;> rfl
theorem eq_strs_nil {n k : Nat} {zs : List Str} (hn : S[n]? = some (.lst (zs.map .str))) (hk : S[k]? = some (.lst [])) (h : ∀ z ∈ zs, PyData.strOk z = true) : eqL (.ref n) (.ref k) S = .ok (.bl zs.isEmpty) S := by
  unfold eqL; rw [eqv_strs_nil hn hk h]
theorem ne_strs_nil {n k : Nat} {zs : List Str} (hn : S[n]? = some (.lst (zs.map .str))) (hk : S[k]? = some (.lst [])) (h : ∀ z ∈ zs, PyData.strOk z = true) : neL (.ref n) (.ref k) S = .ok (.bl !zs.isEmpty) S := by
  unfold neL; rw [eqv_strs_nil hn hk h]
end
end LL


set_option Elab.async false
set_option linter.all false
set_option maxRecDepth 100000
set_option maxHeartbeats 2000000
/-! The logical layer: own exception classes: raise, except, isinstance of what was caught. -/
namespace LL
open PySem PySem.Spec PyProof.Rows L2

/-- what is known of an own class under ValueError -/
structure ExF (K : PySem.W.Frag) (mg : Str → Option Value) (x : Str) (C : Addr) : Prop where
  g : mg x = some (.ref C)
  q : PySem.W.excIn K C [.type "ValueError", .type "Exception", .type "BaseException", .type "object"] "ValueError.__new__" = true
  k : PySem.W.keepIn K (.ref C) = true
  s : PySem.W.subIn K (.ref C) (.type "BaseException") = some true
  t : PySem.W.typeIn K (.ref C) = some (.type "type")
  c : ExcC K C
  v : PySem.W.subIn K (.ref C) (.type "ValueError") = some true
  r : PySem.W.subIn K (.ref C) (.ref C) = some true
theorem ExF.cls {K : PySem.W.Frag} {mg : Str → Option Value} {x : Str} {C : Addr} (F : ExF K mg x C) : (PySem.W.clsIn K C).isSome = true := by
  obtain ⟨cd, hc, _⟩ := PySem.W.any_some F.c.hd
  rw [hc]; rfl
theorem ExF.kit {K : PySem.W.Frag} {mg : Str → Option Value} {x : Str} {C D : Addr} {b : Bool} (F : ExF K mg x C) (h : PySem.W.subIn K (.ref D) (.ref C) = some b) : PySem.W.kitOne K (.ref D) (.ref C) = some b := by
  unfold PySem.W.kitOne PySem.W.kitCls
  have e2 : ((PySem.W.clsIn K C).isSome && PySem.W.typeIn K (.ref C) == some (.type "type")) = true := by rw [F.cls, F.t]; rfl
  split
  · rename_i e
    have : D = C := Value.ref.inj (beq_iff_eq.mp e)
    cases b with
    | true => rfl
    | false => subst this; rw [F.r] at h; cases h
  · show (if ((PySem.W.clsIn K C).isSome && PySem.W.typeIn K (.ref C) == some (.type "type")) = true then PySem.W.subIn K (.ref D) (.ref C) else none) = some b
    rw [if_pos e2]; exact h
theorem ExF.exm {K : PySem.W.Frag} {mg : Str → Option Value} {x : Str} {C D : Addr} {b : Bool} (F : ExF K mg x C) (h : PySem.W.subIn K (.ref D) (.ref C) = some b) : PySem.W.exmOne K (.ref D) (.ref C) = some b :=
  PySem.W.exm_ref F.s F.c.hd F.t h
theorem ExF.kitV {K : PySem.W.Frag} {mg : Str → Option Value} {x : Str} {C : Addr} (F : ExF K mg x C) : PySem.W.kitOne K (.ref C) (.type "ValueError") = some true := by
  unfold PySem.W.kitOne PySem.W.kitCls
  rw [if_neg (by simp)]
  show (if PySem.W.kitMeta "ValueError" = true then PySem.W.subIn K (.ref C) (.type "ValueError") else none) = some true
  rw [if_pos (by decide)]
  exact F.v
/-- raise C('m'), c the code of C -/
def lRaise (c : Nat) : LS := fun ds S => .ex c [] ds S
/-- an exception that the suite holds -/
def ξE (T : Env1) (a : Addr) (cls : Value) (d : Option Addr) : Xi := fun b c fs => b = a ∧ cls = .ref (T.ca c) ∧ fs = [] ∧ d = none
def noX (ds : Sl) : Bool := ds.all fun x => match x with
  | some v => !isX v
  | none => true
def aft (ds : Sl) (S : Sto) (k : Sl → Sto → RS) : RS := if noX ds = true then k ds S else .no
def aftI (i : Nat) : RS → RS
  | .nx ds S => aft (ds.set i none) S .nx
  | .bk ds S => aft (ds.set i none) S .bk
  | .ct ds S => aft (ds.set i none) S .ct
  | .rt v S => .rt v S
  | .ex _ _ _ _ => .no
  | .no => .no
def aft0 : RS → RS
  | .nx ds S => aft ds S .nx
  | .bk ds S => aft ds S .bk
  | .ct ds S => aft ds S .ct
  | .rt v S => .rt v S
  | .ex _ _ _ _ => .no
  | .no => .no
/-- try: a except C as n: b -/
def tryK (i : Nat) (hit : Nat → Option Bool) (b : LS) : RS → RS
  | .ex c [] ds S => match hit c with
    | some true => aftI i (b (ds.set i (some (.exc c []))) S)
    | some false => .ex c [] ds S
    | none => .no
  | .ex _ (_ :: _) _ _ => .no
  | r => r
def lTryAs (i : Nat) (hit : Nat → Option Bool) (a b : LS) : LS := fun ds S => tryK i hit b (a ds S)
def try0 (hit : Nat → Option Bool) (b : LS) : RS → RS
  | .ex c [] ds S => match hit c with
    | some true => aft0 (b ds S)
    | some false => .ex c [] ds S
    | none => .no
  | .ex _ (_ :: _) _ _ => .no
  | r => r
def lTry (hit : Nat → Option Bool) (a b : LS) : LS := fun ds S => try0 hit b (a ds S)
/-- what a table of codes tells -/
def hitA : List (Nat × Bool) → Nat → Option Bool
  | [], _ => none
  | (c, b) :: l, d => if c = d then some b else hitA l d
def AllP (P : Nat → Bool → Prop) : List (Nat × Bool) → Prop
  | [] => True
  | (c, b) :: l => P c b ∧ AllP P l
theorem hit_all {P : Nat → Bool → Prop} : ∀ {l : List (Nat × Bool)}, AllP P l → ∀ c b, hitA l c = some b → P c b
  | [], _, c, b, h => by cases h
  | (d, e) :: l, a, c, b, h => by
    unfold hitA at h
    split at h
    · rename_i q
      subst q
      cases h
      exact a.1
    · exact hit_all a.2 c b h
/-- isinstance(e, C) -/
def lIsE (i : Nat) (f : Nat → Option Bool) : LE := fun ds S => match ds[i]? with
  | some (some (.exc c _)) => match f c with
    | some b => .ok (.bl b) S
    | none => .no
  | _ => .no
section
variable {X : Cx} {T : Env1} {W : WX} {x n : Str} {i : Nat} {c : Value} {C : Addr} {fb fsu : LS} {hit : Nat → Option Bool} {body suite : List Stmt} {b₀ : Stmt} {np pos pos' pos2 : Pos}
theorem sl_raise {m : Str} {j k : Nat} {p p2 : Pos} (hc : X.calm = true) (tk : Takes X W) (F : ExF X.K X.mg x C) (hC : T.ca k = C) (hg : Gl X x) (hdb : (x == ("__debug__" : Str)) = false := by decide) :
    PS X (.Raise (some (.Call (.Name x p) [.Constant (.str m) j p2] [] pos)) none pos2) (tLS X.K T ξ0 W (lRaise k)) :=
  ps_imp (ps_raise hc tk (pmk_own PySem.F.excBase_ValueError F.q F.g F.k (raises_own F.s F.t) hg hdb)) fun D σ H ⟨m, S, ds, r, rs, h⟩ => by
    have := h m H σ (.ref C) none Ext.refl r rs ⟨by rw [hC], .inl ⟨rfl, rfl⟩⟩
    exact this
theorem RSl.of0 {K : PySem.W.Frag} {ξ : Xi} {m : List Addr} {H : Hp} {ds : Sl} {σ : L2.St} (h : RSl K ξ0 m H ds σ) : RSl K ξ m H ds σ := ⟨h.len, fun i v e => by
  obtain ⟨x, h1, h2⟩ := h.at_ i v e
  refine ⟨x, h1, ?_⟩
  cases v with
  | exc c fs =>
    obtain ⟨a, _, h3⟩ := h2
    exact h3.elim
  | _ => exact h2⟩
theorem RSl.un0 {K : PySem.W.Frag} {ξ : Xi} {m : List Addr} {H : Hp} {ds : Sl} {σ : L2.St} (h : RSl K ξ m H ds σ) (n : noX ds = true) : RSl K ξ0 m H ds σ := ⟨h.len, fun i v e => by
  obtain ⟨x, h1, h2⟩ := h.at_ i v e
  refine ⟨x, h1, ?_⟩
  have := List.all_eq_true.mp n _ (List.mem_of_getElem? e)
  exact RVx.of (h2.un (by simpa using this))⟩
theorem RSl.clr {K : PySem.W.Frag} {ξ : Xi} {m : List Addr} {H : Hp} {ds : Sl} {σ : L2.St} (h : RSl K ξ m H ds σ) (i : Nat) : RSl K ξ m H (ds.set i none) (σ.set i none) := ⟨by simp [h.len], fun j w e => by
  by_cases hj : j = i
  · subst hj
    by_cases hl : j < ds.length
    · rw [List.getElem?_set_self hl] at e; cases e
    · rw [List.getElem?_eq_none (by simpa using hl)] at e; cases e
  · rw [List.getElem?_set_ne (Ne.symm hj)] at e ⊢
    exact h.at_ j w e⟩
theorem aft_in {ds : Sl} {S : Sto} {k : Sl → Sto → RS} {K : PySem.W.Frag} {m : List Addr} {H : Hp} {D : Ends} {W : WX} (h : PoS K T ξ0 m H (aft ds S k) D W) : noX ds = true ∧ PoS K T ξ0 m H (k ds S) D W := by
  unfold aft at h
  split at h
  · rename_i e
    exact ⟨e, h⟩
  · exact h.elim
theorem sl_try_as (hN : X.N.Nodup) (hc : Names X x (.ref C)) (tk : Takes X W)
    (hh : ∀ c b, hit c = some b → PySem.W.exmOne X.K (.ref (T.ca c)) (.ref C) = some b)
    (hb : ∀ (W : WX) (pn : List (Addr × Obj)) (xe : Value → Shared → Prop), Takes (X.tr pn xe) W → PassesOwn (model X.prog X.w) X.A X.env xe → PSs (X.tr pn xe) body (tLS X.K T ξ0 W fb))
    (hsu : ∀ (a : Addr) (oe : Obj) (cls : Value) (d : Option Addr) (pn : List (Addr × Obj)), Zc cls d oe → (∃ vs, oe.data = .fields vs) → PSs (X.suite a ((a, oe) :: pn)) (b₀ :: suite) (tLS X.K T (ξE T a cls d) (fun _ _ _ _ => False) fsu))
    (hi : X.N[i]? = some n := by rfl) (hln : X.env.kindOf n = some .local := by rfl) (hs : X.stack = X.env :: X.outer := by rfl) (hf : X.env.frame = some X.env.locals := by rfl) :
    PS X (.Try body [.ExceptHandler (some (.Name x np)) (some n) (b₀ :: suite) pos'] [] [] pos) (tLS X.K T ξ0 W (lTryAs i hit fb fsu)) :=
  ps_imp (ps_try_as (tb := fun W => tLS X.K T ξ0 W fb) (ts := fun a cls d => tLS X.K T (ξE T a cls d) (fun _ _ _ _ => False) fsu) (Wout := W) hs hf hN hi hln hc tk hb hsu) fun D σ H ⟨m, S, ds, r, rs, h⟩ => by
    refine ⟨m, S, ds, r, rs, ?_⟩
    unfold lTryAs at h
    cases q : fb ds S with
    | nx ds1 S1 => rw [q] at h; exact h
    | rt ds1 S1 => rw [q] at h; exact h
    | bk ds1 S1 => rw [q] at h; exact h
    | ct ds1 S1 => rw [q] at h; exact h
    | no => rw [q] at h; exact h.elim
    | ex c fs ds1 S1 =>
      rw [q] at h
      cases fs with
      | cons f fs => exact h.elim
      | nil =>
        unfold tryK at h
        simp only at h
        split at h
        · rename_i e
          intro m1 H1 σ1 cls d E r1 rs1 rx
          obtain ⟨ec, ed⟩ := rx
          have ed' : d = none := by
            rcases ed with ⟨_, e⟩ | ⟨v, x, dd, e, _⟩
            · exact e
            · cases e
          subst ec ed'
          refine ⟨true, hh _ _ e, fun _ a _ => ?_, fun z => nomatch z⟩
          refine ⟨m1, S1, _, r1, (RSl.of0 rs1).set i (v := .exc c []) ⟨a, rfl, rfl, rfl, rfl, rfl⟩, ?_⟩
          replace h := PoS.mono E h
          cases q2 : fsu (ds1.set i (some (.exc c []))) S1 with
          | nx ds2 S2 =>
            rw [q2] at h
            obtain ⟨e2, h⟩ := aft_in h
            exact fun m2 H2 σ2 E2 r2 rs2 => h m2 H2 _ E2 r2 ((rs2.clr i).un0 e2)
          | bk ds2 S2 =>
            rw [q2] at h
            obtain ⟨e2, h⟩ := aft_in h
            exact fun m2 H2 σ2 E2 r2 rs2 => h m2 H2 _ E2 r2 ((rs2.clr i).un0 e2)
          | ct ds2 S2 =>
            rw [q2] at h
            obtain ⟨e2, h⟩ := aft_in h
            exact fun m2 H2 σ2 E2 r2 rs2 => h m2 H2 _ E2 r2 ((rs2.clr i).un0 e2)
          | rt v S2 => rw [q2] at h; exact h
          | ex => rw [q2] at h; exact h.elim
          | no => rw [q2] at h; exact h.elim
        · rename_i e
          intro m1 H1 σ1 cls d E r1 rs1 rx
          obtain ⟨ec, ed⟩ := rx
          subst ec
          exact ⟨false, hh _ _ e, fun z => absurd z (by decide), fun _ => h m1 H1 σ1 _ d E r1 rs1 ⟨rfl, ed⟩⟩
        · exact h.elim
theorem sl_try (hc : Names X x (.ref C)) (tk : Takes X W)
    (hh : ∀ c b, hit c = some b → PySem.W.exmOne X.K (.ref (T.ca c)) (.ref C) = some b)
    (hb : ∀ (W : WX) (pn : List (Addr × Obj)) (xe : Value → Shared → Prop), Takes (X.tr pn xe) W → PassesOwn (model X.prog X.w) X.A X.env xe → PSs (X.tr pn xe) body (tLS X.K T ξ0 W fb))
    (hsu : ∀ (a : Addr) (oe : Obj) (cls : Value) (d : Option Addr) (pn : List (Addr × Obj)), Zc cls d oe → (∃ vs, oe.data = .fields vs) → PSs (X.suite a ((a, oe) :: pn)) (b₀ :: suite) (tLS X.K T ξ0 (fun _ _ _ _ => False) fsu))
    (hs : X.stack = X.env :: X.outer := by rfl) (hf : X.env.frame = some X.env.locals := by rfl) :
    PS X (.Try body [.ExceptHandler (some (.Name x np)) none (b₀ :: suite) pos'] [] [] pos) (tLS X.K T ξ0 W (lTry hit fb fsu)) :=
  ps_imp (ps_try_only (tb := fun W => tLS X.K T ξ0 W fb) (ts := fun a cls d => tLS X.K T ξ0 (fun _ _ _ _ => False) fsu) (Wout := W) hs hf hc tk hb hsu) fun D σ H ⟨m, S, ds, r, rs, h⟩ => by
    refine ⟨m, S, ds, r, rs, ?_⟩
    unfold lTry at h
    cases q : fb ds S with
    | nx ds1 S1 => rw [q] at h; exact h
    | rt ds1 S1 => rw [q] at h; exact h
    | bk ds1 S1 => rw [q] at h; exact h
    | ct ds1 S1 => rw [q] at h; exact h
    | no => rw [q] at h; exact h.elim
    | ex c fs ds1 S1 =>
      rw [q] at h
      cases fs with
      | cons f fs => exact h.elim
      | nil =>
        unfold try0 at h
        simp only at h
        split at h
        · rename_i e
          intro m1 H1 σ1 cls d E r1 rs1 rx
          obtain ⟨ec, ed⟩ := rx
          subst ec
          refine ⟨true, hh _ _ e, fun _ a _ => ?_, fun z => nomatch z⟩
          refine ⟨m1, S1, _, r1, rs1, ?_⟩
          replace h := PoS.mono E h
          cases q2 : fsu ds1 S1 with
          | nx ds2 S2 =>
            rw [q2] at h
            obtain ⟨e2, h⟩ := aft_in h
            exact h
          | bk ds2 S2 =>
            rw [q2] at h
            obtain ⟨e2, h⟩ := aft_in h
            exact h
          | ct ds2 S2 =>
            rw [q2] at h
            obtain ⟨e2, h⟩ := aft_in h
            exact h
          | rt v S2 => rw [q2] at h; exact h
          | ex => rw [q2] at h; exact h.elim
          | no => rw [q2] at h; exact h.elim
        · rename_i e
          intro m1 H1 σ1 cls d E r1 rs1 rx
          obtain ⟨ec, ed⟩ := rx
          subst ec
          exact ⟨false, hh _ _ e, fun z => absurd z (by decide), fun _ => h m1 H1 σ1 _ d E r1 rs1 ⟨rfl, ed⟩⟩
        · exact h.elim
theorem pl_isE {a : Addr} {oe : Obj} {cls : Value} {d : Option Addr} {pn : List (Addr × Obj)} {f : Nat → Option Bool} {y : Str} {cv : Value} {eC : Expr} {cx : V} {p pe : Pos} {W0 : WX} (hX : Takes X W0) (hz : Zc cls d oe) (hv : ∃ vs, oe.data = .fields vs)
    (hC : PE (X.suite a ((a, oe) :: pn)) eC (tC cx)) (hu : ∀ u, RelV cx u → u = cv)
    (hf : ∀ c b, f c = some b → ExcC X.K (T.ca c) ∧ PySem.W.kitOne X.K (.ref (T.ca c)) cv = some b)
    (hg : Gl X "isinstance") (hm : X.mg "isinstance" = none) (hN : X.N[i]? = some y := by rfl) (hvv : Vis X.env.scope y := by first | exact Or.inl rfl | exact Or.inr (Or.inl rfl) | exact Or.inr (Or.inr rfl)) (hd : (y == ("__debug__" : Str)) = false := by decide)
    (hcd : (y == ("__classdict__" : Str)) = false := by decide)
    (he : starEach (.Name y pe :: [eC]) X.env = (false, eval (.Name y pe) X.env) :: starEach [eC] X.env := by rfl) (hpl : (backTo pos (starEach [eC] X.env)).any (·.1) = false := by rfl) (hst : starEach (eC :: []) X.env = (false, eval eC X.env) :: starEach [] X.env := by rfl) :
    PE (X.suite a ((a, oe) :: pn)) (.Call (.Name "isinstance" p) [.Name y pe, eC] [] pos) (tL X.K T (ξE T a cls d) W (lIsE i f)) := by
  refine ⟨fun pins s σ H Q I h => ?_⟩
  obtain ⟨m, S, ds, r, rs, h⟩ := h
  unfold lIsE at h
  split at h
  · rename_i c fs hi
    split at h
    · rename_i b hb
      obtain ⟨xx, h1, h2⟩ := rs.at_ i _ hi
      obtain ⟨a', rfl, ea, ec, ef, ed⟩ := h2
      subst ea ec ed
      obtain ⟨C0, k0⟩ := hf c b hb
      refine (pe_callB (X := X.suite a' ((a', oe) :: pn)) (call_isE (X := X) (a := a') (D := T.ca c) (oe := oe) (pn := pn) C0 hz hv) hg hm (by decide +kernel) (pa_cons (pe_var (i := i) hN hvv hd hcd) (pa_cons hC pa_nil hst) he) (by decide) (by decide) he hpl).run pins s σ H Q I ?_
      exact ⟨_, h1, cx, cv, b, rfl, hu, k0, h.here r rfl⟩
    · exact h.elim
  · exact h.elim
/-- an own class by its name; a built-in one -/
theorem pe_exc (F : ExF X.K X.mg x C) (hg : Gl X x) (hd : (x == ("__debug__" : Str)) = false := by decide) : PE X (.Name x pos) (tC (.ref C)) := pe_glob hg F.g rfl hd
theorem pe_exV (hg : Gl X "ValueError") (hm : X.mg "ValueError" = none) : PE X (.Name "ValueError" pos) (tC (.ty "ValueError")) := pe_bltn (v := .ty "ValueError") hg hm (by decide +kernel) rfl (by decide) (by decide)
end
/-! ### reckoning -/
section
variable {i c : Nat} {hit : Nat → Option Bool} {a b : LS} {ds : Sl} {S : Sto} {v : LV} {fs : List LV}
theorem e_raise : lRaise c ds S = .ex c [] ds S := (rfl)
theorem e_tryAs : lTryAs i hit a b ds S = tryK i hit b (a ds S) := (rfl)
theorem e_try : lTry hit a b ds S = try0 hit b (a ds S) := (rfl)
@[simp] theorem tryK_nx : tryK i hit b (.nx ds S) = .nx ds S := (rfl)
@[simp] theorem tryK_rt : tryK i hit b (.rt v S) = .rt v S := (rfl)
@[simp] theorem tryK_bk : tryK i hit b (.bk ds S) = .bk ds S := (rfl)
@[simp] theorem tryK_ct : tryK i hit b (.ct ds S) = .ct ds S := (rfl)
theorem tryK_t (h : hit c = some true) : tryK i hit b (.ex c [] ds S) = aftI i (b (ds.set i (some (.exc c []))) S) := by unfold tryK; simp only [h]
theorem tryK_f (h : hit c = some false) : tryK i hit b (.ex c [] ds S) = .ex c [] ds S := by unfold tryK; simp only [h]
@[simp] theorem try0_nx : try0 hit b (.nx ds S) = .nx ds S := (rfl)
@[simp] theorem try0_rt : try0 hit b (.rt v S) = .rt v S := (rfl)
@[simp] theorem try0_bk : try0 hit b (.bk ds S) = .bk ds S := (rfl)
@[simp] theorem try0_ct : try0 hit b (.ct ds S) = .ct ds S := (rfl)
theorem try0_t (h : hit c = some true) : try0 hit b (.ex c [] ds S) = aft0 (b ds S) := by unfold try0; simp only [h]
theorem try0_f (h : hit c = some false) : try0 hit b (.ex c [] ds S) = .ex c [] ds S := by unfold try0; simp only [h]
@[simp] theorem aftI_rt : aftI i (.rt v S) = .rt v S := (rfl)
@[simp] theorem aft0_rt : aft0 (.rt v S) = .rt v S := (rfl)
@[simp] theorem aftI_nx : aftI i (.nx ds S) = aft (ds.set i none) S .nx := (rfl)
@[simp] theorem aft0_nx : aft0 (.nx ds S) = aft ds S .nx := (rfl)
@[simp] theorem aftI_ct : aftI i (.ct ds S) = aft (ds.set i none) S .ct := (rfl)
@[simp] theorem aft0_ct : aft0 (.ct ds S) = aft ds S .ct := (rfl)
theorem aft_ok {k : Sl → Sto → RS} (h : noX ds = true) : aft ds S k = k ds S := by unfold aft; rw [if_pos h]
@[simp] theorem noX_nil : noX [] = true := (rfl)
@[simp] theorem noX_none : noX (none :: ds) = noX ds := by simp [noX]
@[simp] theorem noX_some : noX (some v :: ds) = (!isX v && noX ds) := by simp [noX]
@[simp] theorem isE_S {f : Nat → Option Bool} {x : Option LV} : lIsE (i + 1) f (x :: ds) S = lIsE i f ds S := by simp [lIsE]
theorem isE_0 {f : Nat → Option Bool} {k : Bool} (h : f c = some k) : lIsE 0 f (some (.exc c fs) :: ds) S = .ok (.bl k) S := by simp [lIsE, h]
end
end LL


set_option Elab.async false
set_option linter.all false
set_option maxRecDepth 100000
set_option maxHeartbeats 2000000
/-! The logical layer: o[i] = v. -/
namespace LL
open PySem PySem.Spec PyProof.Rows L2

/-- a dict of values with a key written -/
def putL {κ : Type} [DecidableEq κ] (kvs : List (κ × LV)) (k : κ) (v : LV) : List (κ × LV) :=
  if (kvs.any fun kv => decide (kv.1 = k)) = true then kvs.map (fun kv => if kv.1 = k then (kv.1, v) else kv) else kvs ++ [(k, v)]
def putO (o i v : LV) (S : Sto) : Option Sto := match o with
  | .ref n => match S[n]? with
    | some (.lst xs) => match i with
      | .int k => match ixN xs.length k with
        | some j => some (S.set n (.lst (xs.set j v)))
        | none => none
      | _ => none
    | some (.dct kvs) => match keyL i with
      | some k => if small (kvs.length + 1) = true then some (S.set n (.dct (putL kvs k v))) else none
      | none => none
    | some (.dcT kvs) => match i with
      | .tup xs => match keysL xs with
        | some k => if small (kvs.length + 1) = true then some (S.set n (.dcT (putL kvs k v))) else none
        | none => none
      | _ => none
    | _ => none
  | _ => none
def lSub (fv fo fi : LE) : LS := fun ds S => bindS (fv ds S) ds fun v S1 => bindS (fo ds S1) ds fun o S2 => bindS (fi ds S2) ds fun i S3 => match putO o i v S3 with
  | some S4 => .nx ds S4
  | none => .no
section
variable {K : PySem.W.Frag} {T : Env1} {m : List Addr} {H : Hp} {S : Sto}
theorem RVs.setAt {v : LV} {x : V} (rv : RV K m H v x) : ∀ {vs : List LV} {xs : List V} (j : Nat), RVs K m H vs xs → RVs K m H (vs.set j v) (xs.set j x)
  | [], xs, j, h => by rw [h.nilE]; exact RVs.nil
  | u :: vs, xs, j, h => by
    unfold RVs at h
    obtain ⟨y, r, rfl, h1, h2⟩ := h
    cases j with
    | zero => exact RVs.cons rv h2
    | succ j => exact RVs.cons h1 (RVs.setAt rv j h2)
theorem put_rel {κ : Type} [DecidableEq κ] {v : LV} {x : V} (k : κ) (rv : RV K m H v x) : ∀ {kvs : List (κ × LV)} {ws : List (κ × V)}, ws.map (·.1) = kvs.map (·.1) → RVs K m H (kvs.map (·.2)) (ws.map (·.2)) →
    (putK ws k x).map (·.1) = (putL kvs k v).map (·.1) ∧ RVs K m H ((putL kvs k v).map (·.2)) ((putK ws k x).map (·.2)) := by
  intro kvs ws e h
  have ea : (ws.any fun kv => decide (kv.1 = k)) = (kvs.any fun kv => decide (kv.1 = k)) := by
    have := congrArg (fun l : List κ => l.any fun z => decide (z = k)) e
    simpa [List.any_map, Function.comp_def] using this
  unfold putK putL
  rw [ea]
  split
  · rename_i ca
    clear ca ea
    induction kvs generalizing ws with
    | nil =>
      have : ws = [] := by simpa using e
      subst this
      exact ⟨rfl, RVs.nil⟩
    | cons p kvs ih =>
      cases ws with
      | nil => simp at e
      | cons q ws =>
        simp only [List.map_cons, List.cons.injEq] at e h ⊢
        unfold RVs at h
        obtain ⟨y, r, e2, h1, h2⟩ := h
        simp only [List.cons.injEq] at e2
        obtain ⟨rfl, rfl⟩ := e2
        have i := ih e.2 h2
        by_cases c : p.1 = k
        · have c2 : q.1 = k := e.1.trans c
          rw [if_pos c, if_pos c2]
          exact ⟨⟨e.1, i.1⟩, RVs.cons rv i.2⟩
        · have c2 : ¬ q.1 = k := fun z => c (e.1.symm.trans z)
          rw [if_neg c, if_neg c2]
          exact ⟨⟨e.1, i.1⟩, RVs.cons h1 i.2⟩
  · rw [List.map_append, List.map_append, List.map_append, List.map_append, e]
    exact ⟨rfl, h.append (RVs.cons rv RVs.nil)⟩
end
/-- .. by values, lists and dicts -/
def rSetU : TSet := fun o i v H Q => rSetL o i v H Q ∨ rSetD o i v H Q
theorem set_U {X : Cx} (hu : X.A.units + 1 < cLine) : PSet X rSetU := fun pins s σ H o i v ov iv u Q I ro ri rv h => h.elim (set_list pins s σ H o i v ov iv u Q I ro ri rv) (set_dict hu pins s σ H o i v ov iv u Q I ro ri rv)
section
variable {X : Cx} {T : Env1} {ξ : Xi} {W : WX} {k : Nat} {fv fo fi : LE} {e o i : Expr} {pos pos' : Pos}
theorem put_ok {m : List Addr} {S S4 : Sto} {H : Hp} {vo vi v : LV} {xo xi x : V} {Q : Hp → Prop} (r : RelS X.K T m S H) (ro : RV X.K m H vo xo) (ri : RV X.K m H vi xi) (rv : RV X.K m H v x) (e : putO vo vi v S = some S4)
    (h : ∀ H', Ext m H m H' → RelS X.K T m S4 H' → Q H') : rSetU xo xi x H Q := by
  unfold putO at e
  split at e
  · rename_i n
    split at e
    · rename_i xs hn
      split at e
      · rename_i k
        split at e
        · rename_i j hj
          cases e
          obtain ⟨a, zs, rfl, hm, ha, hs⟩ := ro.lst r hn
          refine .inl ⟨a, zs, k, j, rfl, ri, ha, by rw [← hs.len]; exact hj, ?_⟩
          have E : Ext m H m (upd H a (.lst (zs.set j x))) := Ext.write r (List.mem_of_getElem? hm)
          exact h _ E (r.write hm ⟨_, upd_same, (RVs.setAt rv j hs).mono E⟩)
        · cases e
      · cases e
    · rename_i kvs hn
      split at e
      · rename_i k hk
        split at e
        · rename_i hz
          cases e
          unfold RV at ro
          obtain ⟨a, rfl, hm⟩ := ro
          obtain ⟨ws, h1, h2, h3⟩ := r.ob n a _ hm hn
          have hl : ws.length = kvs.length := by have := congrArg List.length h2; simpa using this
          refine .inr ⟨a, upd H a (.dK (putK ws k x)), rfl, ?_, ?_⟩
          · rw [keyL_ok hk ri]
            have := small_ok hz
            exact DPut.k h1 (by omega)
          · have E : Ext m H m (upd H a (.dK (putK ws k x))) := Ext.write r (List.mem_of_getElem? hm)
            have p := put_rel k rv h2 h3
            exact h _ E (r.write hm ⟨_, upd_same, p.1, p.2.mono E⟩)
        · cases e
      · cases e
    · rename_i kvs hn
      split at e
      · rename_i xs
        split at e
        · rename_i k hk
          split at e
          · rename_i hz
            cases e
            unfold RV at ro
            obtain ⟨a, rfl, hm⟩ := ro
            obtain ⟨ws, h1, h2, h3⟩ := r.ob n a _ hm hn
            have hl : ws.length = kvs.length := by have := congrArg List.length h2; simpa using this
            obtain ⟨b, us, rfl, hb, hu⟩ := ri.tupE
            have eu := keysL_ok hk hu
            subst eu
            refine .inr ⟨a, upd H a (.dT (putK ws k x)), rfl, ?_, ?_⟩
            · have := small_ok hz
              exact DPut.t h1 hb (by omega)
            · have E : Ext m H m (upd H a (.dT (putK ws k x))) := Ext.write r (List.mem_of_getElem? hm)
              have p := put_rel k rv h2 h3
              exact h _ E (r.write hm ⟨_, upd_same, p.1, p.2.mono E⟩)
          · cases e
        · cases e
      · cases e
    · cases e
  · cases e
theorem sl_sub (hr : Room k X.A) (he : PE X e (tL X.K T ξ W fv)) (ho : PE X o (tL X.K T ξ W fo)) (hi : PE X i (tL X.K T ξ W fi))
    (ha : ∀ v, assign (.Subscript o i pos') X.env v = (do
      let ov ← holding [v] (eval o X.env)
      let iv ← holding [v, ov] (eval i X.env)
      standAt pos'
      holding [v, ov, iv] (setItem ov iv v)
      release [v, ov, iv] []) := by intro _; rfl)
    (hs : swapsWithSole [.Subscript o i pos'] e pos.line X.env = pure false := by rfl) (hw : swappedStores [.Subscript o i pos'] e X.env = pure none := by rfl)
    (h1 : (assignEach [.Subscript o i pos'] X.env).map (·.2) = [assign (.Subscript o i pos') X.env] := by rfl) : PS X (.Assign [.Subscript o i pos'] e pos) (tLS X.K T ξ W (lSub fv fo fi)) :=
  ps_imp (ps_asg he (pg_sub ho hi (set_U (hu_of hr)) ha) hs hw h1) fun D σ H ⟨m, S, ds, r, rs, h⟩ =>
    tL.bindS r rs h fun v S1 m1 H1 x E r1 rs1 rv h1 => tL.bindS r1 rs1 h1 fun vo S2 m2 H2 xo E2 r2 rs2 ro h2 => tL.bindS r2 rs2 h2 fun vi S3 m3 H3 xi E3 r3 rs3 ri h3 => by
      split at h3
      · rename_i S4 e4
        exact put_ok r3 (ro.mono E3) ri ((rv.mono E2).mono E3) e4 fun H' E' r' => h3 _ _ _ E' r' (rs3.mono E')
      · exact h3.elim
end
/-! ### reckoning -/
def sub3 (v o : LV) (ds : Sl) : R → RS
  | .ok i S => match putO o i v S with
    | some S4 => .nx ds S4
    | none => .no
  | .ex c fs S => .ex c fs ds S
  | .no => .no
def sub2 (v : LV) (fi : LE) (ds : Sl) : R → RS
  | .ok o S => sub3 v o ds (fi ds S)
  | .ex c fs S => .ex c fs ds S
  | .no => .no
def sub1 (fo fi : LE) (ds : Sl) : R → RS
  | .ok v S => sub2 v fi ds (fo ds S)
  | .ex c fs S => .ex c fs ds S
  | .no => .no
section
variable {v o i : LV} {fv fo fi : LE} {ds : Sl} {S S4 : Sto} {n : Nat} {xs : List LV} {k : Int}
theorem e_sub : lSub fv fo fi ds S = sub1 fo fi ds (fv ds S) := by
  unfold lSub
  cases fv ds S with
  | ok v S1 =>
    show bindS (fo ds S1) ds _ = sub2 v fi ds (fo ds S1)
    cases fo ds S1 with
    | ok o S2 =>
      show bindS (fi ds S2) ds _ = sub3 v o ds (fi ds S2)
      cases fi ds S2 <;> rfl
    | _ => rfl
  | _ => rfl
@[simp] theorem sub1_ok : sub1 fo fi ds (.ok v S) = sub2 v fi ds (fo ds S) := (rfl)
@[simp] theorem sub2_ok : sub2 v fi ds (.ok o S) = sub3 v o ds (fi ds S) := (rfl)
theorem sub3_ok (h : putO o i v S = some S4) : sub3 v o ds (.ok i S) = .nx ds S4 := by unfold sub3; simp only [h]
theorem put_l (hn : S[n]? = some (.lst xs)) (h : 0 ≤ k) (h2 : k < xs.length) : putO (.ref n) (.int k) v S = some (S.set n (.lst (xs.set k.toNat v))) := by
  simp only [putO, hn, ixN, h, h2, if_true]
end
end LL


set_option Elab.async false
set_option linter.all false
set_option maxRecDepth 100000
set_option maxHeartbeats 2000000
/-! The logical layer: texts that may be handled, joins, numbers in texts, loops as folds. -/
namespace LL
open PySem PySem.Spec PyProof.Rows L2

/-- a text that may be handled -/
structure Fine (n : Nat) (z : Str) : Prop where
  len : z.length ≤ n
  sg : ∀ c ∈ tl z, c < 128
theorem Fine.mono {n m : Nat} {z : Str} (h : Fine n z) (k : n ≤ m) : Fine m z := ⟨Nat.le_trans h.len k, h.sg⟩
theorem Fine.app {n m : Nat} {y z : Str} (h : Fine n y) (k : Fine m z) : Fine (n + m) (y ++ z) := ⟨by rw [app_len]; have := h.len; have := k.len; omega, fun c hc => by
  rw [tl_app, List.mem_append] at hc
  rcases hc with hc | hc
  · exact h.sg c hc
  · exact k.sg c hc⟩
theorem Fine.cut {n : Nat} {z : Str} (h : Fine n z) (lo hi : Option Int) : Fine n (cutS z lo hi) := ⟨Nat.le_trans (cut_len z lo hi) h.len, fun c hc => by
  rw [tl_cut] at hc
  exact h.sg c (List.mem_of_mem_drop (List.mem_of_mem_take hc))⟩
theorem Fine.one {c : Nat} (h : c < 128) : Fine 1 (one c) := ⟨Nat.le_refl _, fun d hd => by
  have : d = c := by simpa using hd
  omega⟩
theorem Fine.ok {n : Nat} {z : Str} (h : Fine n z) : PyData.strOk z = true := by
  unfold PyData.strOk
  rw [← Array.all_toList, List.all_eq_true]
  intro c hc
  have := h.sg c hc
  simp
  omega
/-- a comprehension of those signs of a text that a test lets by -/
theorem lc_signs (i : Nat) (ft : LE) (ds : Sl) (z : Str) (S : Sto) (p : Nat → Bool) (hz : z.length ≤ 16777216) (hi : i < ds.length) (h : ∀ c ∈ tl z, ft (ds.set i (some (.str (one c)))) S = .ok (.bl (p c)) S) :
    lcL (gNm i) ft (lVar i) ds (LL.signs z) [] S = .ok (.ref S.length) (S ++ [.lst (((tl z).filter p).map fun c => .str (one c))]) := by
  rw [lcL_pure (fun v => match v with | .str y => p ((tl y).getD 0 0) | _ => false) id (LL.signs z) [] ?_ ?_, List.nil_append, List.map_id, signs_tl, List.filter_map]
  · congr 1
  · intro v hv
    rw [signs_tl] at hv
    obtain ⟨c, hc, rfl⟩ := List.mem_map.mp hv
    refine ⟨_, rfl, h c hc, fun _ => ?_⟩
    show (match (ds.set i (some (.str (one c))))[i]? with | some (some v) => if isX v = true then R.no else .ok v S | _ => .no) = _
    rw [List.getElem?_set_self hi]
    rfl
  · rw [signs_tl, List.length_map, len_tl]
    unfold small
    simpa using hz
theorem take1 (a : List Nat) (c : Nat) : (a.take 1 == [c]) = (a.head? == some c) := by
  cases a <;> simp
theorem dropl (a : List Nat) (c : Nat) : (a.drop (a.length - 1) == [c]) = (a.getLast? == some c) := by
  rcases List.eq_nil_or_concat a with rfl | ⟨b, d, rfl⟩
  · simp
  · simp
theorem tl_sp : tl (" " : Str) = [32] := rfl
abbrev digT : Str := ("0123456789" : Str)
/-- a number without its sign -/
def absN (a : List Nat) : List Nat := if (a.take 1 == [45]) = true then a.drop 1 else a
/-- the number that a text writes -/
def numN (a : List Nat) : Option Int :=
  if (30 : Int) < a.length then none
  else if (absN a == []) = true then none
  else if (absN a).all (fun c => decide (c ∈ tl digT)) = false then none
  else if ((absN a).head? == some 48 && !(a == [48])) = true then none
  else some (if (a.take 1 == [45]) = true then -((NumText.digitsVal (absN a) : Nat) : Int) else ((NumText.digitsVal (absN a) : Nat) : Int))
def optV : Option Int → LV
  | some i => .int i
  | none => .non
theorem digT_iff (c : Nat) : c ∈ tl digT ↔ 48 ≤ c ∧ c ≤ 57 := by
  rw [show tl digT = [48, 49, 50, 51, 52, 53, 54, 55, 56, 57] from rfl]
  simp
  omega
theorem all_dig {a : List Nat} (h : a.all (fun c => decide (c ∈ tl digT)) = true) : NumText.AllDigits a := fun c hc => by
  have := List.all_eq_true.mp h c hc
  exact (digT_iff c).mp (of_decide_eq_true this)
theorem absN_len (a : List Nat) : (absN a).length ≤ a.length := by
  unfold absN
  split
  · rw [List.length_drop]; omega
  · exact Nat.le_refl _
theorem intText_num {z : Str} (h1 : z.length ≤ 640) (h2 : absN (tl z) ≠ []) (h3 : NumText.AllDigits (absN (tl z))) : intText? z = some (if ((tl z).take 1 == [45]) = true then -((NumText.digitsVal (absN (tl z)) : Nat) : Int) else ((NumText.digitsVal (absN (tl z)) : Nat) : Int)) := by
  unfold absN at h2 h3 ⊢
  cases c : ((tl z).take 1 == [45]) with
  | true =>
    simp only [c, if_true] at h2 h3 ⊢
    cases e : tl z with
    | nil => rw [e] at c; cases c
    | cons a l =>
      rw [e] at c h2 h3
      simp at c h2 h3 ⊢
      subst c
      exact intText_neg e h3 h2 (by omega)
  | false =>
    rw [c] at h2 h3
    exact intText_digits h3 h2 (by omega)
theorem tl_mi : tl ("-" : Str) = [45] := rfl
theorem tl_0 : tl ("0" : Str) = [48] := rfl
theorem head_ix {z : Str} (h : tl z ≠ []) : ∃ a l, tl z = a :: l := by
  cases e : tl z with
  | nil => exact absurd e h
  | cons a l => exact ⟨a, l, rfl⟩
/-- the number's text without its sign -/
def absS (z : Str) : Str := if (tl (cutS z none (some 1)) == [45]) = true then cutS z (some 1) none else z
theorem tl_absS (z : Str) : tl (absS z) = absN (tl z) := by
  unfold absS absN
  rw [cut_to z (by omega), show (1 : Int).toNat = 1 from rfl]
  cases c : ((tl z).take 1 == [45]) with
  | true =>
    simp only [if_true]
    exact cut_from z (by omega)
  | false => rfl
theorem dig_ix (c : Nat) (h : 48 ≤ c ∧ c ≤ 57) (S : Sto) : sindexL (.str digT) [.str (one c)] S = .ok (.int ((c : Int) - 48)) S := by
  have : c = 48 ∨ c = 49 ∨ c = 50 ∨ c = 51 ∨ c = 52 ∨ c = 53 ∨ c = 54 ∨ c = 55 ∨ c = 56 ∨ c = 57 := by omega
  rcases this with rfl | rfl | rfl | rfl | rfl | rfl | rfl | rfl | rfl | rfl <;> with_unfolding_all rfl
theorem head_take (a : List Nat) (c d : Nat) (l : List Nat) (h : a = c :: l) : (a.take 1 == [d]) = (c == d) := by
  subst h; simp
theorem joinL_one : ∀ cs : List Nat, TL.joinL [] (cs.map fun c => [c]) = cs
  | [] => rfl
  | [c] => rfl
  | c :: d :: l => by
    have ih := joinL_one (d :: l)
    show [c] ++ ([] ++ TL.joinL [] ((d :: l).map fun c => [c])) = _
    rw [ih]; rfl
theorem join_one (cs : List Nat) : tl (Txt.join ("" : Str) (cs.map one)) = cs := by
  have e : Txt.join (SX.S []) ((cs.map fun c => [c]).map SX.S) = SX.S (TL.joinL [] (cs.map fun c => [c])) := SX.join_S _ _
  rw [joinL_one, List.map_map] at e
  have e2 : Txt.join ("" : Str) (cs.map one) = SX.S cs := e
  rw [e2]
  rfl
theorem strsL_map : ∀ ys : List Str, strsL (ys.map LV.str) = some ys
  | [] => rfl
  | y :: ys => by
    have ih := strsL_map ys
    unfold strsL at ih ⊢
    rw [List.map_cons, List.map_cons]
    unfold seqO
    rw [ih]
theorem sum_one (cs : List Nat) : (((cs.map one).map (·.length)).sum + (cs.map one).length * ("" : Str).length) = cs.length := by
  have : ("" : Str).length = 0 := rfl
  rw [this, Nat.mul_zero, Nat.add_zero]
  induction cs with
  | nil => rfl
  | cons c cs ih => simp at ih ⊢; omega
/-- one-sign texts joined -/
theorem join_ref {n : Nat} {S : Sto} {cs : List Nat} (h : S[n]? = some (.lst (cs.map fun c => .str (one c)))) (hl : cs.length ≤ 16777216) : joinL2 (.str ("" : Str)) [.ref n] S = .ok (.str (Txt.join ("" : Str) (cs.map one))) S := by
  rw [show (cs.map fun c => LV.str (one c)) = (cs.map one).map LV.str by rw [List.map_map]; rfl] at h
  simp only [joinL2, itemsO, h, strsL_map, sum_one, hl, decide_true, if_true]
theorem fine_join {n : Nat} {cs : List Nat} (h : cs.length ≤ n) (k : ∀ c ∈ cs, c < 128) : Fine n (Txt.join ("" : Str) (cs.map one)) := ⟨by rw [tl_len, join_one]; exact h, by rw [join_one]; exact k⟩
theorem mem_rng {v : LV} {lo : Int} {n : Nat} (h : v ∈ rng lo n) : ∃ k : Nat, k < n ∧ v = .int (lo + k) := by
  unfold rng at h
  obtain ⟨k, hk, rfl⟩ := List.mem_map.mp h
  exact ⟨k, List.mem_range.mp hk, rfl⟩
/-- one-sign texts, one for each number -/
theorem lc_ones (i : Nat) (ft fe : LE) (ds : Sl) (lo : Int) (n : Nat) (S : Sto) (g : Int → Nat) (hn : n ≤ 16777216) (h : ∀ k : Nat, k < n → ft (ds.set i (some (.int (lo + k)))) S = .ok (.bl true) S ∧ fe (ds.set i (some (.int (lo + k)))) S = .ok (.str (one (g (lo + k)))) S) :
    lcL (gNm i) ft fe ds (rng lo n) [] S = .ok (.ref S.length) (S ++ [.lst ((codes g lo n).map fun c => .str (one c))]) := by
  rw [lcL_pure (fun _ => true) (fun v => match v with | .int j => .str (one (g j)) | _ => .non) (rng lo n) [] ?_ ?_, List.nil_append, List.filter_eq_self.mpr fun _ _ => rfl]
  · congr 1
    simp [rng, codes, List.map_map, Function.comp_def]
  · intro v hv
    obtain ⟨k, hk, rfl⟩ := mem_rng hv
    exact ⟨_, rfl, (h k hk).1, fun _ => (h k hk).2⟩
  · unfold rng small
    simp only [List.length_nil, List.length_map, List.length_range, Nat.zero_add]
    exact decide_eq_true hn
abbrev abcT : Str := ("abcdefghijklmnopqrstuvwxyz" : Str)
theorem abc_len : abcT.length = 26 := by decide
theorem abc_sg : ∀ c ∈ tl abcT, c < 128 := by decide
theorem tl_int (i : Int) : tl (toString i : Str) = if i < 0 then 45 :: TL.numL i.natAbs else TL.numL i.natAbs := by
  cases i with
  | ofNat n =>
    rw [if_neg (by simp)]
    exact TL.tl_num n
  | negSucc n =>
    rw [if_pos (Int.negSucc_lt_zero n)]
    show TL.tl (Str.ofString ("-" ++ Nat.repr (n + 1))) = _
    rw [TL.tl_ofString, String.toList_append, List.map_append]
    have := TL.tl_num (n + 1)
    rw [TL.tl_ofString] at this
    exact congrArg (List.cons 45) this
theorem fine_int {i : Int} {k : Nat} (hk : 0 < k) (h : i.natAbs < 10 ^ k) : Fine (k + 1) (toString i : Str) := by
  have hl := TL.numL_len hk h
  have hd := TL.numL_digits i.natAbs
  refine ⟨?_, fun c hc => ?_⟩
  · rw [tl_len, tl_int]
    split
    · rw [List.length_cons]; omega
    · omega
  · rw [tl_int] at hc
    split at hc
    · rcases List.mem_cons.mp hc with rfl | hc
      · decide
      · have := hd c hc; omega
    · have := hd c hc; omega

/-! ### loops as folds -/
section
variable {α β : Type} {S : Sto} {lg : LG} {fb : LS} {fc : LE}
/-- for, each turn a step -/
theorem forL_fold (D : α → Option LV → Sl) (g : β → LV) (f : α → β → α) (P : α → Prop) (hg : ∀ a x b, lg (g b) S (D a x) = some (D a (some (g b)))) :
    ∀ (xs : List β) (a : α) (x : Option LV), (∀ a b, b ∈ xs → P a → fb (D a (some (g b))) S = .nx (D (f a b) (some (g b))) S ∧ P (f a b)) → P a → ∃ x', forL lg fb (xs.map g) (D a x) S = .nx (D (xs.foldl f a) x') S ∧ P (xs.foldl f a)
  | [], a, x, _, p => ⟨x, rfl, p⟩
  | b :: xs, a, x, h, p => by
    obtain ⟨h1, p1⟩ := h a b (List.mem_cons_self ..) p
    obtain ⟨x', h2, p2⟩ := forL_fold D g f P hg xs (f a b) (some (g b)) (fun a b hb => h a b (List.mem_cons_of_mem _ hb)) p1
    refine ⟨x', ?_, p2⟩
    rw [List.map_cons, List.foldl_cons, ← h2]
    conv => lhs; unfold forL
    rw [hg]
    simp only
    rw [h1]
/-- for, which a hit ends -/
theorem forL_exit (D : Option LV → Sl) (g : β → LV) (p : β → Bool) (v : LV) (hg : ∀ x b, lg (g b) S (D x) = some (D (some (g b)))) :
    ∀ (xs : List β) (x : Option LV), (∀ b ∈ xs, fb (D (some (g b))) S = if p b = true then .rt v S else .nx (D (some (g b))) S) → ∃ x', forL lg fb (xs.map g) (D x) S = if xs.any p = true then .rt v S else .nx (D x') S
  | [], x, _ => ⟨x, rfl⟩
  | b :: xs, x, h => by
    have h1 := h b (List.mem_cons_self ..)
    obtain ⟨x', h2⟩ := forL_exit D g p v hg xs (some (g b)) (fun b hb => h b (List.mem_cons_of_mem _ hb))
    refine ⟨x', ?_⟩
    rw [List.map_cons, List.any_cons]
    conv => lhs; unfold forL
    rw [hg]
    simp only
    rw [h1]
    cases p b with
    | true => simp
    | false => simpa using h2
/-- while, each turn a step that comes nearer -/
theorem wh_run (D : α → Sl) (c : α → Bool) (f : α → α) (P : α → Prop) (μ : α → Nat) (hc : ∀ a, P a → fc (D a) S = .ok (.bl (c a)) S)
    (hb : ∀ a, P a → c a = true → fb (D a) S = .nx (D (f a)) S ∧ P (f a) ∧ μ (f a) < μ a) : ∀ (n : Nat) (a : α), P a → μ a < n → ∃ b, P b ∧ c b = false ∧ lWh n fc fb (D a) S = .nx (D b) S
  | 0, a, _, h => absurd h (Nat.not_lt_zero _)
  | n + 1, a, p, h => by
    have h1 := hc a p
    cases e : c a with
    | false =>
      refine ⟨a, p, e, ?_⟩
      unfold lWh whK
      rw [h1, e]
      rfl
    | true =>
      obtain ⟨h2, p2, m2⟩ := hb a p e
      obtain ⟨b, pb, eb, hb2⟩ := wh_run D c f P μ hc hb n (f a) p2 (by omega)
      refine ⟨b, pb, eb, ?_⟩
      rw [← hb2]
      unfold lWh
      conv => lhs; unfold whK
      rw [h1, e]
      show (match fb (D a) S with | .nx ds2 S2 => whK fc fb n ds2 S2 | .ct ds2 S2 => whK fc fb n ds2 S2 | .bk ds2 S2 => .nx ds2 S2 | r => r) = _
      rw [h2]
end
theorem e_wh {n : Nat} {fc : LE} {fb : LS} {ds : Sl} {S : Sto} : lWh n fc fb ds S = whK fc fb n ds S := (rfl)
end LL


set_option Elab.async false
set_option linter.all false
set_option maxRecDepth 100000
set_option maxHeartbeats 2000000
/-! The logical layer: the calendar in plain numbers; tuples of numbers compared. -/
namespace LL
open PySem PySem.Spec PyProof.Rows L2

def leap (y : Int) : Bool := decide (y % 4 = 0) && (!decide (y % 100 = 0) || decide (y % 400 = 0))
def ahead (y : Int) : Int := 365 * (y - 2000) + ((y - 2000 + 3) / 4 - (y - 2000 + 99) / 100 + (y - 2000 + 399) / 400)
def longT : List Int := [31, 28, 31, 30, 31, 30, 31, 31, 30, 31, 30, 31]
def mlen (y m : Int) : Int := if m = 2 ∧ leap y = true then 29 else longT.getD (m - 1).toNat 0
def cumT : List Int := [0, 31, 59, 90, 120, 151, 181, 212, 243, 273, 304, 334, 365]
def befo (y m : Int) : Int := cumT.getD (m - 1).toNat 0 + (if 2 < m ∧ leap y = true then 1 else 0)
theorem m12 {m : Int} (h : 1 ≤ m) (h2 : m ≤ 12) : m = 1 ∨ m = 2 ∨ m = 3 ∨ m = 4 ∨ m = 5 ∨ m = 6 ∨ m = 7 ∨ m = 8 ∨ m = 9 ∨ m = 10 ∨ m = 11 ∨ m = 12 := by omega
theorem befo_step {y m : Int} (h : 1 ≤ m) (h2 : m ≤ 12) : befo y (m + 1) = befo y m + mlen y m := by
  cases hl : leap y <;> rcases m12 h h2 with rfl | rfl | rfl | rfl | rfl | rfl | rfl | rfl | rfl | rfl | rfl | rfl <;> simp [befo, mlen, cumT, longT, hl]
theorem befo_1 (y : Int) : befo y 1 = 0 := by simp [befo, cumT]
theorem befo_13 (y : Int) : befo y 13 = 365 + (if leap y = true then 1 else 0) := by simp [befo, cumT]
theorem mlen_b {y m : Int} (h : 1 ≤ m) (h2 : m ≤ 12) : 28 ≤ mlen y m ∧ mlen y m ≤ 31 := by
  cases hl : leap y <;> rcases m12 h h2 with rfl | rfl | rfl | rfl | rfl | rfl | rfl | rfl | rfl | rfl | rfl | rfl <;> simp [mlen, longT, hl]
theorem befo_b {y m : Int} (h : 1 ≤ m) (h2 : m ≤ 12) : 0 ≤ befo y m ∧ befo y m ≤ 335 := by
  cases hl : leap y <;> rcases m12 h h2 with rfl | rfl | rfl | rfl | rfl | rfl | rfl | rfl | rfl | rfl | rfl | rfl <;> simp [befo, cumT, hl]
theorem befo_le {y m : Int} (h : 1 ≤ m) (h2 : m ≤ 12) : befo y m + mlen y m ≤ befo y 13 := by
  cases hl : leap y <;> rcases m12 h h2 with rfl | rfl | rfl | rfl | rfl | rfl | rfl | rfl | rfl | rfl | rfl | rfl <;> simp [befo, mlen, cumT, longT, hl]
theorem befo_mono {y m n : Int} (h : 1 ≤ m) (h2 : m < n) (h3 : n ≤ 12) : befo y m + mlen y m ≤ befo y n := by
  cases hl : leap y <;> rcases m12 (m := m) (by omega) (by omega) with rfl | rfl | rfl | rfl | rfl | rfl | rfl | rfl | rfl | rfl | rfl | rfl <;>
  rcases m12 (m := n) (by omega) (by omega) with rfl | rfl | rfl | rfl | rfl | rfl | rfl | rfl | rfl | rfl | rfl | rfl <;> first | omega | simp [befo, mlen, cumT, longT, hl]
theorem ahead_step {y : Int} (h : 2000 ≤ y) : ahead (y + 1) = ahead y + befo y 13 := by
  rw [befo_13]
  unfold ahead leap
  by_cases h4 : y % 4 = 0 <;> by_cases h1 : y % 100 = 0 <;> by_cases h0 : y % 400 = 0 <;> simp [h4, h1, h0] <;> omega
theorem ahead_2000 : ahead 2000 = 0 := by decide
theorem ahead_2400 : ahead 2400 = 146097 := by decide
theorem ahead_mono {y z : Int} (h : 2000 ≤ y) (h2 : y ≤ z) : ahead y ≤ ahead z := by unfold ahead; omega
theorem ahead_lt {y z : Int} (h : 2000 ≤ y) (h2 : y < z) : ahead (y + 1) ≤ ahead z := ahead_mono (by omega) (by omega)
theorem ahead_guess {d : Int} (h : 0 ≤ d) : ahead (2000 + d / 366) ≤ d := by unfold ahead; omega
/-- a day's parts -/
structure Day (y m p : Int) : Prop where
  y0 : 2000 ≤ y
  y1 : y ≤ 2399
  m0 : 1 ≤ m
  m1 : m ≤ 12
  p0 : 1 ≤ p
  p1 : p ≤ mlen y m
def dayN (y m p : Int) : Int := ahead y + befo y m + p - 1
theorem Day.in_year {y m p : Int} (h : Day y m p) : ahead y ≤ dayN y m p ∧ dayN y m p < ahead (y + 1) := by
  have h1 := befo_le (y := y) h.m0 h.m1
  have h2 := befo_b (y := y) h.m0 h.m1
  have h3 := ahead_step h.y0
  have := h.p0
  have := h.p1
  unfold dayN
  omega
theorem Day.range {y m p : Int} (h : Day y m p) : 0 ≤ dayN y m p ∧ dayN y m p ≤ 146096 := by
  have h1 := h.in_year
  have h2 := ahead_mono (y := 2000) (z := y) (by omega) h.y0
  have h3 := ahead_mono (y := y + 1) (z := 2400) (by have := h.y0; omega) (by have := h.y1; omega)
  rw [ahead_2000] at h2
  rw [ahead_2400] at h3
  omega
theorem Day.uniq {y m p y' m' p' : Int} (h : Day y m p) (h' : Day y' m' p') (e : dayN y m p = dayN y' m' p') : y = y' ∧ m = m' ∧ p = p' := by
  have a := h.in_year
  have b := h'.in_year
  have ey : y = y' := by
    rcases Int.lt_trichotomy y y' with c | c | c
    · have := ahead_lt h.y0 c; omega
    · exact c
    · have := ahead_lt h'.y0 c; omega
  subst ey
  have em : m = m' := by
    have := h.p0; have := h.p1; have := h'.p0; have := h'.p1
    unfold dayN at e
    rcases Int.lt_trichotomy m m' with c | c | c
    · have := befo_mono (y := y) h.m0 c h'.m1; omega
    · exact c
    · have := befo_mono (y := y) h'.m0 c h.m1; omega
  subst em
  unfold dayN at e
  exact ⟨rfl, rfl, by omega⟩
/-- the day behind -/
theorem Day.next {y m p : Int} (h : Day y m p) (hd : dayN y m p < 146096) :
    (p < mlen y m ∧ Day y m (p + 1) ∧ dayN y m (p + 1) = dayN y m p + 1) ∨ (p = mlen y m ∧ m < 12 ∧ Day y (m + 1) 1 ∧ dayN y (m + 1) 1 = dayN y m p + 1) ∨ (p = mlen y m ∧ m = 12 ∧ Day (y + 1) 1 1 ∧ dayN (y + 1) 1 1 = dayN y m p + 1) := by
  obtain ⟨y0, y1, m0, m1, p0, p1⟩ := h
  by_cases c : p < mlen y m
  · exact .inl ⟨c, ⟨y0, y1, m0, m1, by omega, by omega⟩, by unfold dayN; omega⟩
  · have ep : p = mlen y m := by omega
    by_cases cm : m < 12
    · refine .inr (.inl ⟨ep, cm, ⟨y0, y1, by omega, by omega, by omega, ?_⟩, ?_⟩)
      · have := mlen_b (y := y) (m := m + 1) (by omega) (by omega); omega
      · have := befo_step (y := y) m0 m1
        unfold dayN; omega
    · have em : m = 12 := by omega
      subst em
      have hs := ahead_step y0
      have hb := befo_step (y := y) (m := 12) (by omega) (by omega)
      have hb' : befo y 13 = befo y 12 + mlen y 12 := hb
      have h1 := befo_1 (y + 1)
      have hy : y + 1 ≤ 2399 := by
        rcases Int.lt_or_le 2398 y with c | c
        · have : y = 2399 := by omega
          subst this
          have := ahead_2400
          unfold dayN at hd
          rw [show (2399 : Int) + 1 = 2400 by omega, this] at hs
          omega
        · omega
      refine .inr (.inr ⟨ep, rfl, ⟨by omega, hy, by omega, by omega, by omega, ?_⟩, ?_⟩)
      · have := mlen_b (y := y + 1) (m := 1) (by omega) (by omega); omega
      · unfold dayN; omega
/-- a month by its number -/
def monY (k : Int) : Int := 2000 + k / 12
def monM (k : Int) : Int := 1 + k % 12
def monF (k : Int) : Int := ahead (monY k) + befo (monY k) (monM k)
def monL (k : Int) : Int := monF k + mlen (monY k) (monM k) - 1
theorem monM_b (k : Int) : 1 ≤ monM k ∧ monM k ≤ 12 := by unfold monM; omega
theorem mon_day {k p : Int} (h : 0 ≤ k) (h2 : k ≤ 4799) (h3 : 1 ≤ p) (h4 : p ≤ mlen (monY k) (monM k)) : Day (monY k) (monM k) p := ⟨by unfold monY; omega, by unfold monY; omega, (monM_b k).1, (monM_b k).2, h3, h4⟩
theorem mon_of (y m : Int) (h : 1 ≤ m) (h2 : m ≤ 12) : monY (12 * (y - 2000) + m - 1) = y ∧ monM (12 * (y - 2000) + m - 1) = m := by unfold monY monM; omega
theorem mon_next {k : Int} (h : 0 ≤ k) : monF (k + 1) = monL k + 1 := by
  unfold monL monF
  by_cases c : k % 12 = 11
  · have e1 : monY (k + 1) = monY k + 1 := by unfold monY; omega
    have e2 : monM (k + 1) = 1 := by unfold monM; omega
    have e3 : monM k = 12 := by unfold monM; omega
    rw [e1, e2, e3, befo_1, ahead_step (by unfold monY; omega)]
    have hb : befo (monY k) 13 = befo (monY k) 12 + mlen (monY k) 12 := befo_step (y := monY k) (m := 12) (by omega) (by omega)
    omega
  · have e1 : monY (k + 1) = monY k := by unfold monY; omega
    have e2 : monM (k + 1) = monM k + 1 := by unfold monM; omega
    rw [e1, e2, befo_step (monM_b k).1 (monM_b k).2]
    omega
theorem monF_0 : monF 0 = 0 := by decide
theorem monL_4799 : monL 4799 = 146096 := by decide
theorem day_of_mon (k p : Int) : dayN (monY k) (monM k) p = monF k + p - 1 := rfl
/-! ### values by their kind -/
structure Okv (S : Sto) (v : LV) : Prop where
  nx : isX v = false
  kd : ∃ k, kindL v S = some k
def wI : LV → Option Int
  | .int i => some i
  | _ => none
def wS : LV → Option Str
  | .str z => some z
  | _ => none
theorem wI_some {v : LV} {i : Int} (h : wI v = some i) : v = .int i := by
  cases v with
  | int k => injection h with h; rw [h]
  | _ => cases h
theorem wS_some {v : LV} {i : Str} (h : wS v = some i) : v = .str i := by
  cases v with
  | str k => injection h with h; rw [h]
  | _ => cases h
theorem kind_ref {n : Nat} {S : Sto} {k : String} (h : kindL (.ref n) S = some k) : k = "list" ∨ k = "dict" := by
  unfold kindL at h
  cases e : S[n]? with
  | none => simp [e] at h
  | some o => cases o <;> simp [e] at h <;> first | exact .inl h.symm | exact .inr h.symm
theorem kind_int {v : LV} {S : Sto} (h : kindL v S = some "int") : ∃ i, wI v = some i := by
  cases v with
  | int k => exact ⟨k, rfl⟩
  | ref n => rcases kind_ref h with e | e <;> exact absurd e (by decide)
  | non => exact absurd h (by simp [kindL])
  | bl b => exact absurd h (by simp [kindL])
  | str b => exact absurd h (by simp [kindL])
  | tup b => exact absurd h (by simp [kindL])
  | _ => exact absurd h (by simp [kindL])
theorem kind_str {v : LV} {S : Sto} (h : kindL v S = some "str") : ∃ z, v = .str z := by
  cases v with
  | str k => exact ⟨k, rfl⟩
  | ref n => rcases kind_ref h with e | e <;> exact absurd e (by decide)
  | non => exact absurd h (by simp [kindL])
  | bl b => exact absurd h (by simp [kindL])
  | int b => exact absurd h (by simp [kindL])
  | tup b => exact absurd h (by simp [kindL])
  | _ => exact absurd h (by simp [kindL])
theorem isi_str {v : LV} {S : Sto} (o : Okv S v) (w : wS v = none) : isiL [v, .ty "str"] S = .ok (.bl false) S := by
  obtain ⟨nx, k, hk⟩ := o
  have : k ≠ "str" := fun e => by
    subst e
    obtain ⟨z, rfl⟩ := kind_str hk
    cases w
  simp [isiL, hk, isiT, this]
theorem Okv.int {S : Sto} (i : Int) : Okv S (.int i) := ⟨rfl, _, rfl⟩
theorem Okv.str {S : Sto} (i : Str) : Okv S (.str i) := ⟨rfl, _, rfl⟩
theorem Okv.bl {S : Sto} (i : Bool) : Okv S (.bl i) := ⟨rfl, _, rfl⟩
theorem Okv.non {S : Sto} : Okv S .non := ⟨rfl, _, rfl⟩
theorem Okv.tup {S : Sto} (xs : List LV) : Okv S (.tup xs) := ⟨rfl, _, rfl⟩
theorem Okv.lst {S : Sto} {n : Nat} {xs : List LV} (h : S[n]? = some (.lst xs)) : Okv S (.ref n) := ⟨rfl, "list", by simp [kindL, h]⟩
theorem Okv.dct {S : Sto} {n : Nat} {xs} (h : S[n]? = some (.dct xs)) : Okv S (.ref n) := ⟨rfl, "dict", by simp [kindL, h]⟩
/-- the day that parts write -/
def dayOpt : Option Int → Option Int → Option Int → Option (Int × Int × Int)
  | some y, some m, some p => if 2000 ≤ y ∧ y ≤ 2399 ∧ 1 ≤ m ∧ m ≤ 12 ∧ 1 ≤ p ∧ p ≤ mlen y m then some (y, m, p) else none
  | _, _, _ => none
theorem dayOpt_day {a b c : Option Int} {y m p : Int} (h : dayOpt a b c = some (y, m, p)) : Day y m p := by
  unfold dayOpt at h
  split at h
  · split at h
    · rename_i q
      cases h
      exact ⟨q.1, q.2.1, q.2.2.1, q.2.2.2.1, q.2.2.2.2.1, q.2.2.2.2.2⟩
    · cases h
  · cases h
theorem dayOpt_of {y m p : Int} (h : Day y m p) : dayOpt (some y) (some m) (some p) = some (y, m, p) := if_pos ⟨h.y0, h.y1, h.m0, h.m1, h.p0, h.p1⟩
theorem cut_mid (z : Str) {i j : Int} (h : 0 ≤ i) (h2 : i ≤ j) : tl (cutS z (some i) (some j)) = ((tl z).drop i.toNat).take (j.toNat - i.toNat) := by
  rw [tl_cut]
  show ((tl z).drop (if i < 0 then (i + (z.length : Int)).toNat else min i.toNat z.length)).take ((if j < 0 then (j + (z.length : Int)).toNat else min j.toNat z.length) - (if i < 0 then (i + (z.length : Int)).toNat else min i.toNat z.length)) = _
  rw [if_neg (by omega), if_neg (by omega), tl_len]
  by_cases c : i.toNat ≤ (tl z).length
  · rw [Nat.min_eq_left c]
    by_cases d : j.toNat ≤ (tl z).length
    · rw [Nat.min_eq_left d]
    · rw [Nat.min_eq_right (by omega), List.take_of_length_le (by rw [List.length_drop]; omega), List.take_of_length_le (by rw [List.length_drop]; omega)]
  · rw [Nat.min_eq_right (a := i.toNat) (by omega), List.drop_length, List.drop_eq_nil_of_le (by omega)]
    simp
theorem ten {l : List Nat} (h : l.length = 10) : ∃ a b c d e f g i j k, l = [a, b, c, d, e, f, g, i, j, k] := by
  match l, h with
  | [a, b, c, d, e, f, g, i, j, k], _ => exact ⟨a, b, c, d, e, f, g, i, j, k, rfl⟩
/-- the parts that a text writes -/
def dateOpt (l : List Nat) : Option (Int × Int × Int) := match l with
  | [a, b, c, d, e, f, g, i, j, k] => if (e == 45 && i == 45 && [a, b, c, d, f, g, j, k].all fun x => decide (x ∈ tl digT)) = true then
      dayOpt (some (NumText.digitsVal [a, b, c, d] : Nat)) (some (NumText.digitsVal [f, g] : Nat)) (some (NumText.digitsVal [j, k] : Nat)) else none
  | _ => none
theorem int_dig {z : Str} {S : Sto} {l : List Nat} (e : tl z = l) (hl : l.length ≤ 640) (hn : l ≠ []) (h : l.all (fun x => decide (x ∈ tl digT)) = true) : intL [.str z] S = .ok (.int (NumText.digitsVal l : Nat)) S := by
  have hz : z.length ≤ 640 := by rw [tl_len, e]; exact hl
  have := intText_digits (x := z) (by rw [show z.cps.toList = tl z from rfl, e]; exact all_dig h) (by rw [show z.cps.toList = tl z from rfl, e]; exact hn) (by omega)
  rw [show z.cps.toList = tl z from rfl, e] at this
  simp [intL, this, hz]
theorem dateOpt_day {l : List Nat} {y m p : Int} (h : dateOpt l = some (y, m, p)) : Day y m p := by
  unfold dateOpt at h
  split at h
  · split at h
    · exact dayOpt_day h
    · cases h
  · cases h
theorem num4 {n : Nat} (h : 1000 ≤ n) (h2 : n < 10000) : TL.numL n = [48 + n / 1000, 48 + n / 100 % 10, 48 + n / 10 % 10, 48 + n % 10] := by
  rw [TL.numL_step (by omega), TL.numL_step (by omega), TL.numL_step (by omega), TL.numL_lt (by omega)]
  simp
  omega
theorem date_text {y m p : Int} (h : Day y m p) : dateOpt (tl (toString y : Str) ++ [45, 48 + (m / 10).toNat, 48 + (m % 10).toNat, 45, 48 + (p / 10).toNat, 48 + (p % 10).toNat]) = some (y, m, p) := by
  have hb := mlen_b (y := y) h.m0 h.m1
  have y0 := h.y0
  have y1 := h.y1
  have p0 := h.p0
  have p1 := h.p1
  have m0 := h.m0
  have m1 := h.m1
  obtain ⟨n, rfl⟩ := Int.eq_ofNat_of_zero_le (show 0 ≤ y by omega)
  obtain ⟨a, rfl⟩ := Int.eq_ofNat_of_zero_le (show 0 ≤ m by omega)
  obtain ⟨b, rfl⟩ := Int.eq_ofNat_of_zero_le (show 0 ≤ p by omega)
  rw [tl_int, if_neg (by omega), show ((n : Int)).natAbs = n by omega, num4 (by omega) (by omega)]
  have dg : ∀ k : Nat, k < 10 → decide (48 + k ∈ tl digT) = true := fun k hk => decide_eq_true ((digT_iff _).mpr ⟨by omega, by omega⟩)
  have e1 : ((a : Int) / 10).toNat = a / 10 := by omega
  have e2 : ((a : Int) % 10).toNat = a % 10 := by omega
  have e3 : ((b : Int) / 10).toNat = b / 10 := by omega
  have e4 : ((b : Int) % 10).toNat = b % 10 := by omega
  rw [e1, e2, e3, e4]
  show (if ((45 : Nat) == 45 && (45 : Nat) == 45 && [48 + n / 1000, 48 + n / 100 % 10, 48 + n / 10 % 10, 48 + n % 10, 48 + a / 10, 48 + a % 10, 48 + b / 10, 48 + b % 10].all fun x => decide (x ∈ tl digT)) = true then
      dayOpt (some (NumText.digitsVal [48 + n / 1000, 48 + n / 100 % 10, 48 + n / 10 % 10, 48 + n % 10] : Nat)) (some (NumText.digitsVal [48 + a / 10, 48 + a % 10] : Nat)) (some (NumText.digitsVal [48 + b / 10, 48 + b % 10] : Nat)) else none) = _
  rw [if_pos (by simp only [List.all_cons, List.all_nil]; rw [dg _ (by omega), dg _ (by omega), dg _ (by omega), dg _ (by omega), dg _ (by omega), dg _ (by omega), dg _ (by omega), dg _ (by omega)]; rfl)]
  rw [show NumText.digitsVal [48 + n / 1000, 48 + n / 100 % 10, 48 + n / 10 % 10, 48 + n % 10] = n by simp [NumText.digitsVal]; omega,
    show NumText.digitsVal [48 + a / 10, 48 + a % 10] = a by simp [NumText.digitsVal]; omega, show NumText.digitsVal [48 + b / 10, 48 + b % 10] = b by simp [NumText.digitsVal]; omega]
  exact dayOpt_of h
/-! ### tuples of whole numbers compared -/
section
variable {S : Sto} {a b c d e f : Int}
theorem eqV_t3 : eqV2 (.tup [.int a, .int b, .int c]) (.tup [.int d, .int e, .int f]) S = some (a == d && (b == e && (c == f && true))) := by
  unfold eqV2
  rw [show eqS (.tup [.int a, .int b, .int c]) (.tup [.int d, .int e, .int f]) = none from rfl]
  simp only
  rw [show dat S 60 (.tup [.int a, .int b, .int c]) = some (.tuple [.int a, .int b, .int c]) from rfl, show dat S 60 (.tup [.int d, .int e, .int f]) = some (.tuple [.int d, .int e, .int f]) from rfl]
  simp only
  rw [show SeqAt.shaped (.tuple [.int a, .int b, .int c]) = true from rfl, show SeqAt.shaped (.tuple [.int d, .int e, .int f]) = true from rfl]
  rfl
theorem eq_t3 : eqL (.tup [.int a, .int b, .int c]) (.tup [.int d, .int e, .int f]) S = .ok (.bl (a == d && (b == e && c == f))) S := by
  unfold eqL; rw [eqV_t3, Bool.and_true]
theorem ne_t3 : neL (.tup [.int a, .int b, .int c]) (.tup [.int d, .int e, .int f]) S = .ok (.bl !(a == d && (b == e && c == f))) S := by
  unfold neL; rw [eqV_t3, Bool.and_true]
theorem ix_k {xs : List LV} {u : LV} {j : Int} (h : 0 ≤ j) (hu : xs[j.toNat]? = some u) : ixL (.ktp xs) (.int j) S = .ok u S := by
  simp only [ixL, ixO, atI_nn h, hu]
theorem ix_l0 {xs : List LV} {u : LV} {j : Int} (h : 0 ≤ j) (hu : xs[j.toNat]? = some u) : ixL (.ref S.length) (.int j) (S ++ [.lst xs]) = .ok u (S ++ [.lst xs]) := ix_l (by rw [get_app0]; rfl) h hu
theorem ix_l1 {o : LO} {xs : List LV} {u : LV} {j : Int} (h : 0 ≤ j) (hu : xs[j.toNat]? = some u) : ixL (.ref (S.length + 1)) (.int j) (S ++ [o, .lst xs]) = .ok u (S ++ [o, .lst xs]) := ix_l (by rw [get_app]; rfl) h hu
theorem ix_lk {U : Sto} {n : Nat} {xs : List LV} {u : LV} {j : Int} (hU : U[n]? = some (.lst xs)) (h : 0 ≤ j) (hu : xs[j.toNat]? = some u) : ixL (.ref (S.length + n)) (.int j) (S ++ U) = .ok u (S ++ U) := ix_l (by rw [get_app]; exact hU) h hu
theorem get_ex {α : Type} {xs : List α} {j : Int} (h : 0 ≤ j) (h2 : j < xs.length) : ∃ u, xs[j.toNat]? = some u := ⟨_, List.getElem?_eq_getElem (by omega)⟩
theorem gtp_e {gs : LGs} {xs : List LV} {ds : Sl} : asgK (gTp gs) ds (.tup xs) S = (match gs xs S ds with | some ds1 => .nx ds1 S | none => .no) := (rfl)
@[simp] theorem gs_nil {ds : Sl} : gsNil [] S ds = some ds := (rfl)
@[simp] theorem gs_cons {i : Nat} {gs : LGs} {v : LV} {xs : List LV} {ds : Sl} : gsCons (gNm i) gs (v :: xs) S ds = gs xs S (ds.set i (some v)) := (rfl)
@[simp] theorem min_ii : minL [.int a, .int b] S = .ok (.int (if b < a then b else a)) S := (rfl)
@[simp] theorem max_ii : maxL [.int a, .int b] S = .ok (.int (if b > a then b else a)) S := (rfl)
@[simp] theorem mkTup_e {vs : List LV} (h : vs.length ≤ 16777216) : mkTup vs S = .ok (.tup vs) S := by simp [mkTup, small, h]
@[simp] theorem mkLst_e {vs : List LV} (h : vs.length ≤ 16777216) : mkLst vs S = .ok (.ref S.length) (S ++ [.lst vs]) := by simp [mkLst, small, h]
@[simp] theorem int_b {k : Bool} : intL [.bl k] S = .ok (.int (if k = true then 1 else 0)) S := (rfl)
@[simp] theorem int_i {k : Int} : intL [.int k] S = .ok (.int k) S := (rfl)
@[simp] theorem abs_i {k : Int} : absL [.int k] S = .ok (.int (if k < 0 then -k else k)) S := (rfl)
end
end LL


set_option Elab.async false
set_option linter.all false
set_option maxRecDepth 100000
set_option maxHeartbeats 2000000
/-! The logical layer: lists of digits, amounts in texts. -/
namespace LL
open PySem PySem.Spec PyProof.Rows L2

abbrev dval (a : List Nat) : Nat := NumText.digitsVal a
theorem fold_val (a : List Nat) : ∀ s : Nat, a.foldl (fun acc c => acc * 10 + (c - 48)) s = s * 10 ^ a.length + dval a := by
  induction a with
  | nil => intro s; simp [NumText.digitsVal]
  | cons c a ih =>
    intro s
    show a.foldl _ (s * 10 + (c - 48)) = s * 10 ^ (a.length + 1) + a.foldl _ (0 * 10 + (c - 48))
    rw [ih, ih, Nat.pow_succ, Nat.add_mul, Nat.zero_mul, Nat.zero_add, Nat.mul_assoc, Nat.mul_comm 10]
    omega
theorem val_cons (c : Nat) (a : List Nat) : dval (c :: a) = (c - 48) * 10 ^ a.length + dval a := by
  show a.foldl _ (0 * 10 + (c - 48)) = _
  rw [fold_val, Nat.zero_mul, Nat.zero_add]
theorem val_lt {a : List Nat} (h : NumText.AllDigits a) : dval a < 10 ^ a.length := by
  induction a with
  | nil => decide
  | cons c a ih =>
    rw [val_cons, List.length_cons, Nat.pow_succ]
    have := ih h.tail
    have hc := h.head
    have : (c - 48) * 10 ^ a.length ≤ 9 * 10 ^ a.length := Nat.mul_le_mul_right _ (by omega)
    omega
theorem val_ge {c : Nat} {a : List Nat} (h : NumText.AllDigits (c :: a)) (hc : c ≠ 48) : 10 ^ a.length ≤ dval (c :: a) := by
  rw [val_cons]
  have := h.head
  have : 1 * 10 ^ a.length ≤ (c - 48) * 10 ^ a.length := Nat.mul_le_mul_right _ (by omega)
  omega
theorem dig_inj : ∀ {a b : List Nat}, NumText.AllDigits a → NumText.AllDigits b → a.length = b.length → dval a = dval b → a = b
  | [], [], _, _, _, _ => rfl
  | [], _ :: _, _, _, h, _ => by simp at h
  | _ :: _, [], _, _, h, _ => by simp at h
  | c :: a, d :: b, ha, hb, hl, hv => by
    have hl' : a.length = b.length := by simpa using hl
    rw [val_cons, val_cons, hl'] at hv
    have va := val_lt ha.tail
    have vb := val_lt hb.tail
    rw [hl'] at va
    have c1 := ha.head
    have d1 := hb.head
    generalize 10 ^ b.length = P at hv va vb
    have e : c - 48 = d - 48 := by
      rcases Nat.lt_trichotomy (c - 48) (d - 48) with q | q | q
      · have : (c - 48 + 1) * P ≤ (d - 48) * P := Nat.mul_le_mul_right _ q
        rw [Nat.add_mul] at this
        omega
      · exact q
      · have : (d - 48 + 1) * P ≤ (c - 48) * P := Nat.mul_le_mul_right _ q
        rw [Nat.add_mul] at this
        omega
    rw [e] at hv
    have := dig_inj ha.tail hb.tail hl' (by omega)
    rw [this, show c = d by omega]
theorem numL_len_gt {n k : Nat} (h : 10 ^ k ≤ n) : k < (TL.numL n).length := by
  have := val_lt (TL.numL_digits n)
  rw [show dval (TL.numL n) = n from TL.numL_val n] at this
  exact (Nat.pow_lt_pow_iff_right (by decide : 1 < 10)).mp (Nat.lt_of_le_of_lt h this)
theorem numL_pos (n : Nat) : 0 < (TL.numL n).length := by
  cases e : TL.numL n with
  | nil => exact absurd e (TL.numL_ne n)
  | cons c l => simp
theorem numL_head {n : Nat} (h : (TL.numL n).head? = some 48) : (TL.numL n).length = 1 := by
  cases e : TL.numL n with
  | nil => exact absurd e (TL.numL_ne n)
  | cons c l =>
    rw [e] at h
    have hc : c = 48 := by simpa using h
    cases l with
    | nil => rfl
    | cons d l =>
      have hd := TL.numL_digits n
      rw [e] at hd
      have hv : n = dval (c :: d :: l) := by rw [← e]; exact (TL.numL_val n).symm
      rw [val_cons, hc] at hv
      have lt := val_lt hd.tail
      have := TL.numL_len (n := n) (k := (d :: l).length) (by simp) (by omega)
      rw [e] at this
      simp at this
      omega
/-- so many digits at least -/
def padF (v k : Nat) : List Nat := List.replicate (k - (TL.numL v).length) 48 ++ TL.numL v
theorem padF_digits (v k : Nat) : NumText.AllDigits (padF v k) := fun c hc => by
  rcases List.mem_append.mp hc with hc | hc
  · rw [List.eq_of_mem_replicate hc]; omega
  · exact TL.numL_digits v c hc
theorem padF_len (v k : Nat) : (padF v k).length = max (TL.numL v).length k := by
  unfold padF
  rw [List.length_append, List.length_replicate]
  omega
theorem padF_val (v k : Nat) : dval (padF v k) = v := by
  unfold padF
  generalize k - (TL.numL v).length = m
  induction m with
  | zero => exact TL.numL_val v
  | succ m ih =>
    rw [List.replicate_succ, List.cons_append, val_cons, ih]
    omega
theorem pad_of {F : List Nat} {k : Nat} (hd : NumText.AllDigits F) (hk : 1 ≤ k) (hl : k ≤ F.length) (hh : F.length = k ∨ F.head? ≠ some 48) : F = padF (dval F) k := by
  refine dig_inj hd (padF_digits _ _) ?_ (padF_val _ _).symm
  rw [padF_len]
  have le : (TL.numL (dval F)).length ≤ F.length := TL.numL_len (by omega) (val_lt hd)
  rcases hh with hh | hh
  · omega
  · cases F with
    | nil => simp at hl; omega
    | cons c F =>
      have := numL_len_gt (val_ge hd (fun e => hh (by rw [e]; rfl)))
      rw [List.length_cons] at *
      omega
theorem padF_head {v k : Nat} (h : k < (padF v k).length) (hk : 1 ≤ k) : (padF v k).head? ≠ some 48 := by
  rw [padF_len] at h
  have e : padF v k = TL.numL v := by
    unfold padF
    rw [show k - (TL.numL v).length = 0 by omega]; rfl
  rw [e]
  intro z
  have := numL_head z
  omega
/-- a point ahead of the last so many -/
def midF (F : List Nat) (pl : Nat) : List Nat := if pl = 0 then F else F.take (F.length - pl) ++ 46 :: F.drop (F.length - pl)
def AT (n : Int) (pl : Nat) : List Nat := (if n < 0 then [45] else []) ++ midF (padF n.natAbs (pl + 1)) pl
def isDg (c : Nat) : Bool := decide (c ∈ tl digT)
theorem isDg_iff (c : Nat) : isDg c = true ↔ 48 ≤ c ∧ c ≤ 57 := by
  unfold isDg
  rw [decide_eq_true_eq]
  exact digT_iff c
theorem all_isDg {a : List Nat} : a.all isDg = true ↔ NumText.AllDigits a := by
  rw [List.all_eq_true]
  exact ⟨fun h c hc => (isDg_iff c).mp (h c hc), fun h c hc => (isDg_iff c).mpr (h c hc)⟩
theorem filter_dig {F : List Nat} (h : NumText.AllDigits F) : F.filter isDg = F := List.filter_eq_self.mpr fun c hc => (isDg_iff c).mpr (h c hc)
theorem mid_filter {F : List Nat} (h : NumText.AllDigits F) (pl : Nat) : (midF F pl).filter isDg = F := by
  unfold midF
  split
  · exact filter_dig h
  · rw [List.filter_append, List.filter_cons, show isDg 46 = false by decide]
    simp only [Bool.false_eq_true, if_false]
    rw [← List.filter_append, List.take_append_drop]
    exact filter_dig h
theorem mid_len {F : List Nat} {pl : Nat} (h : pl ≤ F.length) : (midF F pl).length = F.length + (if pl = 0 then 0 else 1) := by
  unfold midF
  split
  · rfl
  · rw [List.length_append, List.length_take, List.length_cons, List.length_drop]
    omega
theorem mid_head {F : List Nat} {pl : Nat} (hd : NumText.AllDigits F) (h : pl + 1 ≤ F.length) : (midF F pl).take 1 ≠ [45] := by
  cases F with
  | nil => simp at h
  | cons c F =>
    have hc := hd.head
    have : (midF (c :: F) pl).take 1 = [c] := by
      unfold midF
      split
      · rfl
      · rw [List.length_cons] at h ⊢
        obtain ⟨j, hj⟩ : ∃ j, F.length + 1 - pl = j + 1 := ⟨F.length - pl, by omega⟩
        rw [hj]
        rfl
    rw [this]
    simp
    omega
/-- what amount_of tells -/
def amtN (a : List Nat) : Int := if (a.take 1 == [45]) = true then -(dval (a.filter isDg) : Int) else (dval (a.filter isDg) : Int)
def amtOf (a : List Nat) (pl : Nat) : Option Int :=
  if 20 < a.length then none
  else if (a.filter isDg).isEmpty = true then none
  else if ((dval (a.filter isDg) ≤ 10 ^ 15) ∧ AT (amtN a) pl = a) then some (amtN a)
  else none
def bodyF (a : List Nat) : List Nat := if (a.take 1 == [45]) = true then a.drop 1 else a
def figF (b : List Nat) (pl : Nat) : List Nat := if pl = 0 then b else b.take (b.length - pl - 1) ++ b.drop (b.length - pl)
def dueOf (a : List Nat) (pl : Nat) : Option Int :=
  if pl ≠ 0 ∧ ((bodyF a).length < pl + 2 ∨ atN (bodyF a) (((bodyF a).length - pl - 1 : Nat) : Int) ≠ 46) then none
  else if (figF (bodyF a) pl).length ≤ pl ∨ (figF (bodyF a) pl).all isDg = false then none
  else if pl + 1 < (figF (bodyF a) pl).length ∧ (figF (bodyF a) pl).head? = some 48 then none
  else if 10 ^ 15 < dval (figF (bodyF a) pl) ∨ ((a.take 1 == [45]) = true ∧ dval (figF (bodyF a) pl) = 0) then none
  else some (if (a.take 1 == [45]) = true then -(dval (figF (bodyF a) pl) : Int) else (dval (figF (bodyF a) pl) : Int))
theorem AT_parts (n : Int) (pl : Nat) : ((AT n pl).take 1 == [45]) = decide (n < 0) ∧ bodyF (AT n pl) = midF (padF n.natAbs (pl + 1)) pl ∧ (AT n pl).filter isDg = padF n.natAbs (pl + 1) := by
  have hd := padF_digits n.natAbs (pl + 1)
  have hl : pl + 1 ≤ (padF n.natAbs (pl + 1)).length := by rw [padF_len]; omega
  by_cases h : n < 0
  · have e : AT n pl = 45 :: midF (padF n.natAbs (pl + 1)) pl := by unfold AT; rw [if_pos h]; rfl
    have t : ((AT n pl).take 1 == [45]) = true := by rw [e]; rfl
    refine ⟨by rw [t, decide_eq_true h], ?_, ?_⟩
    · unfold bodyF; rw [t, e]; rfl
    · rw [e, List.filter_cons, show isDg 45 = false by decide]
      simp only [Bool.false_eq_true, if_false]
      exact mid_filter hd pl
  · have e : AT n pl = midF (padF n.natAbs (pl + 1)) pl := by unfold AT; rw [if_neg h]; rfl
    have t : ((AT n pl).take 1 == [45]) = false := by
      rw [e]
      exact beq_false_of_ne (mid_head hd hl)
    refine ⟨by rw [t, decide_eq_false h], ?_, ?_⟩
    · unfold bodyF; rw [t, e]; rfl
    · rw [e]; exact mid_filter hd pl
theorem amt_iff {a : List Nat} {pl : Nat} {n : Int} (hp : pl ≤ 4) : amtOf a pl = some n ↔ n.natAbs ≤ 10 ^ 15 ∧ a = AT n pl := by
  constructor
  · intro h
    unfold amtOf at h
    split at h
    · cases h
    · split at h
      · cases h
      · split at h
        · rename_i q
          injection h with h
          rw [h] at q
          refine ⟨?_, q.2.symm⟩
          have : n.natAbs = dval (a.filter isDg) := by rw [← h]; unfold amtN; split <;> omega
          rw [this]; exact q.1
        · cases h
  · rintro ⟨h, rfl⟩
    obtain ⟨t, _, f⟩ := AT_parts n pl
    have hl : (AT n pl).length ≤ 20 := by
      unfold AT
      rw [List.length_append, mid_len (by rw [padF_len]; omega), padF_len]
      have : (TL.numL n.natAbs).length ≤ 16 := TL.numL_len (by decide) (by omega)
      split <;> split <;> simp <;> omega
    have v : dval ((AT n pl).filter isDg) = n.natAbs := by rw [f]; exact padF_val _ _
    have e : amtN (AT n pl) = n := by
      unfold amtN
      rw [t, v]
      by_cases q : n < 0
      · rw [decide_eq_true q, if_pos rfl]; omega
      · rw [decide_eq_false q, if_neg (by decide)]; omega
    unfold amtOf
    rw [if_neg (by omega), if_neg (by
      rw [f]
      cases c : padF n.natAbs (pl + 1) with
      | nil => have := padF_len n.natAbs (pl + 1); rw [c] at this; simp at this; omega
      | cons => simp), if_pos ⟨by rw [v]; exact h, by rw [e]⟩, e]
theorem fig_mid {F : List Nat} {pl : Nat} (h : pl + 1 ≤ F.length) : figF (midF F pl) pl = F := by
  unfold figF
  split
  · rename_i e; unfold midF; rw [if_pos e]
  · rename_i e
    have ml := mid_len (F := F) (pl := pl) (by omega)
    rw [if_neg e] at ml
    rw [ml]
    unfold midF
    rw [if_neg e, show F.length + 1 - pl - 1 = (F.take (F.length - pl)).length by rw [List.length_take]; omega, List.take_left, show F.length + 1 - pl = (F.take (F.length - pl)).length + 1 by rw [List.length_take]; omega]
    rw [List.drop_append, List.drop_eq_nil_of_le (by omega), show (F.take (F.length - pl)).length + 1 - (F.take (F.length - pl)).length = 1 by omega]
    show F.take (F.length - pl) ++ ([] ++ F.drop (F.length - pl)) = F
    rw [List.nil_append, List.take_append_drop]
theorem mid_fig {b : List Nat} {pl : Nat} (h : pl ≠ 0 → pl + 2 ≤ b.length ∧ atN b ((b.length - pl - 1 : Nat) : Int) = 46) : midF (figF b pl) pl = b := by
  unfold figF midF
  by_cases e : pl = 0
  · rw [if_pos e, if_pos e]
  · obtain ⟨h1, h2⟩ := h e
    rw [if_neg e, if_neg e]
    have l : (b.take (b.length - pl - 1) ++ b.drop (b.length - pl)).length - pl = (b.take (b.length - pl - 1)).length := by
      rw [List.length_append, List.length_take, List.length_drop]; omega
    rw [l, List.take_left, List.drop_left]
    have hi : b.length - pl - 1 < b.length := by omega
    have g : b[b.length - pl - 1] = 46 := by
      unfold atN at h2
      rw [Int.toNat_natCast, List.getD_eq_getElem?_getD, List.getElem?_eq_getElem hi] at h2
      exact h2
    rw [show b.drop (b.length - pl) = b.drop (b.length - pl - 1 + 1) by congr 1; omega, ← g, ← List.drop_eq_getElem_cons hi, List.take_append_drop]
theorem due_iff {a : List Nat} {pl : Nat} {n : Int} : dueOf a pl = some n ↔ n.natAbs ≤ 10 ^ 15 ∧ a = AT n pl := by
  constructor
  · intro h
    unfold dueOf at h
    split at h
    · cases h
    · rename_i c1
      split at h
      · cases h
      · rename_i c2
        split at h
        · cases h
        · rename_i c3
          split at h
          · cases h
          · rename_i c4
            injection h with h
            have hl : pl < (figF (bodyF a) pl).length := by
              rcases Nat.lt_or_ge pl (figF (bodyF a) pl).length with q | q
              · exact q
              · exact absurd (.inl q) c2
            have hd : NumText.AllDigits (figF (bodyF a) pl) := all_isDg.mp (by
              cases q : (figF (bodyF a) pl).all isDg with
              | true => rfl
              | false => exact absurd (.inr q) c2)
            have hv : dval (figF (bodyF a) pl) ≤ 10 ^ 15 := by
              rcases Nat.lt_or_ge (10 ^ 15) (dval (figF (bodyF a) pl)) with q | q
              · exact absurd (.inl q) c4
              · exact q
            have hF := pad_of (k := pl + 1) hd (by omega) hl (by
              rcases Nat.lt_or_ge (pl + 1) (figF (bodyF a) pl).length with q | q
              · exact .inr fun z => c3 ⟨q, z⟩
              · exact .inl (by omega))
            have hb := mid_fig (b := bodyF a) (pl := pl) fun e => by
              refine ⟨?_, ?_⟩
              · rcases Nat.lt_or_ge (bodyF a).length (pl + 2) with q | q
                · exact absurd ⟨e, .inl q⟩ c1
                · exact q
              · rcases Nat.decEq (atN (bodyF a) (((bodyF a).length - pl - 1 : Nat) : Int)) 46 with q | q
                · exact absurd ⟨e, .inr q⟩ c1
                · exact q
            have na : n.natAbs = dval (figF (bodyF a) pl) := by rw [← h]; split <;> omega
            refine ⟨by rw [na]; exact hv, ?_⟩
            unfold AT
            rw [na, ← hF, hb]
            cases t : (a.take 1 == [45]) with
            | true =>
              rw [t, if_pos rfl] at h
              have : dval (figF (bodyF a) pl) ≠ 0 := fun z => c4 (.inr ⟨t, z⟩)
              rw [if_pos (by omega)]
              unfold bodyF
              rw [t, if_pos rfl]
              cases a with
              | nil => cases t
              | cons c l =>
                simp at t
                rw [t]; rfl
            | false =>
              rw [t, if_neg (by decide)] at h
              rw [if_neg (by omega)]
              unfold bodyF
              rw [t, if_neg (by decide)]; rfl
  · rintro ⟨h, rfl⟩
    obtain ⟨t, b, _⟩ := AT_parts n pl
    have hd := padF_digits n.natAbs (pl + 1)
    have hl : pl + 1 ≤ (padF n.natAbs (pl + 1)).length := by rw [padF_len]; omega
    have v := padF_val n.natAbs (pl + 1)
    have f := fig_mid hl
    have ml := mid_len (F := padF n.natAbs (pl + 1)) (pl := pl) (by omega)
    unfold dueOf
    rw [b, f, if_neg (by
      rintro ⟨e, q | q⟩
      · rw [ml, if_neg e] at q; omega
      · apply q
        rw [ml, if_neg e]
        unfold midF atN
        rw [if_neg e, Int.toNat_natCast, List.getD_eq_getElem?_getD, List.getElem?_append_right (by rw [List.length_take]; omega),
          show (padF n.natAbs (pl + 1)).length + 1 - pl - 1 - (List.take ((padF n.natAbs (pl + 1)).length - pl) (padF n.natAbs (pl + 1))).length = 0 by rw [List.length_take]; omega]
        rfl), if_neg (by
      rintro (q | q)
      · omega
      · rw [all_isDg.mpr hd] at q; cases q), if_neg (by
      rintro ⟨q, z⟩
      exact padF_head q (by omega) z), t, v, if_neg (by
      rintro (q | ⟨q, z⟩)
      · omega
      · have := of_decide_eq_true q; omega)]
    congr 1
    by_cases q : n < 0
    · rw [decide_eq_true q, if_pos rfl]; omega
    · rw [decide_eq_false q, if_neg (by decide)]; omega
theorem cut_negto (z : Str) {k : Int} (h : 0 < k) (h2 : k ≤ z.length) : tl (cutS z none (some (-k))) = (tl z).take (z.length - k.toNat) := by
  rw [tl_cut]
  show ((tl z).drop 0).take ((if -k < 0 then (-k + (z.length : Int)).toNat else min (-k).toNat z.length) - 0) = _
  rw [if_pos (by omega), List.drop_zero, Nat.sub_zero, show (-k + (z.length : Int)).toNat = z.length - k.toNat by omega]
theorem cut_negfrom (z : Str) {k : Int} (h : 0 < k) (h2 : k ≤ z.length) : tl (cutS z (some (-k)) none) = (tl z).drop (z.length - k.toNat) := by
  rw [tl_cut]
  show ((tl z).drop (if -k < 0 then (-k + (z.length : Int)).toNat else min (-k).toNat z.length)).take (z.length - (if -k < 0 then (-k + (z.length : Int)).toNat else min (-k).toNat z.length)) = _
  rw [if_pos (by omega), show (-k + (z.length : Int)).toNat = z.length - k.toNat by omega]
  exact List.take_of_length_le (by rw [List.length_drop, len_tl]; omega)
theorem mul_zero_txt (k : Int) : tl (Txt.mul ("0" : Str) k) = List.replicate k.toNat 48 := by
  unfold Txt.mul
  by_cases h : k < 1
  · rw [if_pos h, show k.toNat = 0 by omega]; rfl
  · rw [if_neg h]
    by_cases h1 : k = 1
    · subst h1; rfl
    · rw [if_neg (by simp [h1]; decide)]
      have : ∀ (m : Nat) (acc : Array Nat), ((List.replicate m ("0" : Str).cps).foldl (· ++ ·) acc).toList = acc.toList ++ List.replicate m 48 := by
        intro m
        induction m with
        | zero => intro acc; simp
        | succ m ih =>
          intro acc
          rw [List.replicate_succ, List.foldl_cons, ih, Array.toList_append, List.replicate_succ, List.append_assoc]
          rfl
      show ((List.replicate k.toNat ("0" : Str).cps).foldl (· ++ ·) #[]).toList = _
      rw [this]
      rfl
theorem amt_due {a : List Nat} {pl : Nat} (hp : pl ≤ 4) : amtOf a pl = dueOf a pl := by
  cases e : amtOf a pl with
  | some n => exact (due_iff.mpr ((amt_iff hp).mp e)).symm
  | none =>
    cases e2 : dueOf a pl with
    | none => rfl
    | some n =>
      rw [(amt_iff hp).mpr (due_iff.mp e2)] at e
      cases e
/-- a comprehension whose parts leave new objects behind -/
theorem lcL_grow {lg : LG} {ft fe : LE} {ds : Sl} (t : LV → Bool) (f : LV → LV) : ∀ (xs acc : List LV) (S : Sto),
    (∀ v ∈ xs, ∀ S, ∃ ds1 U1 U2, lg v S ds = some ds1 ∧ ft ds1 S = .ok (.bl (t v)) (S ++ U1) ∧ (t v = true → fe ds1 (S ++ U1) = .ok (f v) (S ++ U1 ++ U2))) →
    acc.length + xs.length ≤ 16777216 →
    ∃ U, lcL lg ft fe ds xs acc S = .ok (.ref (S ++ U).length) (S ++ U ++ [.lst (acc ++ (xs.filter t).map f)])
  | [], acc, S, h, hs => ⟨[], by
    unfold lcL small
    rw [if_pos (decide_eq_true (by simpa using hs))]
    simp⟩
  | v :: vs, acc, S, h, hs => by
    obtain ⟨ds1, U1, U2, h1, h2, h3⟩ := h v (List.mem_cons_self ..) S
    have hr := fun u (hu : u ∈ vs) => h u (List.mem_cons_of_mem _ hu)
    rw [List.length_cons] at hs
    unfold lcL
    rw [h1]
    simp only
    rw [h2]
    cases ht : t v with
    | true =>
      simp only
      rw [h3 ht]
      simp only
      obtain ⟨U, hU⟩ := lcL_grow t f vs (acc ++ [f v]) (S ++ U1 ++ U2) hr (by simp; omega)
      exact ⟨U1 ++ U2 ++ U, by rw [hU]; simp [List.filter_cons, ht]⟩
    | false =>
      simp only
      obtain ⟨U, hU⟩ := lcL_grow t f vs acc (S ++ U1) hr (by omega)
      exact ⟨U1 ++ U, by rw [hU]; simp [List.filter_cons, ht]⟩
end LL


set_option Elab.async false
set_option linter.all false
set_option maxRecDepth 100000
set_option maxHeartbeats 4000000
/-! The logical layer: a tuple times 0, 1, ..; isinstance of what was caught and several classes. -/
namespace LL
open PySem PySem.Spec PyProof.Rows L2

theorem tup_mul1 (l : Addr) (items : Array Value) (n : Nat) (dd : Option Addr) (sl : Array (Option Value)) (u : Tok) :
    Meets (Builtin.«tuple.__mul__» ⟨[.ref l, .int 1 u], []⟩) (fun _ R s => s.heap.get? l = some { cls := .type "tuple", dict := dd, data := .seq items n, slots := sl } ∧ R (.ok (.ret (Value.ref l))) s) :=
  .of_wp fun prog w A R s h => by
    obtain ⟨hp, g, d, tk, os⟩ := s
    obtain ⟨hl, h⟩ := h
    have f1 := AutoSeq1.idx_int
    wp_walk using wpAny_loadPart' hl
    exact ⟨_, rfl, h⟩
theorem tup_mul0 (l : Addr) (items : Array Value) (n : Nat) (dd : Option Addr) (sl : Array (Option Value)) (u : Tok) (hi : items.isEmpty = false) :
    Meets (Builtin.«tuple.__mul__» ⟨[.ref l, .int 0 u], []⟩) (fun _ R s => s.heap.get? l = some { cls := .type "tuple", dict := dd, data := .seq items n, slots := sl } ∧
      R (.ok (.ret (Value.ref s.heap.objs.size))) { s with heap := s.heap.push { cls := Value.type "tuple", data := Data.seq #[] }, toks := s.toks }) :=
  .of_wp fun prog w A R s h => by
    obtain ⟨hp, g, d, tk, os⟩ := s
    obtain ⟨hl, h⟩ := h
    have f1 := AutoSeq1.idx_int
    wp_walk using wpAny_loadPart' hl
    exact ⟨_, rfl, h⟩
def rRep01 (K : PySem.W.Frag) : R2 := fun x y H Q => ∃ l k xs, x = .ref l ∧ y = .int k ∧ SqT K H l xs ∧ xs ≠ [] ∧ ((k = 1 ∧ Q x H) ∨ (k = 0 ∧ ∀ p, H p = none → Q (.ref p) (upd H p (.tup []))))
theorem op_rep01 {X : Cx} : OpR X (binaryOp .Mult) (rRep01 X.K) := by
  intro pins s σ H x y v u Q I rx ry h
  obtain ⟨l, k, xs, rfl, rfl, hT, hne, q⟩ := h
  cases rx
  obtain ⟨t, rfl⟩ := ry
  obtain ⟨its, r, ⟨⟨cls, dd, data, sl⟩, ho, hc, n, hd⟩, hs⟩ := I.tuple hT
  simp only at hc hd
  subst hc hd
  have hle : its.length = xs.length := r.length.symm
  have hn : its ≠ [] := fun e => hne (by
    rw [e] at hle
    exact List.eq_nil_of_length_eq_zero hle.symm)
  have hi : its.toArray.isEmpty = false := by
    cases its with
    | nil => exact absurd rfl hn
    | cons a b => rfl
  rcases q with ⟨rfl, q⟩ | ⟨rfl, q⟩
  · refine wpAny_binaryOp_repeat_ref (T := "tuple") (U := "int") (by decide) ⟨_, ho, rfl⟩ (fun s' => typeIs_int s' 1 t) noFill_tuple_mul F.fills_int_mul F.slot_int_rmul repeat_tuple F.slot_int_index.lookup
      (call_meets F.slot_int_rmul (typeIs_int s 1 t) F.entry_int_rmul (F.args_int_rmul_2 _ _) (int_rmul_tuple 1 t l its.toArray n dd sl)
        ⟨ho, rfl, ⟨_, ho, rfl⟩, call_meets F.slot_tuple_mul ⟨_, ho, rfl⟩ F.entry_tuple_mul (F.args_tuple_mul_2 _ _) (tup_mul1 l its.toArray n dd sl t) ⟨ho, ?_⟩⟩)
    exact ⟨.ref l, H, I, rfl, q⟩
  · refine wpAny_binaryOp_repeat_ref (T := "tuple") (U := "int") (by decide) ⟨_, ho, rfl⟩ (fun s' => typeIs_int s' 0 t) noFill_tuple_mul F.fills_int_mul F.slot_int_rmul repeat_tuple F.slot_int_index.lookup
      (call_meets F.slot_int_rmul (typeIs_int s 0 t) F.entry_int_rmul (F.args_int_rmul_2 _ _) (int_rmul_tuple 0 t l its.toArray n dd sl)
        ⟨ho, rfl, ⟨_, ho, rfl⟩, call_meets F.slot_tuple_mul ⟨_, ho, rfl⟩ F.entry_tuple_mul (F.args_tuple_mul_2 _ _) (tup_mul0 l its.toArray n dd sl t hi) ⟨ho, ?_⟩⟩)
    refine ⟨.ref s.heap.objs.size, _, I.laid (t' := s.toks) (o := .tup []) (fun b ob q => Heap.get?_push_of_some _ q) (Nat.le_refl _) ?_, rfl, q _ (I.hok.fresh (Nat.le_refl _))⟩
    exact ⟨by rw [sizeLine_eq]; decide, [], .nil, IsTup.new _ _⟩
/-- a tuple times 0 or 1 -/
def mulTL : Op2
  | .tup (x :: xs), .int k, S => if k = 1 then .ok (.tup (x :: xs)) S else if k = 0 then .ok (.tup []) S else .no
  | _, _, _ => .no
theorem ol_mulT {K : PySem.W.Frag} {T : Env1} : OpL K T (rRep01 K) mulTL := fun m S H v w x y Q W r rv rw h => by
  unfold mulTL at h
  split at h
  · rename_i u us k
    have rv0 := rv
    obtain ⟨a, vs, rfl, ht, hs⟩ := rv.tupE
    refine ⟨a, k, vs, rfl, rw, SqT.of ht, fun e => ?_, ?_⟩
    · rw [e] at hs
      have := hs.len
      simp at this
    · split at h
      · rename_i e
        exact .inl ⟨e, h.here r rv0⟩
      · split at h
        · rename_i e
          exact .inr ⟨e, fin_tup r RVs.nil h⟩
        · exact h.elim
  · exact h.elim
section
variable {X : Cx} {T : Env1} {ξ : Xi} {W : WX} {a b : Expr} {fa fb : LE} {pos : Pos}
theorem pl_mulT (ha : PE X a (tL X.K T ξ W fa)) (hb : PE X b (tL X.K T ξ W fb)) : PE X (.BinOp a .Mult b pos) (tL X.K T ξ W (lOp mulTL fa fb)) := pl_bin op_rep01 ol_mulT ha hb
end
/-! ### isinstance(e, (C, D, ..)) -/
def rIsET (K : PySem.W.Frag) (D a : Addr) : List V → Hp → VK → Prop := fun xs H Q => ∃ (tp : Addr) (cs : List V) (us : List Value) (b : Bool), xs = [.ref a, .ref tp] ∧ H tp = some (.tup cs) ∧ Paired ClsV cs us ∧ PySem.W.kitAny K (.ref D) us = some b ∧ Q (.bl b) H
theorem call_isET {X : Cx} {a D : Addr} {oe : Obj} {pn : List (Addr × Obj)} (C : ExcC X.K D) (hz : Zc (.ref D) none oe) (hf : ∃ vs, oe.data = .fields vs) : CallR (X.suite a ((a, oe) :: pn)) (.builtin "isinstance") (rIsET X.K D a) := by
  intro pins s σ H xs us Q I r h
  obtain ⟨tp, cs, ws, b, rfl, hT, k, e, q⟩ := h
  obtain ⟨u1, u2, rfl, r1, r2⟩ := vals2 r
  cases (show u1 = Value.ref a from r1)
  cases (show u2 = Value.ref tp from r2)
  obtain ⟨_, its, rv, o, h1, h2, n, h3⟩ := (show ObjOk X.prog X.w H s.heap tp (.tup cs) from I.hok tp _ hT)
  have e3 := ClsV.all k rv
  subst e3
  obtain ⟨oc, od, dt, sl⟩ := o
  simp only at h2 h3
  subst h2 h3
  obtain ⟨hget, _⟩ := I.pin (a, oe) (List.mem_append.mpr (.inl List.mem_cons_self))
  obtain ⟨vs, hv⟩ := hf
  have J : PySem.W.InstAt s.heap a oe D none := by
    obtain ⟨oc, od, oda, osl⟩ := oe
    obtain ⟨h1, h2⟩ := hz
    dsimp only at h1 h2 hv
    subst h1 h2 hv
    exact ⟨hget, rfl, rfl, trivial⟩
  exact PySem.W.kia_tup (PySem.W.handS_kitx_exc C.hg C.hk C.hs C.hd C.ha C.hn C.ht C.hm) I.kIn J h1 e (fun z => nomatch z) fun tk => ⟨.bl b, H, I.kept (t' := tk) fun _ _ z => z, rfl, q⟩
section
variable {X : Cx} {T : Env1} {W : WX} {i : Nat} {pos : Pos}
theorem pl_isET {a : Addr} {oe : Obj} {cls : Value} {d : Option Addr} {pn : List (Addr × Obj)} {f : Nat → Option Bool} {y : Str} {es : List Expr} {x1} {cs : List V} {us : List Value} {ta : TA} {p pe ptp : Pos} {W0 : WX} (hX : Takes X W0) (hz : Zc cls d oe) (hv : ∃ vs, oe.data = .fields vs)
    (hC : PA (X.suite a ((a, oe) :: pn)) es ta) (hcs : ∀ σ H (Q : List V → Hp → Prop), Q cs H → ta σ H Q) (hu : Paired ClsV cs us) (hl : cs.length ≤ 1000)
    (hf : ∀ c b, f c = some b → ExcC X.K (T.ca c) ∧ PySem.W.kitAny X.K (.ref (T.ca c)) us = some b)
    (hg : Gl X "isinstance") (hm : X.mg "isinstance" = none) (hN : X.N[i]? = some y := by rfl) (hvv : Vis X.env.scope y := by first | exact Or.inl rfl | exact Or.inr (Or.inl rfl) | exact Or.inr (Or.inr rfl)) (hd : (y == ("__debug__" : Str)) = false := by decide)
    (hcd : (y == ("__classdict__" : Str)) = false := by decide)
    (he : starEach (.Name y pe :: [.Tuple es x1 ptp]) X.env = (false, eval (.Name y pe) X.env) :: starEach [.Tuple es x1 ptp] X.env := by rfl) (hpl : (backTo pos (starEach [.Tuple es x1 ptp] X.env)).any (·.1) = false := by rfl) (hst : starEach (.Tuple es x1 ptp :: []) X.env = (false, eval (.Tuple es x1 ptp) X.env) :: starEach [] X.env := by rfl) :
    PE (X.suite a ((a, oe) :: pn)) (.Call (.Name "isinstance" p) [.Name y pe, .Tuple es x1 ptp] [] pos) (tL X.K T (ξE T a cls d) W (lIsE i f)) := by
  refine ⟨fun pins s σ H Q I h => ?_⟩
  obtain ⟨m, S, ds, r, rs, h⟩ := h
  unfold lIsE at h
  split at h
  · rename_i c fs hi
    split at h
    · rename_i b hb
      obtain ⟨xx, h1, h2⟩ := rs.at_ i _ hi
      obtain ⟨a', rfl, ea, ec, ef, ed⟩ := h2
      subst ea ec ed
      obtain ⟨C0, k0⟩ := hf c b hb
      refine (pe_callB (X := X.suite a' ((a', oe) :: pn)) (call_isET (X := X) (a := a') (D := T.ca c) (oe := oe) (pn := pn) C0 hz hv) hg hm (by decide +kernel) (pa_cons (pe_var (i := i) hN hvv hd hcd) (pa_cons (pe_tup hC) pa_nil hst) he) (by decide) (by decide) he hpl).run pins s σ H Q I ?_
      refine ⟨_, h1, hcs _ _ _ ⟨by rw [sizeLine_eq]; omega, fun tp hp => ?_⟩⟩
      have E : Ext m H m (upd H tp (.tup cs)) := Ext.side hp
      exact ⟨tp, cs, us, b, rfl, upd_same, hu, k0, h _ _ _ E (r.side hp) rfl⟩
    · exact h.elim
  · exact h.elim
end
section
variable {k : Int} {x : LV} {xs : List LV} {S : Sto}
@[simp] theorem mulT_1 : mulTL (.tup (x :: xs)) (.int 1) S = .ok (.tup (x :: xs)) S := (rfl)
@[simp] theorem mulT_0 : mulTL (.tup (x :: xs)) (.int 0) S = .ok (.tup []) S := (rfl)
end
end LL


set_option Elab.async false
set_option linter.all false
set_option maxRecDepth 100000
set_option maxHeartbeats 2000000
/-! The logical layer: texts by their colons, names, paths. -/
namespace LL
open PySem PySem.Spec PyProof.Rows L2

/-- the parts of a text between its colons -/
def sp : List Nat → List (List Nat)
  | [] => [[]]
  | c :: r => if c = 58 then [] :: sp r else match sp r with
    | h :: t => (c :: h) :: t
    | [] => [[c]]
theorem sp_col (r : List Nat) : sp (58 :: r) = [] :: sp r := by
  show (if (58 : Nat) = 58 then [] :: sp r else _) = _
  exact if_pos rfl
theorem sp_oth {c : Nat} (r : List Nat) (h : c ≠ 58) : sp (c :: r) = match sp r with | h :: t => (c :: h) :: t | [] => [[c]] := by
  show (if c = 58 then [] :: sp r else match sp r with | h :: t => (c :: h) :: t | [] => [[c]]) = _
  exact if_neg h
theorem sp_ne : ∀ a : List Nat, sp a ≠ []
  | [] => by simp [sp]
  | c :: r => by
    unfold sp
    split
    · simp
    · split <;> simp
theorem spl_sp : ∀ (a acc : List Nat), TL.spl [58] 0 acc a = match sp a with | h :: t => (acc ++ h) :: t | [] => [acc]
  | [], acc => by rw [TL.spl_nil]; simp [sp]
  | c :: r, acc => by
    by_cases h : c = 58
    · subst h
      rw [TL.spl_hit (by rfl)]
      show acc :: TL.spl [58] 0 [] r = _
      rw [spl_sp r [], sp_col]
      cases e : sp r with
      | nil => exact absurd e (sp_ne r)
      | cons x t => simp
    · rw [TL.spl_miss (by
        unfold TL.pre
        simp
        exact h), spl_sp r, sp_oth r h]
      cases e : sp r with
      | nil => exact absurd e (sp_ne r)
      | cons x t => simp
abbrev colT : Str := (":" : Str)
theorem split_sp (z : Str) : (Txt.split z colT).map tl = sp (tl z) := by
  have h : (Txt.split z colT).map TL.tl = TL.spl (TL.tl colT) 0 [] (TL.tl z) := TL.split_spl z colT (by decide) (TL.kind_ok (by decide +kernel))
  have h2 : (Txt.split z colT).map tl = TL.spl [58] 0 [] (tl z) := h
  rw [h2, spl_sp]
  cases e : sp (tl z) with
  | nil => exact absurd e (sp_ne _)
  | cons x t => rfl
theorem split_len (z : Str) : (Txt.split z colT).length = (sp (tl z)).length := by rw [← split_sp, List.length_map]
theorem join_col (ys : List Str) : tl (Txt.join colT ys) = TL.joinL [58] (ys.map tl) := by
  rw [TL.join_eq]
  exact TL.tl_join colT ys
theorem join_sp : ∀ a : List Nat, TL.joinL [58] (sp a) = a
  | [] => rfl
  | c :: r => by
    have ih := join_sp r
    by_cases h : c = 58
    · subst h
      rw [sp_col]
      cases e : sp r with
      | nil => exact absurd e (sp_ne r)
      | cons x t =>
        rw [e] at ih
        show [] ++ ([58] ++ TL.joinL [58] (x :: t)) = _
        rw [ih]; rfl
    · rw [sp_oth r h]
      cases e : sp r with
      | nil => exact absurd e (sp_ne r)
      | cons x t =>
        rw [e] at ih
        cases t with
        | nil => show c :: x = _; rw [← ih]; rfl
        | cons y t =>
          show (c :: x) ++ ([58] ++ TL.joinL [58] (y :: t)) = _
          rw [← ih]; rfl
theorem sp_join {ps : List (List Nat)} (h : ps ≠ []) (hp : ∀ p ∈ ps, 58 ∉ p) : sp (TL.joinL [58] ps) = ps := by
  have e := TL.spl_join (S := []) h hp
  rw [spl_sp] at e
  cases q : sp (TL.joinL [58] ps) with
  | nil => exact absurd q (sp_ne _)
  | cons x t => rw [q] at e; exact e
/-- what a name is -/
def nameOk (a : List Nat) : Bool := decide ((a.length : Int) ≤ 12) && a.all (fun c => decide (c ∈ tl abcT)) && !(a == [])
def nameV : LV → Bool
  | .str z => nameOk (tl z)
  | _ => false
def pathOk (a : List Nat) : Bool := decide ((sp a).length ≤ 6) && (sp a).all nameOk
theorem abc_iff (c : Nat) : c ∈ tl abcT ↔ 97 ≤ c ∧ c ≤ 122 := by
  rw [show tl abcT = [97, 98, 99, 100, 101, 102, 103, 104, 105, 106, 107, 108, 109, 110, 111, 112, 113, 114, 115, 116, 117, 118, 119, 120, 121, 122] by decide]
  simp
  omega
theorem nameOk_free {a : List Nat} (h : nameOk a = true) : 58 ∉ a := fun m => by
  unfold nameOk at h
  simp only [Bool.and_eq_true] at h
  have := (abc_iff 58).mp (of_decide_eq_true (List.all_eq_true.mp h.1.2 58 m))
  omega
/-- a list's own loop, where each turn leaves the store -/
theorem for_fixAux (lg : LG) (fb : LS) (G : Sl → Prop) (n : Nat) (xs : List LV) (S : Sto) (hn : S[n]? = some (.lst xs))
    (h : ∀ v ∈ xs, ∀ ds ds1, G ds → lg v S ds = some ds1 → match fb ds1 S with | .nx ds2 S2 => S2 = S ∧ G ds2 | .ct ds2 S2 => S2 = S ∧ G ds2 | _ => True) :
    ∀ (k i : Nat) (ds : Sl), i + k = xs.length → G ds → forK (itRef n xs.length) lg fb k i ds S = forL lg fb (xs.drop i) ds S
  | 0, i, ds, e, g => by
    have : xs.drop i = [] := List.drop_eq_nil_of_le (by omega)
    rw [this]
    unfold forK forL
    show (if refF n xs.length S = true then _ else _) = _
    unfold refF
    rw [hn]
    simp
  | k + 1, i, ds, e, g => by
    have hi : i < xs.length := by omega
    rw [List.drop_eq_getElem_cons hi]
    have e1 : xs[i]? = some xs[i] := List.getElem?_eq_getElem hi
    unfold forK forL
    have e2 : (itRef n xs.length).item i S = some xs[i] := by
      show refI n xs.length i S = _
      unfold refI
      rw [hn]
      simp [e1]
    rw [e2]
    simp only
    cases hl : lg xs[i] S ds with
    | none => rfl
    | some ds1 =>
      simp only
      have q := h xs[i] (List.getElem_mem hi) ds ds1 g hl
      cases h2 : fb ds1 S with
      | nx ds2 S2 => rw [h2] at q; obtain ⟨rfl, g2⟩ := q; exact for_fixAux lg fb G n xs S2 hn h k (i + 1) ds2 (by omega) g2
      | ct ds2 S2 => rw [h2] at q; obtain ⟨rfl, g2⟩ := q; exact for_fixAux lg fb G n xs S2 hn h k (i + 1) ds2 (by omega) g2
      | _ => rfl
theorem forS_fix {lg : LG} {fb : LS} {n : Nat} {xs : List LV} {S : Sto} {ds : Sl} (G : Sl → Prop) (hn : S[n]? = some (.lst xs))
    (h : ∀ v ∈ xs, ∀ ds ds1, G ds → lg v S ds = some ds1 → match fb ds1 S with | .nx ds2 S2 => S2 = S ∧ G ds2 | .ct ds2 S2 => S2 = S ∧ G ds2 | _ => True) (g : G ds) :
    forS lg fb ds (.ok (itRef n xs.length) S) = forL lg fb xs ds S := by
  show forK (itRef n xs.length) lg fb xs.length 0 ds S = _
  rw [for_fixAux lg fb G n xs S hn h _ _ _ (by omega) g, List.drop_zero]
theorem iter_ref {n : Nat} {xs : List LV} {S : Sto} (hn : S[n]? = some (.lst xs)) : iterO (.ref n) S = .ok (itRef n xs.length) S := by simp [iterO, hn]
theorem len_ref {n : Nat} {xs : List LV} {S : Sto} (hn : S[n]? = some (.lst xs)) : lenL [.ref n] S = .ok (.int xs.length) S := by simp [lenL, lenO, hn]
/-- a value that may be asked as a name -/
structure Nv (S : Sto) (v : LV) : Prop where
  ok : Okv S v
  sz : ∀ z, v = .str z → z.length ≤ 16777216
theorem Nv.nx {S : Sto} {v : LV} (h : Nv S v) : isX v = false := h.ok.nx
theorem Nv.str {S : Sto} {z : Str} (h : z.length ≤ 16777216) : Nv S (.str z) := ⟨Okv.str z, fun y e => by cases e; exact h⟩
theorem starts_pre {x y : Str} (hy : tl y ≠ []) : Txt.startswith x y = ((tl x).take (tl y).length == tl y) := by
  have h := TL.at_iff (x := x) (y := y) hy 0
  have hl : TL.tl x = tl x := rfl
  have hl2 : TL.tl y = tl y := rfl
  rw [hl, hl2, List.drop_zero] at h
  cases c : ((tl x).take (tl y).length == tl y) with
  | true =>
    obtain ⟨h1, h2⟩ := h.mpr c
    unfold Txt.startswith
    rw [decide_eq_true h1, h2]; rfl
  | false =>
    cases q : Txt.startswith x y with
    | false => rfl
    | true =>
      unfold Txt.startswith at q
      rw [Bool.and_eq_true] at q
      have := h.mp ⟨of_decide_eq_true q.1, q.2⟩
      have c' : TL.pre (tl y) (tl x) = false := c
      rw [c'] at this
      cases this
theorem sum_le : ∀ (ys : List Str) (m : Nat), (∀ y ∈ ys, y.length ≤ m) → (ys.map (·.length)).sum ≤ ys.length * m
  | [], m, _ => by simp
  | y :: ys, m, h => by
    have := sum_le ys m fun z hz => h z (List.mem_cons_of_mem _ hz)
    have hy := h y (List.mem_cons_self ..)
    rw [List.map_cons, List.sum_cons, List.length_cons, Nat.add_mul]
    omega
/-- a comprehension whose parts leave new objects behind, where something stands -/
theorem lcL_growP {lg : LG} {ft fe : LE} {ds : Sl} (P : Sto → Prop) (hP : ∀ S U, P S → P (S ++ U)) (t : LV → Bool) (f : LV → LV) : ∀ (xs acc : List LV) (S : Sto), P S →
    (∀ v ∈ xs, ∀ S, P S → ∃ ds1 U1 U2, lg v S ds = some ds1 ∧ ft ds1 S = .ok (.bl (t v)) (S ++ U1) ∧ (t v = true → fe ds1 (S ++ U1) = .ok (f v) (S ++ U1 ++ U2))) →
    acc.length + xs.length ≤ 16777216 →
    ∃ U, lcL lg ft fe ds xs acc S = .ok (.ref (S ++ U).length) (S ++ U ++ [.lst (acc ++ (xs.filter t).map f)])
  | [], acc, S, p, h, hs => ⟨[], by
    unfold lcL small
    rw [if_pos (decide_eq_true (by simpa using hs))]
    simp⟩
  | v :: vs, acc, S, p, h, hs => by
    obtain ⟨ds1, U1, U2, h1, h2, h3⟩ := h v (List.mem_cons_self ..) S p
    have hr := fun u (hu : u ∈ vs) => h u (List.mem_cons_of_mem _ hu)
    rw [List.length_cons] at hs
    unfold lcL
    rw [h1]
    simp only
    rw [h2]
    cases ht : t v with
    | true =>
      simp only
      rw [h3 ht]
      simp only
      obtain ⟨U, hU⟩ := lcL_growP P hP t f vs (acc ++ [f v]) (S ++ U1 ++ U2) (hP _ _ (hP _ _ p)) hr (by simp; omega)
      exact ⟨U1 ++ U2 ++ U, by rw [hU]; simp [List.filter_cons, ht]⟩
    | false =>
      simp only
      obtain ⟨U, hU⟩ := lcL_growP P hP t f vs acc (S ++ U1) (hP _ _ p) hr (by omega)
      exact ⟨U1 ++ U, by rw [hU]; simp [List.filter_cons, ht]⟩
theorem get_more {S U : Sto} {n : Nat} {o : LO} (h : S[n]? = some o) : (S ++ U)[n]? = some o := by
  rw [List.getElem?_append_left (List.getElem?_eq_some_iff.mp h).1]; exact h
theorem cut_take {α : Type} (xs : List α) {j : Int} (h : 0 ≤ j) : cutL xs none (some j) = xs.take j.toNat := by
  unfold cutL
  show (xs.drop 0).take ((if j < 0 then (j + (xs.length : Int)).toNat else min j.toNat xs.length) - 0) = _
  rw [if_neg (by omega), List.drop_zero, Nat.sub_zero, ← List.take_take, List.take_length]
theorem sl_ref {S : Sto} {n : Nat} {xs : List LV} {lo hi : Option Int} (h : S[n]? = some (.lst xs)) : slO (.ref n) lo hi S = .ok (.ref S.length) (S ++ [.lst (cutL xs lo hi)]) := by
  simp only [slO, h]
/-- texts joined by colons -/
theorem joinC {n : Nat} {S : Sto} {ys : List Str} {m : Nat} (hn : S[n]? = some (.lst (ys.map .str))) (h : ∀ y ∈ ys, y.length ≤ m) (hs : ys.length * m + ys.length ≤ 16777216) : joinL2 (.str colT) [.ref n] S = .ok (.str (Txt.join colT ys)) S := by
  have := sum_le ys m h
  have c1 : colT.length = 1 := rfl
  simp only [joinL2, itemsO, hn, strsL_map, c1]
  rw [if_pos (decide_eq_true (by omega))]
theorem eqv_strs : ∀ (zs ws : List Str), PyData.eqvAll (zs.map PyData.str) (ws.map PyData.str) = (zs.map tl == ws.map tl)
  | [], [] => rfl
  | [], _ :: _ => rfl
  | _ :: _, [] => rfl
  | z :: zs, w :: ws => by
    have e : (z == w) = (tl z == tl w) := by
      by_cases h : z = w
      · subst h; rw [beq_self_eq_true, beq_self_eq_true]
      · rw [beq_false_of_ne h, beq_false_of_ne fun k => h (tl_ext k)]
    show (PyData.eqv (.str z) (.str w) && PyData.eqvAll (zs.map PyData.str) (ws.map PyData.str)) = _
    rw [eqv_strs zs ws]
    show ((z == w) && _) = (tl z == tl w && (zs.map tl == ws.map tl))
    rw [e]
theorem shaped_strs {zs : List Str} (h : ∀ z ∈ zs, PyData.strOk z = true) : SeqAt.shaped (.list (zs.map .str)) = true := by
  have l := strs_lay zs h
  unfold SeqAt.shaped PyData.canLay0 PyData.depth
  rw [l.1, l.2]
  rfl
theorem dat_strs {S : Sto} {n : Nat} {zs : List Str} (hn : S[n]? = some (.lst (zs.map .str))) : dat S 60 (.ref n) = some (.list (zs.map .str)) := by
  show (match S[n]? with | some (.lst xs) => _ | _ => none) = _
  rw [hn]
  simp only
  rw [seqO_strs]
theorem eqV_strs {S : Sto} {n k : Nat} {zs ws : List Str} (hn : S[n]? = some (.lst (zs.map .str))) (hk : S[k]? = some (.lst (ws.map .str))) (h : ∀ z ∈ zs, PyData.strOk z = true) (h2 : ∀ z ∈ ws, PyData.strOk z = true) : eqV2 (.ref n) (.ref k) S = some (zs.map tl == ws.map tl) := by
  unfold eqV2
  rw [show eqS (.ref n) (.ref k) = none from rfl]
  simp only
  rw [dat_strs hn, dat_strs hk]
  simp only
  rw [shaped_strs h, shaped_strs h2, ← eqv_strs]
  rfl
theorem eq_strs {S : Sto} {n k : Nat} {zs ws : List Str} (hn : S[n]? = some (.lst (zs.map .str))) (hk : S[k]? = some (.lst (ws.map .str))) (h : ∀ z ∈ zs, PyData.strOk z = true) (h2 : ∀ z ∈ ws, PyData.strOk z = true) : eqL (.ref n) (.ref k) S = .ok (.bl (zs.map tl == ws.map tl)) S := by
  unfold eqL; rw [eqV_strs hn hk h h2]
theorem ne_strs {S : Sto} {n k : Nat} {zs ws : List Str} (hn : S[n]? = some (.lst (zs.map .str))) (hk : S[k]? = some (.lst (ws.map .str))) (h : ∀ z ∈ zs, PyData.strOk z = true) (h2 : ∀ z ∈ ws, PyData.strOk z = true) : neL (.ref n) (.ref k) S = .ok (.bl !(zs.map tl == ws.map tl)) S := by
  unfold neL; rw [eqV_strs hn hk h h2]
/-- the signs of a text between its colons are its own -/
theorem sp_all (p : Nat → Bool) : ∀ a : List Nat, (sp a).all (fun x => x.all p) = a.all (fun c => c == 58 || p c)
  | [] => rfl
  | c :: r => by
    by_cases h : c = 58
    · subst h
      rw [sp_col, List.all_cons, List.all_cons, sp_all p r]
      simp
    · rw [sp_oth r h, List.all_cons, ← sp_all p r, beq_false_of_ne h, Bool.false_or]
      cases e : sp r with
      | nil => exact absurd e (sp_ne r)
      | cons x t => simp [Bool.and_assoc]
/-- a comprehension over a list, whose parts leave the store -/
theorem lc_fixAux (lg : LG) (ft fe : LE) (n : Nat) (xs : List LV) (ds : Sl) (S : Sto) (t : LV → Bool) (f : LV → LV) (hn : S[n]? = some (.lst xs))
    (h : ∀ v ∈ xs, ∃ ds1, lg v S ds = some ds1 ∧ ft ds1 S = .ok (.bl (t v)) S ∧ (t v = true → fe ds1 S = .ok (f v) S)) :
    ∀ (k i : Nat) (acc : List LV), i + k = xs.length → lcK (itRef n xs.length) lg ft fe ds k i acc S = lcL lg ft fe ds (xs.drop i) acc S
  | 0, i, acc, e => by
    have : xs.drop i = [] := List.drop_eq_nil_of_le (by omega)
    rw [this]
    unfold lcK lcL
    show (if (refF n xs.length S && small acc.length) = true then _ else _) = _
    unfold refF
    rw [hn]
    simp
  | k + 1, i, acc, e => by
    have hi : i < xs.length := by omega
    rw [List.drop_eq_getElem_cons hi]
    have e1 : xs[i]? = some xs[i] := List.getElem?_eq_getElem hi
    obtain ⟨ds1, h1, h2, h3⟩ := h xs[i] (List.getElem_mem hi)
    unfold lcK lcL
    have e2 : (itRef n xs.length).item i S = some xs[i] := by
      show refI n xs.length i S = _
      unfold refI
      rw [hn]
      simp [e1]
    rw [e2]
    simp only
    rw [h1]
    simp only
    rw [h2]
    cases ht : t xs[i] with
    | true =>
      simp only
      rw [h3 ht]
      exact lc_fixAux lg ft fe n xs ds S t f hn h k (i + 1) _ (by omega)
    | false => exact lc_fixAux lg ft fe n xs ds S t f hn h k (i + 1) _ (by omega)
theorem lcR_fix {lg : LG} {ft fe : LE} {n : Nat} {xs : List LV} {ds : Sl} {S : Sto} (t : LV → Bool) (f : LV → LV) (hn : S[n]? = some (.lst xs)) (hs : xs.length ≤ 16777216)
    (h : ∀ v ∈ xs, ∃ ds1, lg v S ds = some ds1 ∧ ft ds1 S = .ok (.bl (t v)) S ∧ (t v = true → fe ds1 S = .ok (f v) S)) :
    lcR lg ft fe ds (.ok (itRef n xs.length) S) = .ok (.ref S.length) (S ++ [.lst ((xs.filter t).map f)]) := by
  show lcK (itRef n xs.length) lg ft fe ds xs.length 0 [] S = _
  rw [lc_fixAux lg ft fe n xs ds S t f hn h _ _ _ (by omega), List.drop_zero, lcL_pure t f xs [] h (by unfold small; exact decide_eq_true (by simpa using hs)), List.nil_append]
end LL


set_option Elab.async false
set_option linter.all false
set_option maxRecDepth 100000
set_option maxHeartbeats 4000000

namespace K06
open PySem PySem.Spec PyProof.Rows L2 LL
noncomputable def g_is_made_of : LS := (lSeq (lIf (lOr (lNot (lBi isiL (lCons (lVar 0) (lCons (lC (.ty "str")) lNil)))) (lOp gtL (lBi lenL (lCons (lVar 0) lNil)) (lVar 2)))
  (lRet (lC (.bl false)))
  lNx)
  (lSeq (lFor (lIter (lVar 0)) (gNm 3)
  (lIf (lOp notinL (lVar 3) (lVar 1))
  (lRet (lC (.bl false)))
  lNx))
  (lRet (lC (.bl true)))))
noncomputable def f_is_made_of : Fn := mkFn 3 4 g_is_made_of
noncomputable def g_is_name : LS := (lRet (lAnd (lCall f_is_made_of (lCons (lVar 0) (lCons (lC (.str "abcdefghijklmnopqrstuvwxyz")) (lCons (lC (.int 12)) lNil)))) (lOp neL (lVar 0) (lC (.str "")))))
noncomputable def f_is_name : Fn := mkFn 1 1 g_is_name
noncomputable def g_need_names : LS := (lSeq (lIf (lNot (lChain leL leL (lC (.int 1)) (lBi lenL (lCons (lVar 0) lNil)) (lC (.int 6))))
  (lRaise 4)
  lNx)
  (lFor (lIter (lVar 0)) (gNm 1)
  (lIf (lNot (lCall f_is_name (lCons (lVar 1) lNil)))
  (lRaise 4)
  lNx)))
noncomputable def f_need_names : Fn := mkFn 1 2 g_need_names
noncomputable def g_names_of : LS := (lSeq (lIf (lNot (lBi isiL (lCons (lVar 0) (lCons (lC (.ty "str")) lNil))))
  (lRaise 4)
  lNx)
  (lSeq (lAsg (lBm "str" splitL (lVar 0) (lCons (lC (.str ":")) lNil)) (gNm 1))
  (lSeq (lDrop (lCall f_need_names (lCons (lVar 1) lNil)))
  (lRet (lVar 1)))))
noncomputable def f_names_of : Fn := mkFn 1 2 g_names_of
noncomputable def g_path_of : LS := (lSeq (lDrop (lCall f_need_names (lCons (lVar 0) lNil)))
  (lRet (lBm "str" joinL2 (lC (.str ":")) (lCons (lVar 0) lNil))))
noncomputable def f_path_of : Fn := mkFn 1 1 g_path_of
noncomputable def g_above : LS := (lSeq (lAsg (lBm "str" splitL (lVar 0) (lCons (lC (.str ":")) lNil)) (gNm 1))
  (lRet (lLc (lRng2 (lCons (lC (.int 1)) (lCons (lBi lenL (lCons (lVar 1) lNil)) lNil))) (gNm 2) lYes (lBm "str" joinL2 (lC (.str ":")) (lCons (lSl (lVar 1) none (some (lVar 2))) lNil)) [2])))
noncomputable def f_above : Fn := mkFn 1 3 g_above
noncomputable def g_is_within : LS := (lRet (lOr (lOp eqL (lVar 0) (lVar 1)) (lBm "str" startsL (lVar 0) (lCons (lOp addL (lVar 1) (lC (.str ":"))) lNil))))
noncomputable def f_is_within : Fn := mkFn 2 2 g_is_within
noncomputable def g__law_cell_at : LS := (lSeq (lIf (lOp ltL (lVar 1) (lBi lenL (lCons (lVar 0) lNil)))
  (lRet (lOp ixL (lVar 0) (lVar 1)))
  lNx)
  (lRet (lC (.int 0))))
noncomputable def f__law_cell_at : Fn := mkFn 2 2 g__law_cell_at
noncomputable def g__law_name_by : LS := (lSeq (lAsg (lC (.str "abcdefghijklmnopqrstuvwxyz")) (gNm 2))
  (lSeq (lAsg (lOp modL (lOp divL (lVar 0) (lC (.int 432))) (lC (.int 26))) (gNm 3))
  (lSeq (lIf (lOp eqL (lOp modL (lVar 0) (lC (.int 3))) (lC (.int 1)))
  (lRet (lBm "str" joinL2 (lC (.str "")) (lCons (lLc (lRng1 (lCons (lOp addL (lC (.int 1)) (lVar 1)) lNil)) (gNm 7) lYes (lOp ixL (lVar 2) (lOp modL (lOp addL (lVar 3) (lOp mulL (lC (.int 5)) (lVar 7))) (lC (.int 26)))) [7]) lNil)))
  lNx)
  (lSeq (lAsg (lOp addL (lC (.int 1)) (lOp modL (lOp divL (lVar 0) (lC (.int 3))) (lC (.int 12)))) (gNm 4))
  (lSeq (lAsg (lOp modL (lOp modL (lOp divL (lVar 0) (lC (.int 36))) (lC (.int 12))) (lVar 4)) (gNm 5))
  (lSeq (lAsg (lLc (lRng1 (lCons (lVar 4) lNil)) (gNm 7) lYes (lOp ixL (lVar 2) (lOp modL (lOp addL (lVar 3) (lOp mulL (lC (.int 5)) (lVar 7))) (lC (.int 26)))) [7]) (gNm 6))
  (lSeq (lSub (lOp ixL (lVar 2) (lOp modL (lOp addL (lOp addL (lOp addL (lVar 3) (lOp mulL (lC (.int 5)) (lVar 5))) (lC (.int 1))) (lVar 1)) (lC (.int 26)))) (lVar 6) (lVar 5))
  (lRet (lBm "str" joinL2 (lC (.str "")) (lCons (lVar 6) lNil))))))))))
noncomputable def f__law_name_by : Fn := mkFn 2 8 g__law_name_by
noncomputable def g__law_read : LS := (lSeq (lIf (lNot (lBi isiL (lCons (lVar 0) (lCons (lC (.ty "str")) lNil))))
  (lRet (lC .non))
  lNx)
  (lSeq (lAsg (lLst (lCons (lC (.str "")) lNil)) (gNm 1))
  (lSeq (lFor (lIter (lVar 0)) (gNm 2)
  (lIf (lOp eqL (lVar 2) (lC (.str ":")))
  (lDrop (lBm "list" appendL (lVar 1) (lCons (lC (.str "")) lNil)))
  (lIf (lOp inL (lVar 2) (lC (.str "abcdefghijklmnopqrstuvwxyz")))
  (lSub (lOp addL (lOp ixL (lVar 1) (lUn negL (lC (.int 1)))) (lVar 2)) (lVar 1) (lUn negL (lC (.int 1))))
  (lRet (lC .non)))))
  (lSeq (lIf (lOr (lOp gtL (lBi lenL (lCons (lVar 1) lNil)) (lC (.int 6))) (lOp neL (lLc (lIter (lVar 1)) (gNm 3) (lNot (lChain leL leL (lC (.int 1)) (lBi lenL (lCons (lVar 3) lNil)) (lC (.int 12)))) (lVar 3) [3]) (lLst lNil)))
  (lRet (lC .non))
  lNx)
  (lRet (lVar 1))))))
noncomputable def f__law_read : Fn := mkFn 1 4 g__law_read
noncomputable def g__law_told : LS := (lTryAs 2 (hitA [(4, true)])
  (lSeq (lIf (lOp eqL (lVar 0) (lC (.int 0)))
  (lRet (lCall f_names_of (lCons (lVar 1) lNil)))
  lNx)
  (lRet (lCall f_path_of (lCons (lVar 1) lNil))))
  (lSeq (lAsg (lIsE 2 (hitA [(4, false)])) (gNm 3))
  (lRet (lOp mulTL (lTup (lCons (lC (.str "refused")) lNil)) (lBi intL (lCons (lAnd (lIsE 2 (hitA [(4, true)])) (lAnd (lIsE 2 (hitA [(4, true)])) (lNot (lVar 3)))) lNil))))))
noncomputable def f__law_told : Fn := mkFn 2 4 g__law_told
noncomputable def g__law_no_name : LS := (lSeq (lAsg (lLst (lCons (lC (.str "")) (lCons (lOp addL (lVar 0) (lC (.str ":"))) (lCons (lOp addL (lC (.str ":")) (lVar 0)) (lCons (lOp addL (lVar 0) (lC (.str " "))) (lCons (lOp addL (lC (.str " ")) (lVar 0)) (lCons (lOp addL (lVar 0) (lC (.str "A"))) (lCons (lOp addL (lVar 0) (lC (.str "1"))) (lCons (lOp mulL (lC (.str "a")) (lC (.int 13))) (lCons (lC (.int 7)) (lCons (lC .non) (lCons (lC (.bl true)) lNil)))))))))))) (gNm 2))
  (lRet (lOp ixL (lOp addL (lVar 2) (lLst (lCons (lLst (lCons (lVar 0) lNil)) (lCons (lTup (lCons (lVar 0) lNil)) (lCons (lOp addL (lVar 0) (lC (.str "_"))) lNil))))) (lOp modL (lVar 1) (lC (.int 14))))))
noncomputable def f__law_no_name : Fn := mkFn 2 3 g__law_no_name
noncomputable def g__law_edited : LS := (lSeq (lAsg (lC (.str " !\"#$&'()*+,-./0123456789:;<=>?@ABCDEFGHIJKLMNOPQRSTUVWXYZ[\\]^_`abcdefghijklmnopqrstuvwxyz{|}~")) (gNm 3))
  (lSeq (lAsg (lOp ixL (lLst (lCons (lC (.str ":")) (lCons (lOp ixL (lVar 3) (lOp modL (lOp divL (lVar 2) (lC (.int 2))) (lC (.int 94)))) lNil))) (lOp modL (lVar 2) (lC (.int 2)))) (gNm 4))
  (lSeq (lAsg (lOp modL (lOp divL (lVar 1) (lC (.int 6))) (lOp addL (lBi lenL (lCons (lVar 0) lNil)) (lC (.int 1)))) (gNm 5))
  (lSeq (lIf (lOp eqL (lOp modL (lVar 1) (lC (.int 3))) (lC (.int 1)))
  (lRet (lOp addL (lOp addL (lSl (lVar 0) none (some (lVar 5))) (lVar 4)) (lSl (lVar 0) (some (lVar 5)) none)))
  lNx)
  (lSeq (lIf (lOp eqL (lOp modL (lVar 1) (lC (.int 3))) (lC (.int 2)))
  (lRet (lOp addL (lOp addL (lSl (lVar 0) none (some (lVar 5))) (lOp mulL (lVar 4) (lOp modL (lOp divL (lVar 1) (lC (.int 3))) (lC (.int 2))))) (lSl (lVar 0) (some (lOp addL (lVar 5) (lC (.int 1)))) none)))
  lNx)
  (lRet (lVar 0)))))))
noncomputable def f__law_edited : Fn := mkFn 3 6 g__law_edited
noncomputable def g__law_names_good : LS := (lSeq (lAsg (lCall f__law_read (lCons (lVar 0) lNil)) (gNm 1))
  (lSeq (lAsg (lCall f__law_told (lCons (lC (.int 0)) (lCons (lVar 0) lNil))) (gNm 2))
  (lSeq (lIf (lOp isL (lVar 1) (lC .non))
  (lRet (lOp eqL (lVar 2) (lTup (lCons (lC (.str "refused")) lNil))))
  lNx)
  (lSeq (lIf (lOr (lNot (lBi isiL (lCons (lVar 2) (lCons (lC (.ty "list")) lNil)))) (lOr (lOp neL (lVar 2) (lVar 1)) (lOp neL (lCall f__law_told (lCons (lC (.int 1)) (lCons (lBi listL (lCons (lVar 1) lNil)) lNil))) (lVar 0))))
  (lRet (lC (.bl false)))
  lNx)
  (lSeq (lDrop (lBm "list" appendL (lVar 2) (lCons (lC (.str "more")) lNil)))
  (lRet (lOp eqL (lCall f__law_told (lCons (lC (.int 0)) (lCons (lVar 0) lNil))) (lVar 1))))))))
noncomputable def f__law_names_good : Fn := mkFn 1 3 g__law_names_good
noncomputable def g__law_joined_good : LS := (lSeq (lAsg (lOp modL (lCall f__law_cell_at (lCons (lVar 0) (lCons (lC (.int 1)) lNil))) (lC (.int 9))) (gNm 2))
  (lSeq (lAsg (lLc (lRng1 (lCons (lVar 2) lNil)) (gNm 7) lYes (lCall f__law_name_by (lCons (lVar 1) (lCons (lOp modL (lCall f__law_cell_at (lCons (lVar 0) (lCons (lOp addL (lC (.int 2)) (lVar 7)) lNil))) (lC (.int 12))) lNil))) [7]) (gNm 3))
  (lSeq (lAsg (lTup (lCons (lC (.str "refused")) lNil)) (gNm 4))
  (lSeq (lIf (lChain leL leL (lC (.int 1)) (lVar 2) (lC (.int 6)))
  (lAsg (lBm "str" joinL2 (lC (.str ":")) (lCons (lVar 3) lNil)) (gNm 4))
  lNx)
  (lSeq (lAsg (lCall f__law_cell_at (lCons (lVar 0) (lCons (lC (.int 10)) lNil))) (gNm 5))
  (lSeq (lIf (lAnd (lOp eqL (lOp modL (lVar 5) (lC (.int 3))) (lC (.int 1))) (lOp neL (lVar 3) (lLst lNil)))
  (lSeq (lSub (lCall f__law_no_name (lCons (lOp ixL (lVar 3) (lC (.int 0))) (lCons (lCall f__law_cell_at (lCons (lVar 0) (lCons (lC (.int 11)) lNil))) lNil))) (lVar 3) (lOp modL (lOp divL (lVar 5) (lC (.int 3))) (lVar 2)))
  (lAsg (lTup (lCons (lC (.str "refused")) lNil)) (gNm 4)))
  lNx)
  (lSeq (lAsg (lBi listL (lCons (lVar 3) lNil)) (gNm 6))
  (lRet (lAnd (lOp eqL (lCall f__law_told (lCons (lC (.int 1)) (lCons (lVar 6) lNil))) (lVar 4)) (lOp eqL (lVar 6) (lVar 3)))))))))))
noncomputable def f__law_joined_good : Fn := mkFn 2 8 g__law_joined_good
noncomputable def g__law_tree_good : LS := (lSeq (lAsg (lBm "str" joinL2 (lC (.str ":")) (lCons (lVar 0) lNil)) (gNm 2))
  (lSeq (lAsg (lLc (lRng2 (lCons (lC (.int 1)) (lCons (lBi lenL (lCons (lVar 0) lNil)) lNil))) (gNm 8) lYes (lBm "str" joinL2 (lC (.str ":")) (lCons (lSl (lVar 0) none (some (lVar 8))) lNil)) [8]) (gNm 3))
  (lSeq (lAsg (lCall f_above (lCons (lVar 2) lNil)) (gNm 4))
  (lSeq (lIf (lOr (lNot (lBi isiL (lCons (lVar 4) (lCons (lC (.ty "list")) lNil)))) (lOp neL (lVar 4) (lVar 3)))
  (lRet (lC (.bl false)))
  lNx)
  (lSeq (lDrop (lBm "list" appendL (lVar 4) (lCons (lC (.str "more")) lNil)))
  (lSeq (lIf (lOp neL (lCall f_above (lCons (lVar 2) lNil)) (lVar 3))
  (lRet (lC (.bl false)))
  lNx)
  (lSeq (lFor (lIter (lTup (lCons (lTup (lCons (lVar 0) (lCons (lVar 1) lNil))) (lCons (lTup (lCons (lVar 1) (lCons (lVar 0) lNil))) lNil)))) (gTp (gsCons (gNm 5) (gsCons (gNm 6) gsNil)))
  (lSeq (lAsg (lCall f_is_within (lCons (lBm "str" joinL2 (lC (.str ":")) (lCons (lVar 5) lNil)) (lCons (lBm "str" joinL2 (lC (.str ":")) (lCons (lVar 6) lNil)) lNil))) (gNm 7))
  (lIf (lOr (lNot (lBi isiL (lCons (lVar 7) (lCons (lC (.ty "bool")) lNil)))) (lOp neL (lVar 7) (lOp eqL (lSl (lVar 5) none (some (lBi lenL (lCons (lVar 6) lNil)))) (lVar 6))))
  (lRet (lC (.bl false)))
  lNx)))
  (lRet (lC (.bl true))))))))))
noncomputable def f__law_tree_good : Fn := mkFn 2 9 g__law_tree_good
noncomputable def g_law : LS := (lSeq (lAsg (lCall f__law_cell_at (lCons (lVar 0) (lCons (lC (.int 0)) lNil))) (gNm 1))
  (lSeq (lIf (lNot (lCall f__law_joined_good (lCons (lVar 0) (lCons (lVar 1) lNil))))
  (lRet (lC (.bl false)))
  lNx)
  (lSeq (lAsg (lOp addL (lC (.int 1)) (lOp modL (lCall f__law_cell_at (lCons (lVar 0) (lCons (lC (.int 20)) lNil))) (lC (.int 8)))) (gNm 2))
  (lSeq (lAsg (lBm "str" joinL2 (lC (.str ":")) (lCons (lLc (lRng1 (lCons (lVar 2) lNil)) (gNm 10) lYes (lCall f__law_name_by (lCons (lVar 1) (lCons (lOp modL (lCall f__law_cell_at (lCons (lVar 0) (lCons (lOp addL (lC (.int 12)) (lVar 10)) lNil))) (lC (.int 12))) lNil))) [10]) lNil)) (gNm 3))
  (lSeq (lIf (lNot (lCall f__law_names_good (lCons (lCall f__law_edited (lCons (lVar 3) (lCons (lCall f__law_cell_at (lCons (lVar 0) (lCons (lC (.int 21)) lNil))) (lCons (lCall f__law_cell_at (lCons (lVar 0) (lCons (lC (.int 22)) lNil))) lNil)))) lNil)))
  (lRet (lC (.bl false)))
  lNx)
  (lSeq (lAsg (lOp ixL (lLst (lCons (lC .non) (lCons (lC (.int 5)) (lCons (lC (.bl true)) (lCons (lLst (lCons (lVar 3) lNil)) (lCons (lTup (lCons (lVar 3) lNil)) (lCons lDnew (lCons (lLst (lCons (lC (.str "a")) lNil)) (lCons (lC (.int 0)) (lCons (lTup (lCons (lC (.str "a")) lNil)) lNil)))))))))) (lOp modL (lCall f__law_cell_at (lCons (lVar 0) (lCons (lC (.int 23)) lNil))) (lC (.int 9)))) (gNm 4))
  (lSeq (lIf (lOp neL (lCall f__law_told (lCons (lC (.int 0)) (lCons (lVar 4) lNil))) (lTup (lCons (lC (.str "refused")) lNil)))
  (lRet (lC (.bl false)))
  lNx)
  (lSeq (lAsg (lLc (lRng1 (lCons (lOp addL (lC (.int 1)) (lOp modL (lCall f__law_cell_at (lCons (lVar 0) (lCons (lC (.int 1)) lNil))) (lC (.int 6)))) lNil)) (gNm 10) lYes (lCall f__law_name_by (lCons (lVar 1) (lCons (lOp modL (lCall f__law_cell_at (lCons (lVar 0) (lCons (lOp addL (lC (.int 2)) (lVar 10)) lNil))) (lC (.int 12))) lNil))) [10]) (gNm 5))
  (lSeq (lAsg (lLst (lCons (lCall f__law_name_by (lCons (lVar 1) (lCons (lOp modL (lCall f__law_cell_at (lCons (lVar 0) (lCons (lC (.int 8)) lNil))) (lC (.int 12))) lNil))) lNil)) (gNm 6))
  (lSeq (lAsg (lCall f__law_cell_at (lCons (lVar 0) (lCons (lC (.int 9)) lNil))) (gNm 7))
  (lSeq (lAsg (lOp addL (lC (.int 1)) (lOp modL (lOp divL (lVar 7) (lC (.int 3))) (lBi lenL (lCons (lVar 5) lNil)))) (gNm 8))
  (lSeq (lAsg (lOp ixL (lLst (lCons (lSl (lVar 5) none (some (lVar 8))) (lCons (lOp addL (lSl (lVar 5) none (some (lOp subL (lVar 8) (lC (.int 1))))) (lVar 6)) (lCons (lSl (lOp addL (lVar 5) (lVar 6)) none (some (lC (.int 6)))) lNil)))) (lOp modL (lVar 7) (lC (.int 3)))) (gNm 9))
  (lRet (lCall f__law_tree_good (lCons (lVar 5) (lCons (lVar 9) lNil))))))))))))))))
noncomputable def f_law : Fn := mkFn 1 11 g_law
-- CODES HouseError=0 BadName=1 BadDay=2 BadCurrency=3 BadPath=4 BadKind=5 NoAccount=6 Twice=7 NotOpen=8 HasBelow=9
end K06


set_option Elab.async false
set_option linter.all false
set_option maxRecDepth 100000
set_option maxHeartbeats 4000000

namespace K06
open PySem PySem.Spec PyProof.Rows L2 LL
def topS (i : Nat) : Stmt := PySem.Challenge.pw_evenhall_k06_paths.main.body.getD i (.Pass ⟨0, 0, 0, 0⟩)
abbrev s_is_made_of : Stmt := topS 14
theorem sc_is_made_of : FnScope ["thing", "signs", "most", "sign"] ["thing", "signs", "most"] (defScope s_is_made_of) := ⟨rfl, rfl, rfl, by decide +kernel, rfl, by decide +kernel, by decide +kernel⟩
abbrev s_is_name : Stmt := topS 15
theorem sc_is_name : FnScope ["thing"] ["thing"] (defScope s_is_name) := ⟨rfl, rfl, rfl, by decide +kernel, rfl, by decide +kernel, by decide +kernel⟩
abbrev s_need_names : Stmt := topS 19
theorem sc_need_names : FnScope ["names", "name"] ["names"] (defScope s_need_names) := ⟨rfl, rfl, rfl, by decide +kernel, rfl, by decide +kernel, by decide +kernel⟩
abbrev s_names_of : Stmt := topS 20
theorem sc_names_of : FnScope ["path", "names"] ["path"] (defScope s_names_of) := ⟨rfl, rfl, rfl, by decide +kernel, rfl, by decide +kernel, by decide +kernel⟩
abbrev s_path_of : Stmt := topS 21
theorem sc_path_of : FnScope ["names"] ["names"] (defScope s_path_of) := ⟨rfl, rfl, rfl, by decide +kernel, rfl, by decide +kernel, by decide +kernel⟩
abbrev s_above : Stmt := topS 22
theorem sc_above : FnScope ["path", "names", "many"] ["path"] (defScope s_above) := ⟨rfl, rfl, rfl, by decide +kernel, rfl, by decide +kernel, by decide +kernel⟩
abbrev s_is_within : Stmt := topS 23
theorem sc_is_within : FnScope ["path", "other"] ["path", "other"] (defScope s_is_within) := ⟨rfl, rfl, rfl, by decide +kernel, rfl, by decide +kernel, by decide +kernel⟩
abbrev s__law_cell_at : Stmt := topS 25
theorem sc__law_cell_at : FnScope ["_law_script", "_law_k"] ["_law_script", "_law_k"] (defScope s__law_cell_at) := ⟨rfl, rfl, rfl, by decide +kernel, rfl, by decide +kernel, by decide +kernel⟩
abbrev s__law_name_by : Stmt := topS 26
theorem sc__law_name_by : FnScope ["_law_cell", "_law_k", "_law_letters", "_law_first", "_law_size", "_law_at", "_law_signs", "_law_j"] ["_law_cell", "_law_k"] (defScope s__law_name_by) := ⟨rfl, rfl, rfl, by decide +kernel, rfl, by decide +kernel, by decide +kernel⟩
abbrev s__law_read : Stmt := topS 27
theorem sc__law_read : FnScope ["_law_path", "_law_names", "_law_sign", "_law_name"] ["_law_path"] (defScope s__law_read) := ⟨rfl, rfl, rfl, by decide +kernel, rfl, by decide +kernel, by decide +kernel⟩
abbrev s__law_told : Stmt := topS 28
theorem sc__law_told : FnScope ["_law_way", "_law_thing", "e", "_law_other"] ["_law_way", "_law_thing"] (defScope s__law_told) := ⟨rfl, rfl, rfl, by decide +kernel, rfl, by decide +kernel, by decide +kernel⟩
abbrev s__law_no_name : Stmt := topS 29
theorem sc__law_no_name : FnScope ["_law_name", "_law_cell", "_law_some"] ["_law_name", "_law_cell"] (defScope s__law_no_name) := ⟨rfl, rfl, rfl, by decide +kernel, rfl, by decide +kernel, by decide +kernel⟩
abbrev s__law_edited : Stmt := topS 30
theorem sc__law_edited : FnScope ["_law_text", "_law_cell", "_law_more", "_law_signs", "_law_sign", "_law_at"] ["_law_text", "_law_cell", "_law_more"] (defScope s__law_edited) := ⟨rfl, rfl, rfl, by decide +kernel, rfl, by decide +kernel, by decide +kernel⟩
abbrev s__law_names_good : Stmt := topS 31
theorem sc__law_names_good : FnScope ["_law_text", "_law_due", "_law_found"] ["_law_text"] (defScope s__law_names_good) := ⟨rfl, rfl, rfl, by decide +kernel, rfl, by decide +kernel, by decide +kernel⟩
abbrev s__law_joined_good : Stmt := topS 32
theorem sc__law_joined_good : FnScope ["_law_script", "_law_first", "_law_many", "_law_names", "_law_due", "_law_cell", "_law_handed", "_law_k"] ["_law_script", "_law_first"] (defScope s__law_joined_good) := ⟨rfl, rfl, rfl, by decide +kernel, rfl, by decide +kernel, by decide +kernel⟩
abbrev s__law_tree_good : Stmt := topS 33
theorem sc__law_tree_good : FnScope ["_law_names", "_law_other", "_law_path", "_law_due", "_law_found", "_law_one", "_law_long", "_law_told_here", "_law_many"] ["_law_names", "_law_other"] (defScope s__law_tree_good) := ⟨rfl, rfl, rfl, by decide +kernel, rfl, by decide +kernel, by decide +kernel⟩
abbrev s_law : Stmt := topS 34
theorem sc_law : FnScope ["_law_script", "_law_first", "_law_many", "_law_text", "_law_thing", "_law_names", "_law_more", "_law_cell", "_law_at", "_law_other", "_law_k"] ["_law_script"] (defScope s_law) := ⟨rfl, rfl, rfl, by decide +kernel, rfl, by decide +kernel, by decide +kernel⟩
structure Txt (K : PySem.W.Frag) (mg : Str → Option Value) where
  a_is_made_of : Addr
  d_is_made_of : FuncData
  F_is_made_of : Fun K "is_made_of" "is_made_of" s_is_made_of a_is_made_of d_is_made_of
  b_is_made_of : Binds K d_is_made_of ["thing", "signs", "most"] []
  m_is_made_of : mg "is_made_of" = some (.ref a_is_made_of)
  a_is_name : Addr
  d_is_name : FuncData
  F_is_name : Fun K "is_name" "is_name" s_is_name a_is_name d_is_name
  b_is_name : Binds K d_is_name ["thing"] []
  m_is_name : mg "is_name" = some (.ref a_is_name)
  a_need_names : Addr
  d_need_names : FuncData
  F_need_names : Fun K "need_names" "need_names" s_need_names a_need_names d_need_names
  b_need_names : Binds K d_need_names ["names"] []
  m_need_names : mg "need_names" = some (.ref a_need_names)
  a_names_of : Addr
  d_names_of : FuncData
  F_names_of : Fun K "names_of" "names_of" s_names_of a_names_of d_names_of
  b_names_of : Binds K d_names_of ["path"] []
  m_names_of : mg "names_of" = some (.ref a_names_of)
  a_path_of : Addr
  d_path_of : FuncData
  F_path_of : Fun K "path_of" "path_of" s_path_of a_path_of d_path_of
  b_path_of : Binds K d_path_of ["names"] []
  m_path_of : mg "path_of" = some (.ref a_path_of)
  a_above : Addr
  d_above : FuncData
  F_above : Fun K "above" "above" s_above a_above d_above
  b_above : Binds K d_above ["path"] []
  m_above : mg "above" = some (.ref a_above)
  a_is_within : Addr
  d_is_within : FuncData
  F_is_within : Fun K "is_within" "is_within" s_is_within a_is_within d_is_within
  b_is_within : Binds K d_is_within ["path", "other"] []
  m_is_within : mg "is_within" = some (.ref a_is_within)
  a__law_cell_at : Addr
  d__law_cell_at : FuncData
  F__law_cell_at : Fun K "_law_cell_at" "_law_cell_at" s__law_cell_at a__law_cell_at d__law_cell_at
  b__law_cell_at : Binds K d__law_cell_at ["_law_script", "_law_k"] []
  m__law_cell_at : mg "_law_cell_at" = some (.ref a__law_cell_at)
  a__law_name_by : Addr
  d__law_name_by : FuncData
  F__law_name_by : Fun K "_law_name_by" "_law_name_by" s__law_name_by a__law_name_by d__law_name_by
  b__law_name_by : Binds K d__law_name_by ["_law_cell", "_law_k"] []
  m__law_name_by : mg "_law_name_by" = some (.ref a__law_name_by)
  a__law_read : Addr
  d__law_read : FuncData
  F__law_read : Fun K "_law_read" "_law_read" s__law_read a__law_read d__law_read
  b__law_read : Binds K d__law_read ["_law_path"] []
  m__law_read : mg "_law_read" = some (.ref a__law_read)
  a__law_told : Addr
  d__law_told : FuncData
  F__law_told : Fun K "_law_told" "_law_told" s__law_told a__law_told d__law_told
  b__law_told : Binds K d__law_told ["_law_way", "_law_thing"] []
  m__law_told : mg "_law_told" = some (.ref a__law_told)
  a__law_no_name : Addr
  d__law_no_name : FuncData
  F__law_no_name : Fun K "_law_no_name" "_law_no_name" s__law_no_name a__law_no_name d__law_no_name
  b__law_no_name : Binds K d__law_no_name ["_law_name", "_law_cell"] []
  m__law_no_name : mg "_law_no_name" = some (.ref a__law_no_name)
  a__law_edited : Addr
  d__law_edited : FuncData
  F__law_edited : Fun K "_law_edited" "_law_edited" s__law_edited a__law_edited d__law_edited
  b__law_edited : Binds K d__law_edited ["_law_text", "_law_cell", "_law_more"] []
  m__law_edited : mg "_law_edited" = some (.ref a__law_edited)
  a__law_names_good : Addr
  d__law_names_good : FuncData
  F__law_names_good : Fun K "_law_names_good" "_law_names_good" s__law_names_good a__law_names_good d__law_names_good
  b__law_names_good : Binds K d__law_names_good ["_law_text"] []
  m__law_names_good : mg "_law_names_good" = some (.ref a__law_names_good)
  a__law_joined_good : Addr
  d__law_joined_good : FuncData
  F__law_joined_good : Fun K "_law_joined_good" "_law_joined_good" s__law_joined_good a__law_joined_good d__law_joined_good
  b__law_joined_good : Binds K d__law_joined_good ["_law_script", "_law_first"] []
  m__law_joined_good : mg "_law_joined_good" = some (.ref a__law_joined_good)
  a__law_tree_good : Addr
  d__law_tree_good : FuncData
  F__law_tree_good : Fun K "_law_tree_good" "_law_tree_good" s__law_tree_good a__law_tree_good d__law_tree_good
  b__law_tree_good : Binds K d__law_tree_good ["_law_names", "_law_other"] []
  m__law_tree_good : mg "_law_tree_good" = some (.ref a__law_tree_good)
  a_law : Addr
  d_law : FuncData
  F_law : Fun K "law" "law" s_law a_law d_law
  b_law : Binds K d_law ["_law_script"] []
  m_law : mg "law" = some (.ref a_law)
  e_BadCurrency : Addr
  X_BadCurrency : ExF K mg "BadCurrency" e_BadCurrency
  e_BadDay : Addr
  X_BadDay : ExF K mg "BadDay" e_BadDay
  e_BadKind : Addr
  X_BadKind : ExF K mg "BadKind" e_BadKind
  e_BadName : Addr
  X_BadName : ExF K mg "BadName" e_BadName
  e_BadPath : Addr
  X_BadPath : ExF K mg "BadPath" e_BadPath
  e_HasBelow : Addr
  X_HasBelow : ExF K mg "HasBelow" e_HasBelow
  e_HouseError : Addr
  X_HouseError : ExF K mg "HouseError" e_HouseError
  e_NoAccount : Addr
  X_NoAccount : ExF K mg "NoAccount" e_NoAccount
  e_NotOpen : Addr
  X_NotOpen : ExF K mg "NotOpen" e_NotOpen
  e_Twice : Addr
  X_Twice : ExF K mg "Twice" e_Twice
  p_BadPath_BadCurrency : PySem.W.subIn K (.ref e_BadPath) (.ref e_BadCurrency) = some false
  p_BadPath_BadDay : PySem.W.subIn K (.ref e_BadPath) (.ref e_BadDay) = some false
  p_BadPath_BadKind : PySem.W.subIn K (.ref e_BadPath) (.ref e_BadKind) = some false
  p_BadPath_BadName : PySem.W.subIn K (.ref e_BadPath) (.ref e_BadName) = some false
  p_BadPath_HasBelow : PySem.W.subIn K (.ref e_BadPath) (.ref e_HasBelow) = some false
  p_BadPath_HouseError : PySem.W.subIn K (.ref e_BadPath) (.ref e_HouseError) = some true
  p_BadPath_NoAccount : PySem.W.subIn K (.ref e_BadPath) (.ref e_NoAccount) = some false
  p_BadPath_NotOpen : PySem.W.subIn K (.ref e_BadPath) (.ref e_NotOpen) = some false
  p_BadPath_Twice : PySem.W.subIn K (.ref e_BadPath) (.ref e_Twice) = some false
  z_ValueError : mg "ValueError" = none
  z_bool : mg "bool" = none
  z_int : mg "int" = none
  z_isinstance : mg "isinstance" = none
  z_len : mg "len" = none
  z_list : mg "list" = none
  z_range : mg "range" = none
  z_str : mg "str" = none
  c_LETTERS : ∃ u, mg "LETTERS" = some u ∧ RelV (.str "abcdefghijklmnopqrstuvwxyz") u
  c_MARK : ∃ u, mg "MARK" = some u ∧ RelV (.str ":") u
  c_MOST_LETTERS : ∃ u, mg "MOST_LETTERS" = some u ∧ RelV (.int 12) u
  c_MOST_NAMES : ∃ u, mg "MOST_NAMES" = some u ∧ RelV (.int 6) u
section
variable {P : Program} {w : World} {K : PySem.W.Frag} {mg : Str → Option Value} {base : Heap}
def TT (t : Txt K mg) : Env1 := ⟨fun n => match n with | 0 => t.e_HouseError | 1 => t.e_BadName | 2 => t.e_BadDay | 3 => t.e_BadCurrency | 4 => t.e_BadPath | 5 => t.e_BadKind | 6 => t.e_NoAccount | 7 => t.e_Twice | 8 => t.e_NotOpen | 9 => t.e_HasBelow | _ => 0⟩
theorem ok_is_made_of (t : Txt K mg) : FnOk P w K mg base (L2.CX P w) 1 t.a_is_made_of t.d_is_made_of ["thing", "signs", "most"] (spF K (TT t) f_is_made_of) := by
  refine fn_ok t.F_is_made_of sc_is_made_of (fun cdv A outer s H E hr => ?_)
  have tk := takes_of (X := cxOf (L2.CX P w) P w K mg base ["thing", "signs", "most", "sign"] "is_made_of" (defScope s_is_made_of) t.a_is_made_of cdv A outer s H E) (E := E) rfl rfl rfl rfl
  have po := passes_of (X := cxOf (L2.CX P w) P w K mg base ["thing", "signs", "most", "sign"] "is_made_of" (defScope s_is_made_of) t.a_is_made_of cdv A outer s H E) rfl
  exact (sl_cons (sl_if (tt_w (tw_or (tt_not (tt_val (pl_bi call_isi cl_isi (by rfl) t.z_isinstance (by decide +kernel) (pl_cons (pl_var 0) (pl_cons (pl_ty (n := "str") (by rfl) t.z_str (by decide +kernel)) pl_nil))))) (tw_or1 (tt_cp c_gt (pl_bi cr_lenU cl_len (by rfl) t.z_len (by decide +kernel) (pl_cons (pl_var 0) pl_nil)) (pl_var 2)))))
  (sl_one (sl_ret pl_bl))
  sl_nil)
  (sl_cons (sl_for po rfl (il_val (pl_var 0)) (gl_name 3 sc_is_made_of.nd)
  (sl_one (sl_if (tt_cp (c_nin hr) (pl_var 3) (pl_var 1))
  (sl_one (sl_ret pl_bl))
  sl_nil)))
  (sl_one (sl_ret pl_bl))))
theorem ok_is_name (t : Txt K mg) : FnOk P w K mg base (L2.CX P w) 2 t.a_is_name t.d_is_name ["thing"] (spF K (TT t) f_is_name) := by
  refine fn_ok t.F_is_name sc_is_name (fun cdv A outer s H E hr => ?_)
  have tk := takes_of (X := cxOf (L2.CX P w) P w K mg base ["thing"] "is_name" (defScope s_is_name) t.a_is_name cdv A outer s H E) (E := E) rfl rfl rfl rfl
  have po := passes_of (X := cxOf (L2.CX P w) P w K mg base ["thing"] "is_name" (defScope s_is_name) t.a_is_name cdv A outer s H E) rfl
  exact (sl_one (sl_ret (pl_and (pl_call (ok_is_made_of t) tk (hr.mono (by decide)) (by rfl) t.m_is_made_of t.F_is_made_of.kp t.b_is_made_of (pl_cons (pl_var 0) (pl_cons (pl_glob (v := .str "abcdefghijklmnopqrstuvwxyz") (y := .str "abcdefghijklmnopqrstuvwxyz") (by rfl) t.c_LETTERS.choose_spec.1 t.c_LETTERS.choose_spec.2 (fun _ _ => rfl)) (pl_cons (pl_glob (v := .int 12) (y := .int 12) (by rfl) t.c_MOST_LETTERS.choose_spec.1 t.c_MOST_LETTERS.choose_spec.2 (fun _ _ => rfl)) pl_nil)))) (pl_one (pl_cp (c_ne hr) (pl_var 0) pl_str)))))
theorem ok_need_names (t : Txt K mg) : FnOk P w K mg base (L2.CX P w) 3 t.a_need_names t.d_need_names ["names"] (spF K (TT t) f_need_names) := by
  refine fn_ok t.F_need_names sc_need_names (fun cdv A outer s H E hr => ?_)
  have tk := takes_of (X := cxOf (L2.CX P w) P w K mg base ["names", "name"] "need_names" (defScope s_need_names) t.a_need_names cdv A outer s H E) (E := E) rfl rfl rfl rfl
  have po := passes_of (X := cxOf (L2.CX P w) P w K mg base ["names", "name"] "need_names" (defScope s_need_names) t.a_need_names cdv A outer s H E) rfl
  exact (sl_cons (sl_if (tt_not (tt_ch c_le c_le pl_int (pl_bi cr_lenU cl_len (by rfl) t.z_len (by decide +kernel) (pl_cons (pl_var 0) pl_nil)) (pl_glob (v := .int 6) (y := .int 6) (by rfl) t.c_MOST_NAMES.choose_spec.1 t.c_MOST_NAMES.choose_spec.2 (fun _ _ => rfl))))
  (sl_one (sl_raise rfl tk t.X_BadPath rfl (by rfl)))
  sl_nil)
  (sl_one (sl_for po rfl (il_val (pl_var 0)) (gl_name 1 sc_need_names.nd)
  (sl_one (sl_if (tt_not (tt_val (pl_call (ok_is_name t) tk (hr.mono (by decide)) (by rfl) t.m_is_name t.F_is_name.kp t.b_is_name (pl_cons (pl_var 1) pl_nil))))
  (sl_one (sl_raise rfl tk t.X_BadPath rfl (by rfl)))
  sl_nil)))))
theorem ok_names_of (t : Txt K mg) : FnOk P w K mg base (L2.CX P w) 4 t.a_names_of t.d_names_of ["path"] (spF K (TT t) f_names_of) := by
  refine fn_ok t.F_names_of sc_names_of (fun cdv A outer s H E hr => ?_)
  have tk := takes_of (X := cxOf (L2.CX P w) P w K mg base ["path", "names"] "names_of" (defScope s_names_of) t.a_names_of cdv A outer s H E) (E := E) rfl rfl rfl rfl
  have po := passes_of (X := cxOf (L2.CX P w) P w K mg base ["path", "names"] "names_of" (defScope s_names_of) t.a_names_of cdv A outer s H E) rfl
  exact (sl_cons (sl_if (tt_not (tt_val (pl_bi call_isi cl_isi (by rfl) t.z_isinstance (by decide +kernel) (pl_cons (pl_var 0) (pl_cons (pl_ty (n := "str") (by rfl) t.z_str (by decide +kernel)) pl_nil)))))
  (sl_one (sl_raise rfl tk t.X_BadPath rfl (by rfl)))
  sl_nil)
  (sl_cons (sl_set 1 sc_names_of.nd (pl_bm PySem.F.plainAttrs_str PySem.F.slot_str_split PySem.F.type_str_split mt_split ml_split (pl_var 0) (pl_cons (pl_glob (v := .str ":") (y := .str ":") (by rfl) t.c_MARK.choose_spec.1 t.c_MARK.choose_spec.2 (fun _ _ => rfl)) pl_nil)))
  (sl_cons (sl_expr (pl_call (ok_need_names t) tk (hr.mono (by decide)) (by rfl) t.m_need_names t.F_need_names.kp t.b_need_names (pl_cons (pl_var 1) pl_nil)))
  (sl_one (sl_ret (pl_var 1))))))
theorem ok_path_of (t : Txt K mg) : FnOk P w K mg base (L2.CX P w) 4 t.a_path_of t.d_path_of ["names"] (spF K (TT t) f_path_of) := by
  refine fn_ok t.F_path_of sc_path_of (fun cdv A outer s H E hr => ?_)
  have tk := takes_of (X := cxOf (L2.CX P w) P w K mg base ["names"] "path_of" (defScope s_path_of) t.a_path_of cdv A outer s H E) (E := E) rfl rfl rfl rfl
  have po := passes_of (X := cxOf (L2.CX P w) P w K mg base ["names"] "path_of" (defScope s_path_of) t.a_path_of cdv A outer s H E) rfl
  exact (sl_cons (sl_expr (pl_call (ok_need_names t) tk (hr.mono (by decide)) (by rfl) t.m_need_names t.F_need_names.kp t.b_need_names (pl_cons (pl_var 0) pl_nil)))
  (sl_one (sl_ret (pl_bm PySem.F.plainAttrs_str PySem.F.slot_str_join PySem.F.type_str_join mt_join ml_join (pl_glob (v := .str ":") (y := .str ":") (by rfl) t.c_MARK.choose_spec.1 t.c_MARK.choose_spec.2 (fun _ _ => rfl)) (pl_cons (pl_var 0) pl_nil)))))
theorem ok_above (t : Txt K mg) : FnOk P w K mg base (L2.CX P w) 1 t.a_above t.d_above ["path"] (spF K (TT t) f_above) := by
  refine fn_ok t.F_above sc_above (fun cdv A outer s H E hr => ?_)
  have tk := takes_of (X := cxOf (L2.CX P w) P w K mg base ["path", "names", "many"] "above" (defScope s_above) t.a_above cdv A outer s H E) (E := E) rfl rfl rfl rfl
  have po := passes_of (X := cxOf (L2.CX P w) P w K mg base ["path", "names", "many"] "above" (defScope s_above) t.a_above cdv A outer s H E) rfl
  exact (sl_cons (sl_set 1 sc_above.nd (pl_bm PySem.F.plainAttrs_str PySem.F.slot_str_split PySem.F.type_str_split mt_split ml_split (pl_var 0) (pl_cons (pl_glob (v := .str ":") (y := .str ":") (by rfl) t.c_MARK.choose_spec.1 t.c_MARK.choose_spec.2 (fun _ _ => rfl)) pl_nil)))
  (sl_one (sl_ret (pl_lc (own := [("many", 2)]) rfl sc_above.nd (il_rng2 (by rfl) t.z_range (pl_cons pl_int (pl_cons (pl_bi cr_lenU cl_len (by rfl) t.z_len (by decide +kernel) (pl_cons (pl_var 1) pl_nil)) pl_nil))) (blkOk_by (N := ["path", "names", "many"]) (sc := (defScope s_above)) (by decide +kernel)) (fun _ _ _ _ _ => (gc_name 2 sc_above.nd (by decide))) (fun _ _ _ _ _ => pt_yes) (fun _ _ _ _ _ => (pl_bm PySem.F.plainAttrs_str PySem.F.slot_str_join PySem.F.type_str_join mt_join ml_join (pl_glob (v := .str ":") (y := .str ":") (by rfl) t.c_MARK.choose_spec.1 t.c_MARK.choose_spec.2 (fun _ _ => rfl)) (pl_cons (pl_sl (pl_var 1) pl_ponone (pl_po (pl_var 2))) pl_nil)))))))
theorem ok_is_within (t : Txt K mg) : FnOk P w K mg base (L2.CX P w) 1 t.a_is_within t.d_is_within ["path", "other"] (spF K (TT t) f_is_within) := by
  refine fn_ok t.F_is_within sc_is_within (fun cdv A outer s H E hr => ?_)
  have tk := takes_of (X := cxOf (L2.CX P w) P w K mg base ["path", "other"] "is_within" (defScope s_is_within) t.a_is_within cdv A outer s H E) (E := E) rfl rfl rfl rfl
  have po := passes_of (X := cxOf (L2.CX P w) P w K mg base ["path", "other"] "is_within" (defScope s_is_within) t.a_is_within cdv A outer s H E) rfl
  exact (sl_one (sl_ret (pl_or (pl_cp (c_eq hr) (pl_var 0) (pl_var 1)) (pl_one (pl_bm PySem.F.plainAttrs_str PySem.F.slot_str_startswith PySem.F.type_str_startswith mt_startswith ml_starts (pl_var 0) (pl_cons (pl_add (pl_var 1) (pl_glob (v := .str ":") (y := .str ":") (by rfl) t.c_MARK.choose_spec.1 t.c_MARK.choose_spec.2 (fun _ _ => rfl))) pl_nil))))))
theorem ok__law_cell_at (t : Txt K mg) : FnOk P w K mg base (L2.CX P w) 1 t.a__law_cell_at t.d__law_cell_at ["_law_script", "_law_k"] (spF K (TT t) f__law_cell_at) := by
  refine fn_ok t.F__law_cell_at sc__law_cell_at (fun cdv A outer s H E hr => ?_)
  have tk := takes_of (X := cxOf (L2.CX P w) P w K mg base ["_law_script", "_law_k"] "_law_cell_at" (defScope s__law_cell_at) t.a__law_cell_at cdv A outer s H E) (E := E) rfl rfl rfl rfl
  have po := passes_of (X := cxOf (L2.CX P w) P w K mg base ["_law_script", "_law_k"] "_law_cell_at" (defScope s__law_cell_at) t.a__law_cell_at cdv A outer s H E) rfl
  exact (sl_cons (sl_if (tt_cp c_lt (pl_var 1) (pl_bi cr_lenU cl_len (by rfl) t.z_len (by decide +kernel) (pl_cons (pl_var 0) pl_nil)))
  (sl_one (sl_ret (pl_ix hr (pl_var 0) (pl_var 1))))
  sl_nil)
  (sl_one (sl_ret pl_int)))
theorem ok__law_name_by (t : Txt K mg) : FnOk P w K mg base (L2.CX P w) 1 t.a__law_name_by t.d__law_name_by ["_law_cell", "_law_k"] (spF K (TT t) f__law_name_by) := by
  refine fn_ok t.F__law_name_by sc__law_name_by (fun cdv A outer s H E hr => ?_)
  have tk := takes_of (X := cxOf (L2.CX P w) P w K mg base ["_law_cell", "_law_k", "_law_letters", "_law_first", "_law_size", "_law_at", "_law_signs", "_law_j"] "_law_name_by" (defScope s__law_name_by) t.a__law_name_by cdv A outer s H E) (E := E) rfl rfl rfl rfl
  have po := passes_of (X := cxOf (L2.CX P w) P w K mg base ["_law_cell", "_law_k", "_law_letters", "_law_first", "_law_size", "_law_at", "_law_signs", "_law_j"] "_law_name_by" (defScope s__law_name_by) t.a__law_name_by cdv A outer s H E) rfl
  exact (sl_cons (sl_set 2 sc__law_name_by.nd pl_str)
  (sl_cons (sl_set 3 sc__law_name_by.nd (pl_mod (pl_fdiv (pl_var 0) pl_int) pl_int))
  (sl_cons (sl_if (tt_cp (c_eq hr) (pl_mod (pl_var 0) pl_int) pl_int)
  (sl_one (sl_ret (pl_bm PySem.F.plainAttrs_str PySem.F.slot_str_join PySem.F.type_str_join mt_join ml_join pl_str (pl_cons (pl_lc (own := [("_law_j", 7)]) rfl sc__law_name_by.nd (il_rng1 (by rfl) t.z_range (pl_cons (pl_add pl_int (pl_var 1)) pl_nil)) (blkOk_by (N := ["_law_cell", "_law_k", "_law_letters", "_law_first", "_law_size", "_law_at", "_law_signs", "_law_j"]) (sc := (defScope s__law_name_by)) (by decide +kernel)) (fun _ _ _ _ _ => (gc_name 7 sc__law_name_by.nd (by decide))) (fun _ _ _ _ _ => pt_yes) (fun _ _ _ _ _ => (pl_ix hr (pl_var 2) (pl_mod (pl_add (pl_var 3) (pl_mul pl_int (pl_var 7))) pl_int)))) pl_nil))))
  sl_nil)
  (sl_cons (sl_set 4 sc__law_name_by.nd (pl_add pl_int (pl_mod (pl_fdiv (pl_var 0) pl_int) pl_int)))
  (sl_cons (sl_set 5 sc__law_name_by.nd (pl_mod (pl_mod (pl_fdiv (pl_var 0) pl_int) pl_int) (pl_var 4)))
  (sl_cons (sl_setLc 6 (own := [("_law_j", 7)]) rfl sc__law_name_by.nd rfl rfl (sw_true rfl rfl rfl (by decide +kernel)) (il_rng1 (by rfl) t.z_range (pl_cons (pl_var 4) pl_nil)) (blkOk_by (N := ["_law_cell", "_law_k", "_law_letters", "_law_first", "_law_size", "_law_at", "_law_signs", "_law_j"]) (sc := (defScope s__law_name_by)) (by decide +kernel)) (fun _ _ _ _ _ => (gc_name 7 sc__law_name_by.nd (by decide))) (fun _ _ _ _ _ => pt_yes) (fun _ _ _ _ _ => (pl_ix hr (pl_var 2) (pl_mod (pl_add (pl_var 3) (pl_mul pl_int (pl_var 7))) pl_int))))
  (sl_cons (sl_sub hr (pl_ix hr (pl_var 2) (pl_mod (pl_add (pl_add (pl_add (pl_var 3) (pl_mul pl_int (pl_var 5))) pl_int) (pl_var 1)) pl_int)) (pl_var 6) (pl_var 5))
  (sl_one (sl_ret (pl_bm PySem.F.plainAttrs_str PySem.F.slot_str_join PySem.F.type_str_join mt_join ml_join pl_str (pl_cons (pl_var 6) pl_nil)))))))))))
theorem ok__law_read (t : Txt K mg) : FnOk P w K mg base (L2.CX P w) 1 t.a__law_read t.d__law_read ["_law_path"] (spF K (TT t) f__law_read) := by
  refine fn_ok t.F__law_read sc__law_read (fun cdv A outer s H E hr => ?_)
  have tk := takes_of (X := cxOf (L2.CX P w) P w K mg base ["_law_path", "_law_names", "_law_sign", "_law_name"] "_law_read" (defScope s__law_read) t.a__law_read cdv A outer s H E) (E := E) rfl rfl rfl rfl
  have po := passes_of (X := cxOf (L2.CX P w) P w K mg base ["_law_path", "_law_names", "_law_sign", "_law_name"] "_law_read" (defScope s__law_read) t.a__law_read cdv A outer s H E) rfl
  exact (sl_cons (sl_if (tt_not (tt_val (pl_bi call_isi cl_isi (by rfl) t.z_isinstance (by decide +kernel) (pl_cons (pl_var 0) (pl_cons (pl_ty (n := "str") (by rfl) t.z_str (by decide +kernel)) pl_nil)))))
  (sl_one (sl_ret pl_non))
  sl_nil)
  (sl_cons (sl_set 1 sc__law_read.nd (pl_lst (pl_cons pl_str pl_nil)))
  (sl_cons (sl_for po rfl (il_val (pl_var 0)) (gl_name 2 sc__law_read.nd)
  (sl_one (sl_if (tt_cp (c_eq hr) (pl_var 2) pl_str)
  (sl_one (sl_expr (pl_bm PySem.F.plainAttrs_list PySem.F.slot_list_append PySem.F.type_list_append mt_append ml_append (pl_var 1) (pl_cons pl_str pl_nil))))
  (sl_one (sl_if (tt_cp (c_in hr) (pl_var 2) pl_str)
  (sl_one (sl_sub hr (pl_add (pl_ix hr (pl_var 1) (pl_neg pl_int)) (pl_var 2)) (pl_var 1) (pl_neg pl_int)))
  (sl_one (sl_ret pl_non)))))))
  (sl_cons (sl_if (tt_w (tw_or (tt_cp c_gt (pl_bi cr_lenU cl_len (by rfl) t.z_len (by decide +kernel) (pl_cons (pl_var 1) pl_nil)) pl_int) (tw_or1 (tt_cp (c_ne hr) (pl_lc (own := [("_law_name", 3)]) rfl sc__law_read.nd (il_val (pl_var 1)) (blkOk_by (N := ["_law_path", "_law_names", "_law_sign", "_law_name"]) (sc := (defScope s__law_read)) (by decide +kernel)) (fun _ _ _ _ _ => (gc_name 3 sc__law_read.nd (by decide))) (fun _ _ _ _ _ => (pt_one (tt_not (tt_ch c_le c_le pl_int (pl_bi cr_lenU cl_len (by rfl) t.z_len (by decide +kernel) (pl_cons (pl_var 3) pl_nil)) pl_int)))) (fun _ _ _ _ _ => (pl_var 3))) (pl_lst pl_nil)))))
  (sl_one (sl_ret pl_non))
  sl_nil)
  (sl_one (sl_ret (pl_var 1)))))))
theorem ok__law_told (t : Txt K mg) : FnOk P w K mg base (L2.CX P w) 5 t.a__law_told t.d__law_told ["_law_way", "_law_thing"] (spF K (TT t) f__law_told) := by
  refine fn_ok t.F__law_told sc__law_told (fun cdv A outer s H E hr => ?_)
  have tk := takes_of (X := cxOf (L2.CX P w) P w K mg base ["_law_way", "_law_thing", "e", "_law_other"] "_law_told" (defScope s__law_told) t.a__law_told cdv A outer s H E) (E := E) rfl rfl rfl rfl
  have po := passes_of (X := cxOf (L2.CX P w) P w K mg base ["_law_way", "_law_thing", "e", "_law_other"] "_law_told" (defScope s__law_told) t.a__law_told cdv A outer s H E) rfl
  exact (sl_one (sl_try_as (hit := hitA [(4, true)]) (i := 2) sc__law_told.nd ⟨by rfl, by decide, .inl t.X_HouseError.g⟩ tk (hit_all ⟨t.X_HouseError.exm t.p_BadPath_HouseError, trivial⟩) (fun _ _ _ tk1 po1 => (sl_cons (sl_if (tt_cp (c_eq hr) (pl_var 0) pl_int)
  (sl_one (sl_ret (pl_call (ok_names_of t) tk1 (hr.mono (by decide)) (by rfl) t.m_names_of t.F_names_of.kp t.b_names_of (pl_cons (pl_var 1) pl_nil))))
  sl_nil)
  (sl_one (sl_ret (pl_call (ok_path_of t) tk1 (hr.mono (by decide)) (by rfl) t.m_path_of t.F_path_of.kp t.b_path_of (pl_cons (pl_var 1) pl_nil)))))) (fun _ _ _ _ _ hz hv => (sl_cons (sl_set 3 sc__law_told.nd (pl_isET (i := 2) (f := hitA [(4, false)]) (cs := [.ref t.e_BadName, .ref t.e_BadKind, .ref t.e_BadCurrency, .ref t.e_BadDay, .ref t.e_Twice, .ref t.e_NoAccount, .ref t.e_NotOpen, .ref t.e_HasBelow]) (us := [.ref t.e_BadName, .ref t.e_BadKind, .ref t.e_BadCurrency, .ref t.e_BadDay, .ref t.e_Twice, .ref t.e_NoAccount, .ref t.e_NotOpen, .ref t.e_HasBelow]) tk hz hv (pa_cons (pe_exc t.X_BadName (by rfl)) (pa_cons (pe_exc t.X_BadKind (by rfl)) (pa_cons (pe_exc t.X_BadCurrency (by rfl)) (pa_cons (pe_exc t.X_BadDay (by rfl)) (pa_cons (pe_exc t.X_Twice (by rfl)) (pa_cons (pe_exc t.X_NoAccount (by rfl)) (pa_cons (pe_exc t.X_NotOpen (by rfl)) (pa_cons (pe_exc t.X_HasBelow (by rfl)) pa_nil)))))))) (fun _ _ _ q => q) (.cons (.own _) (.cons (.own _) (.cons (.own _) (.cons (.own _) (.cons (.own _) (.cons (.own _) (.cons (.own _) (.cons (.own _) .nil)))))))) (by simp) (hit_all ⟨⟨t.X_BadPath.c, (kitAny_cons (b := false) (t.X_BadName.kit t.p_BadPath_BadName) (fun _ => (kitAny_cons (b := false) (t.X_BadKind.kit t.p_BadPath_BadKind) (fun _ => (kitAny_cons (b := false) (t.X_BadCurrency.kit t.p_BadPath_BadCurrency) (fun _ => (kitAny_cons (b := false) (t.X_BadDay.kit t.p_BadPath_BadDay) (fun _ => (kitAny_cons (b := false) (t.X_Twice.kit t.p_BadPath_Twice) (fun _ => (kitAny_cons (b := false) (t.X_NoAccount.kit t.p_BadPath_NoAccount) (fun _ => (kitAny_cons (b := false) (t.X_NotOpen.kit t.p_BadPath_NotOpen) (fun _ => (kitAny_cons (b := false) (t.X_HasBelow.kit t.p_BadPath_HasBelow) (fun _ => kitAny_nil) (fun z => nomatch z))) (fun z => nomatch z))) (fun z => nomatch z))) (fun z => nomatch z))) (fun z => nomatch z))) (fun z => nomatch z))) (fun z => nomatch z))) (fun z => nomatch z))⟩, trivial⟩) (by rfl) t.z_isinstance))
  (sl_one (sl_ret (pl_mulT (pl_tup (pl_cons pl_str pl_nil)) (pl_bty cr_intU cl_int (by rfl) t.z_int (by decide +kernel) (pl_cons (pl_and (pl_isE (i := 2) (f := hitA [(4, true)]) tk hz hv (pe_exc t.X_BadPath (by rfl)) (fun _ h => h) (hit_all ⟨⟨t.X_BadPath.c, t.X_BadPath.kit t.X_BadPath.r⟩, trivial⟩) (by rfl) t.z_isinstance) (pl_and (pl_isE (i := 2) (f := hitA [(4, true)]) tk hz hv (pe_exV (by rfl) t.z_ValueError) (fun _ h => h) (hit_all ⟨⟨t.X_BadPath.c, t.X_BadPath.kitV⟩, trivial⟩) (by rfl) t.z_isinstance) (pl_one (pl_not (pl_var 3))))) pl_nil)))))))))
theorem ok__law_no_name (t : Txt K mg) : FnOk P w K mg base (L2.CX P w) 1 t.a__law_no_name t.d__law_no_name ["_law_name", "_law_cell"] (spF K (TT t) f__law_no_name) := by
  refine fn_ok t.F__law_no_name sc__law_no_name (fun cdv A outer s H E hr => ?_)
  have tk := takes_of (X := cxOf (L2.CX P w) P w K mg base ["_law_name", "_law_cell", "_law_some"] "_law_no_name" (defScope s__law_no_name) t.a__law_no_name cdv A outer s H E) (E := E) rfl rfl rfl rfl
  have po := passes_of (X := cxOf (L2.CX P w) P w K mg base ["_law_name", "_law_cell", "_law_some"] "_law_no_name" (defScope s__law_no_name) t.a__law_no_name cdv A outer s H E) rfl
  exact (sl_cons (sl_set 2 sc__law_no_name.nd (pl_lst (pl_cons pl_str (pl_cons (pl_add (pl_var 0) pl_str) (pl_cons (pl_add pl_str (pl_var 0)) (pl_cons (pl_add (pl_var 0) pl_str) (pl_cons (pl_add pl_str (pl_var 0)) (pl_cons (pl_add (pl_var 0) pl_str) (pl_cons (pl_add (pl_var 0) pl_str) (pl_cons (pl_mul pl_str pl_int) (pl_cons pl_int (pl_cons pl_non (pl_cons pl_bl pl_nil)))))))))))))
  (sl_one (sl_ret (pl_ix hr (pl_add (pl_var 2) (pl_lst (pl_cons (pl_lst (pl_cons (pl_var 0) pl_nil)) (pl_cons (pl_tup (pl_cons (pl_var 0) pl_nil)) (pl_cons (pl_add (pl_var 0) pl_str) pl_nil))))) (pl_mod (pl_var 1) pl_int)))))
theorem ok__law_edited (t : Txt K mg) : FnOk P w K mg base (L2.CX P w) 1 t.a__law_edited t.d__law_edited ["_law_text", "_law_cell", "_law_more"] (spF K (TT t) f__law_edited) := by
  refine fn_ok t.F__law_edited sc__law_edited (fun cdv A outer s H E hr => ?_)
  have tk := takes_of (X := cxOf (L2.CX P w) P w K mg base ["_law_text", "_law_cell", "_law_more", "_law_signs", "_law_sign", "_law_at"] "_law_edited" (defScope s__law_edited) t.a__law_edited cdv A outer s H E) (E := E) rfl rfl rfl rfl
  have po := passes_of (X := cxOf (L2.CX P w) P w K mg base ["_law_text", "_law_cell", "_law_more", "_law_signs", "_law_sign", "_law_at"] "_law_edited" (defScope s__law_edited) t.a__law_edited cdv A outer s H E) rfl
  exact (sl_cons (sl_set 3 sc__law_edited.nd pl_str)
  (sl_cons (sl_set 4 sc__law_edited.nd (pl_ix hr (pl_lst (pl_cons pl_str (pl_cons (pl_ix hr (pl_var 3) (pl_mod (pl_fdiv (pl_var 2) pl_int) pl_int)) pl_nil))) (pl_mod (pl_var 2) pl_int)))
  (sl_cons (sl_set 5 sc__law_edited.nd (pl_mod (pl_fdiv (pl_var 1) pl_int) (pl_add (pl_bi cr_lenU cl_len (by rfl) t.z_len (by decide +kernel) (pl_cons (pl_var 0) pl_nil)) pl_int)))
  (sl_cons (sl_if (tt_cp (c_eq hr) (pl_mod (pl_var 1) pl_int) pl_int)
  (sl_one (sl_ret (pl_add (pl_add (pl_sl (pl_var 0) pl_ponone (pl_po (pl_var 5))) (pl_var 4)) (pl_sl (pl_var 0) (pl_po (pl_var 5)) pl_ponone))))
  sl_nil)
  (sl_cons (sl_if (tt_cp (c_eq hr) (pl_mod (pl_var 1) pl_int) pl_int)
  (sl_one (sl_ret (pl_add (pl_add (pl_sl (pl_var 0) pl_ponone (pl_po (pl_var 5))) (pl_mul (pl_var 4) (pl_mod (pl_fdiv (pl_var 1) pl_int) pl_int))) (pl_sl (pl_var 0) (pl_po (pl_add (pl_var 5) pl_int)) pl_ponone))))
  sl_nil)
  (sl_one (sl_ret (pl_var 0))))))))
theorem ok__law_names_good (t : Txt K mg) : FnOk P w K mg base (L2.CX P w) 6 t.a__law_names_good t.d__law_names_good ["_law_text"] (spF K (TT t) f__law_names_good) := by
  refine fn_ok t.F__law_names_good sc__law_names_good (fun cdv A outer s H E hr => ?_)
  have tk := takes_of (X := cxOf (L2.CX P w) P w K mg base ["_law_text", "_law_due", "_law_found"] "_law_names_good" (defScope s__law_names_good) t.a__law_names_good cdv A outer s H E) (E := E) rfl rfl rfl rfl
  have po := passes_of (X := cxOf (L2.CX P w) P w K mg base ["_law_text", "_law_due", "_law_found"] "_law_names_good" (defScope s__law_names_good) t.a__law_names_good cdv A outer s H E) rfl
  exact (sl_cons (sl_set 1 sc__law_names_good.nd (pl_call (ok__law_read t) tk (hr.mono (by decide)) (by rfl) t.m__law_read t.F__law_read.kp t.b__law_read (pl_cons (pl_var 0) pl_nil)))
  (sl_cons (sl_set 2 sc__law_names_good.nd (pl_call (ok__law_told t) tk (hr.mono (by decide)) (by rfl) t.m__law_told t.F__law_told.kp t.b__law_told (pl_cons pl_int (pl_cons (pl_var 0) pl_nil))))
  (sl_cons (sl_if (tt_cp c_is (pl_var 1) pl_non)
  (sl_one (sl_ret (pl_cp (c_eq hr) (pl_var 2) (pl_tup (pl_cons pl_str pl_nil)))))
  sl_nil)
  (sl_cons (sl_if (tt_w (tw_or (tt_not (tt_val (pl_bi call_isi cl_isi (by rfl) t.z_isinstance (by decide +kernel) (pl_cons (pl_var 2) (pl_cons (pl_ty (n := "list") (by rfl) t.z_list (by decide +kernel)) pl_nil))))) (tw_or (tt_cp (c_ne hr) (pl_var 2) (pl_var 1)) (tw_or1 (tt_cp (c_ne hr) (pl_call (ok__law_told t) tk (hr.mono (by decide)) (by rfl) t.m__law_told t.F__law_told.kp t.b__law_told (pl_cons pl_int (pl_cons (pl_bty call_list_of cl_list (by rfl) t.z_list (by decide +kernel) (pl_cons (pl_var 1) pl_nil)) pl_nil))) (pl_var 0))))))
  (sl_one (sl_ret pl_bl))
  sl_nil)
  (sl_cons (sl_expr (pl_bm PySem.F.plainAttrs_list PySem.F.slot_list_append PySem.F.type_list_append mt_append ml_append (pl_var 2) (pl_cons pl_str pl_nil)))
  (sl_one (sl_ret (pl_cp (c_eq hr) (pl_call (ok__law_told t) tk (hr.mono (by decide)) (by rfl) t.m__law_told t.F__law_told.kp t.b__law_told (pl_cons pl_int (pl_cons (pl_var 0) pl_nil))) (pl_var 1)))))))))
theorem ok__law_joined_good (t : Txt K mg) : FnOk P w K mg base (L2.CX P w) 6 t.a__law_joined_good t.d__law_joined_good ["_law_script", "_law_first"] (spF K (TT t) f__law_joined_good) := by
  refine fn_ok t.F__law_joined_good sc__law_joined_good (fun cdv A outer s H E hr => ?_)
  have tk := takes_of (X := cxOf (L2.CX P w) P w K mg base ["_law_script", "_law_first", "_law_many", "_law_names", "_law_due", "_law_cell", "_law_handed", "_law_k"] "_law_joined_good" (defScope s__law_joined_good) t.a__law_joined_good cdv A outer s H E) (E := E) rfl rfl rfl rfl
  have po := passes_of (X := cxOf (L2.CX P w) P w K mg base ["_law_script", "_law_first", "_law_many", "_law_names", "_law_due", "_law_cell", "_law_handed", "_law_k"] "_law_joined_good" (defScope s__law_joined_good) t.a__law_joined_good cdv A outer s H E) rfl
  exact (sl_cons (sl_set 2 sc__law_joined_good.nd (pl_mod (pl_call (ok__law_cell_at t) tk (hr.mono (by decide)) (by rfl) t.m__law_cell_at t.F__law_cell_at.kp t.b__law_cell_at (pl_cons (pl_var 0) (pl_cons pl_int pl_nil))) pl_int))
  (sl_cons (sl_setLc 3 (own := [("_law_k", 7)]) rfl sc__law_joined_good.nd rfl rfl (sw_true rfl rfl rfl (by decide +kernel)) (il_rng1 (by rfl) t.z_range (pl_cons (pl_var 2) pl_nil)) (blkOk_by (N := ["_law_script", "_law_first", "_law_many", "_law_names", "_law_due", "_law_cell", "_law_handed", "_law_k"]) (sc := (defScope s__law_joined_good)) (by decide +kernel)) (fun _ _ _ _ _ => (gc_name 7 sc__law_joined_good.nd (by decide))) (fun _ _ _ _ _ => pt_yes) (fun _ _ _ _ _ => (pl_call (ok__law_name_by t) takes0 (hr.mono (by decide)) (by rfl) t.m__law_name_by t.F__law_name_by.kp t.b__law_name_by (pl_cons (pl_var 1) (pl_cons (pl_mod (pl_call (ok__law_cell_at t) takes0 (hr.mono (by decide)) (by rfl) t.m__law_cell_at t.F__law_cell_at.kp t.b__law_cell_at (pl_cons (pl_var 0) (pl_cons (pl_add pl_int (pl_var 7)) pl_nil))) pl_int) pl_nil)))))
  (sl_cons (sl_set 4 sc__law_joined_good.nd (pl_tup (pl_cons pl_str pl_nil)))
  (sl_cons (sl_if (tt_ch c_le c_le pl_int (pl_var 2) pl_int)
  (sl_one (sl_set 4 sc__law_joined_good.nd (pl_bm PySem.F.plainAttrs_str PySem.F.slot_str_join PySem.F.type_str_join mt_join ml_join pl_str (pl_cons (pl_var 3) pl_nil))))
  sl_nil)
  (sl_cons (sl_set 5 sc__law_joined_good.nd (pl_call (ok__law_cell_at t) tk (hr.mono (by decide)) (by rfl) t.m__law_cell_at t.F__law_cell_at.kp t.b__law_cell_at (pl_cons (pl_var 0) (pl_cons pl_int pl_nil))))
  (sl_cons (sl_if (tt_w (tw_and (tt_cp (c_eq hr) (pl_mod (pl_var 5) pl_int) pl_int) (tw_and1 (tt_cp (c_ne hr) (pl_var 3) (pl_lst pl_nil)))))
  (sl_cons (sl_sub hr (pl_call (ok__law_no_name t) tk (hr.mono (by decide)) (by rfl) t.m__law_no_name t.F__law_no_name.kp t.b__law_no_name (pl_cons (pl_ix hr (pl_var 3) pl_int) (pl_cons (pl_call (ok__law_cell_at t) tk (hr.mono (by decide)) (by rfl) t.m__law_cell_at t.F__law_cell_at.kp t.b__law_cell_at (pl_cons (pl_var 0) (pl_cons pl_int pl_nil))) pl_nil))) (pl_var 3) (pl_mod (pl_fdiv (pl_var 5) pl_int) (pl_var 2)))
  (sl_one (sl_set 4 sc__law_joined_good.nd (pl_tup (pl_cons pl_str pl_nil)))))
  sl_nil)
  (sl_cons (sl_set 6 sc__law_joined_good.nd (pl_bty call_list_of cl_list (by rfl) t.z_list (by decide +kernel) (pl_cons (pl_var 3) pl_nil)))
  (sl_one (sl_ret (pl_and (pl_cp (c_eq hr) (pl_call (ok__law_told t) tk (hr.mono (by decide)) (by rfl) t.m__law_told t.F__law_told.kp t.b__law_told (pl_cons pl_int (pl_cons (pl_var 6) pl_nil))) (pl_var 4)) (pl_one (pl_cp (c_eq hr) (pl_var 6) (pl_var 3)))))))))))))
theorem ok__law_tree_good (t : Txt K mg) : FnOk P w K mg base (L2.CX P w) 2 t.a__law_tree_good t.d__law_tree_good ["_law_names", "_law_other"] (spF K (TT t) f__law_tree_good) := by
  refine fn_ok t.F__law_tree_good sc__law_tree_good (fun cdv A outer s H E hr => ?_)
  have tk := takes_of (X := cxOf (L2.CX P w) P w K mg base ["_law_names", "_law_other", "_law_path", "_law_due", "_law_found", "_law_one", "_law_long", "_law_told_here", "_law_many"] "_law_tree_good" (defScope s__law_tree_good) t.a__law_tree_good cdv A outer s H E) (E := E) rfl rfl rfl rfl
  have po := passes_of (X := cxOf (L2.CX P w) P w K mg base ["_law_names", "_law_other", "_law_path", "_law_due", "_law_found", "_law_one", "_law_long", "_law_told_here", "_law_many"] "_law_tree_good" (defScope s__law_tree_good) t.a__law_tree_good cdv A outer s H E) rfl
  exact (sl_cons (sl_set 2 sc__law_tree_good.nd (pl_bm PySem.F.plainAttrs_str PySem.F.slot_str_join PySem.F.type_str_join mt_join ml_join pl_str (pl_cons (pl_var 0) pl_nil)))
  (sl_cons (sl_setLc 3 (own := [("_law_many", 8)]) rfl sc__law_tree_good.nd rfl rfl (sw_true rfl rfl rfl (by decide +kernel)) (il_rng2 (by rfl) t.z_range (pl_cons pl_int (pl_cons (pl_bi cr_lenU cl_len (by rfl) t.z_len (by decide +kernel) (pl_cons (pl_var 0) pl_nil)) pl_nil))) (blkOk_by (N := ["_law_names", "_law_other", "_law_path", "_law_due", "_law_found", "_law_one", "_law_long", "_law_told_here", "_law_many"]) (sc := (defScope s__law_tree_good)) (by decide +kernel)) (fun _ _ _ _ _ => (gc_name 8 sc__law_tree_good.nd (by decide))) (fun _ _ _ _ _ => pt_yes) (fun _ _ _ _ _ => (pl_bm PySem.F.plainAttrs_str PySem.F.slot_str_join PySem.F.type_str_join mt_join ml_join pl_str (pl_cons (pl_sl (pl_var 0) pl_ponone (pl_po (pl_var 8))) pl_nil))))
  (sl_cons (sl_set 4 sc__law_tree_good.nd (pl_call (ok_above t) tk (hr.mono (by decide)) (by rfl) t.m_above t.F_above.kp t.b_above (pl_cons (pl_var 2) pl_nil)))
  (sl_cons (sl_if (tt_w (tw_or (tt_not (tt_val (pl_bi call_isi cl_isi (by rfl) t.z_isinstance (by decide +kernel) (pl_cons (pl_var 4) (pl_cons (pl_ty (n := "list") (by rfl) t.z_list (by decide +kernel)) pl_nil))))) (tw_or1 (tt_cp (c_ne hr) (pl_var 4) (pl_var 3)))))
  (sl_one (sl_ret pl_bl))
  sl_nil)
  (sl_cons (sl_expr (pl_bm PySem.F.plainAttrs_list PySem.F.slot_list_append PySem.F.type_list_append mt_append ml_append (pl_var 4) (pl_cons pl_str pl_nil)))
  (sl_cons (sl_if (tt_cp (c_ne hr) (pl_call (ok_above t) tk (hr.mono (by decide)) (by rfl) t.m_above t.F_above.kp t.b_above (pl_cons (pl_var 2) pl_nil)) (pl_var 3))
  (sl_one (sl_ret pl_bl))
  sl_nil)
  (sl_cons (sl_for po rfl (il_val (pl_tup (pl_cons (pl_tup (pl_cons (pl_var 0) (pl_cons (pl_var 1) pl_nil))) (pl_cons (pl_tup (pl_cons (pl_var 1) (pl_cons (pl_var 0) pl_nil))) pl_nil)))) (gl_tup 2 rfl (gsl_cons (gl_name 5 sc__law_tree_good.nd) (gsl_cons (gl_name 6 sc__law_tree_good.nd) gsl_nil)) (gs_len1 (gs_len1 gs_len0)))
  (sl_cons (sl_set 7 sc__law_tree_good.nd (pl_call (ok_is_within t) tk (hr.mono (by decide)) (by rfl) t.m_is_within t.F_is_within.kp t.b_is_within (pl_cons (pl_bm PySem.F.plainAttrs_str PySem.F.slot_str_join PySem.F.type_str_join mt_join ml_join pl_str (pl_cons (pl_var 5) pl_nil)) (pl_cons (pl_bm PySem.F.plainAttrs_str PySem.F.slot_str_join PySem.F.type_str_join mt_join ml_join pl_str (pl_cons (pl_var 6) pl_nil)) pl_nil))))
  (sl_one (sl_if (tt_w (tw_or (tt_not (tt_val (pl_bi call_isi cl_isi (by rfl) t.z_isinstance (by decide +kernel) (pl_cons (pl_var 7) (pl_cons (pl_ty (n := "bool") (by rfl) t.z_bool (by decide +kernel)) pl_nil))))) (tw_or1 (tt_cp (c_ne hr) (pl_var 7) (pl_cp (c_eq hr) (pl_sl (pl_var 5) pl_ponone (pl_po (pl_bi cr_lenU cl_len (by rfl) t.z_len (by decide +kernel) (pl_cons (pl_var 6) pl_nil)))) (pl_var 6))))))
  (sl_one (sl_ret pl_bl))
  sl_nil))))
  (sl_one (sl_ret pl_bl)))))))))
theorem ok_law (t : Txt K mg) : FnOk P w K mg base (L2.CX P w) 7 t.a_law t.d_law ["_law_script"] (spF K (TT t) f_law) := by
  refine fn_ok t.F_law sc_law (fun cdv A outer s H E hr => ?_)
  have tk := takes_of (X := cxOf (L2.CX P w) P w K mg base ["_law_script", "_law_first", "_law_many", "_law_text", "_law_thing", "_law_names", "_law_more", "_law_cell", "_law_at", "_law_other", "_law_k"] "law" (defScope s_law) t.a_law cdv A outer s H E) (E := E) rfl rfl rfl rfl
  have po := passes_of (X := cxOf (L2.CX P w) P w K mg base ["_law_script", "_law_first", "_law_many", "_law_text", "_law_thing", "_law_names", "_law_more", "_law_cell", "_law_at", "_law_other", "_law_k"] "law" (defScope s_law) t.a_law cdv A outer s H E) rfl
  exact (sl_cons (sl_set 1 sc_law.nd (pl_call (ok__law_cell_at t) tk (hr.mono (by decide)) (by rfl) t.m__law_cell_at t.F__law_cell_at.kp t.b__law_cell_at (pl_cons (pl_var 0) (pl_cons pl_int pl_nil))))
  (sl_cons (sl_if (tt_not (tt_val (pl_call (ok__law_joined_good t) tk (hr.mono (by decide)) (by rfl) t.m__law_joined_good t.F__law_joined_good.kp t.b__law_joined_good (pl_cons (pl_var 0) (pl_cons (pl_var 1) pl_nil)))))
  (sl_one (sl_ret pl_bl))
  sl_nil)
  (sl_cons (sl_set 2 sc_law.nd (pl_add pl_int (pl_mod (pl_call (ok__law_cell_at t) tk (hr.mono (by decide)) (by rfl) t.m__law_cell_at t.F__law_cell_at.kp t.b__law_cell_at (pl_cons (pl_var 0) (pl_cons pl_int pl_nil))) pl_int)))
  (sl_cons (sl_set 3 sc_law.nd (pl_bm PySem.F.plainAttrs_str PySem.F.slot_str_join PySem.F.type_str_join mt_join ml_join pl_str (pl_cons (pl_lc (own := [("_law_k", 10)]) rfl sc_law.nd (il_rng1 (by rfl) t.z_range (pl_cons (pl_var 2) pl_nil)) (blkOk_by (N := ["_law_script", "_law_first", "_law_many", "_law_text", "_law_thing", "_law_names", "_law_more", "_law_cell", "_law_at", "_law_other", "_law_k"]) (sc := (defScope s_law)) (by decide +kernel)) (fun _ _ _ _ _ => (gc_name 10 sc_law.nd (by decide))) (fun _ _ _ _ _ => pt_yes) (fun _ _ _ _ _ => (pl_call (ok__law_name_by t) takes0 (hr.mono (by decide)) (by rfl) t.m__law_name_by t.F__law_name_by.kp t.b__law_name_by (pl_cons (pl_var 1) (pl_cons (pl_mod (pl_call (ok__law_cell_at t) takes0 (hr.mono (by decide)) (by rfl) t.m__law_cell_at t.F__law_cell_at.kp t.b__law_cell_at (pl_cons (pl_var 0) (pl_cons (pl_add pl_int (pl_var 10)) pl_nil))) pl_int) pl_nil))))) pl_nil)))
  (sl_cons (sl_if (tt_not (tt_val (pl_call (ok__law_names_good t) tk (hr.mono (by decide)) (by rfl) t.m__law_names_good t.F__law_names_good.kp t.b__law_names_good (pl_cons (pl_call (ok__law_edited t) tk (hr.mono (by decide)) (by rfl) t.m__law_edited t.F__law_edited.kp t.b__law_edited (pl_cons (pl_var 3) (pl_cons (pl_call (ok__law_cell_at t) tk (hr.mono (by decide)) (by rfl) t.m__law_cell_at t.F__law_cell_at.kp t.b__law_cell_at (pl_cons (pl_var 0) (pl_cons pl_int pl_nil))) (pl_cons (pl_call (ok__law_cell_at t) tk (hr.mono (by decide)) (by rfl) t.m__law_cell_at t.F__law_cell_at.kp t.b__law_cell_at (pl_cons (pl_var 0) (pl_cons pl_int pl_nil))) pl_nil)))) pl_nil))))
  (sl_one (sl_ret pl_bl))
  sl_nil)
  (sl_cons (sl_set 4 sc_law.nd (pl_ix hr (pl_lst (pl_cons pl_non (pl_cons pl_int (pl_cons pl_bl (pl_cons (pl_lst (pl_cons (pl_var 3) pl_nil)) (pl_cons (pl_tup (pl_cons (pl_var 3) pl_nil)) (pl_cons pl_dnew (pl_cons (pl_lst (pl_cons pl_str pl_nil)) (pl_cons pl_int (pl_cons (pl_tup (pl_cons pl_str pl_nil)) pl_nil)))))))))) (pl_mod (pl_call (ok__law_cell_at t) tk (hr.mono (by decide)) (by rfl) t.m__law_cell_at t.F__law_cell_at.kp t.b__law_cell_at (pl_cons (pl_var 0) (pl_cons pl_int pl_nil))) pl_int)))
  (sl_cons (sl_if (tt_cp (c_ne hr) (pl_call (ok__law_told t) tk (hr.mono (by decide)) (by rfl) t.m__law_told t.F__law_told.kp t.b__law_told (pl_cons pl_int (pl_cons (pl_var 4) pl_nil))) (pl_tup (pl_cons pl_str pl_nil)))
  (sl_one (sl_ret pl_bl))
  sl_nil)
  (sl_cons (sl_setLc 5 (own := [("_law_k", 10)]) rfl sc_law.nd rfl rfl (sw_true rfl rfl rfl (by decide +kernel)) (il_rng1 (by rfl) t.z_range (pl_cons (pl_add pl_int (pl_mod (pl_call (ok__law_cell_at t) tk (hr.mono (by decide)) (by rfl) t.m__law_cell_at t.F__law_cell_at.kp t.b__law_cell_at (pl_cons (pl_var 0) (pl_cons pl_int pl_nil))) pl_int)) pl_nil)) (blkOk_by (N := ["_law_script", "_law_first", "_law_many", "_law_text", "_law_thing", "_law_names", "_law_more", "_law_cell", "_law_at", "_law_other", "_law_k"]) (sc := (defScope s_law)) (by decide +kernel)) (fun _ _ _ _ _ => (gc_name 10 sc_law.nd (by decide))) (fun _ _ _ _ _ => pt_yes) (fun _ _ _ _ _ => (pl_call (ok__law_name_by t) takes0 (hr.mono (by decide)) (by rfl) t.m__law_name_by t.F__law_name_by.kp t.b__law_name_by (pl_cons (pl_var 1) (pl_cons (pl_mod (pl_call (ok__law_cell_at t) takes0 (hr.mono (by decide)) (by rfl) t.m__law_cell_at t.F__law_cell_at.kp t.b__law_cell_at (pl_cons (pl_var 0) (pl_cons (pl_add pl_int (pl_var 10)) pl_nil))) pl_int) pl_nil)))))
  (sl_cons (sl_set 6 sc_law.nd (pl_lst (pl_cons (pl_call (ok__law_name_by t) tk (hr.mono (by decide)) (by rfl) t.m__law_name_by t.F__law_name_by.kp t.b__law_name_by (pl_cons (pl_var 1) (pl_cons (pl_mod (pl_call (ok__law_cell_at t) tk (hr.mono (by decide)) (by rfl) t.m__law_cell_at t.F__law_cell_at.kp t.b__law_cell_at (pl_cons (pl_var 0) (pl_cons pl_int pl_nil))) pl_int) pl_nil))) pl_nil)))
  (sl_cons (sl_set 7 sc_law.nd (pl_call (ok__law_cell_at t) tk (hr.mono (by decide)) (by rfl) t.m__law_cell_at t.F__law_cell_at.kp t.b__law_cell_at (pl_cons (pl_var 0) (pl_cons pl_int pl_nil))))
  (sl_cons (sl_set 8 sc_law.nd (pl_add pl_int (pl_mod (pl_fdiv (pl_var 7) pl_int) (pl_bi cr_lenU cl_len (by rfl) t.z_len (by decide +kernel) (pl_cons (pl_var 5) pl_nil)))))
  (sl_cons (sl_set 9 sc_law.nd (pl_ix hr (pl_lst (pl_cons (pl_sl (pl_var 5) pl_ponone (pl_po (pl_var 8))) (pl_cons (pl_add (pl_sl (pl_var 5) pl_ponone (pl_po (pl_sub (pl_var 8) pl_int))) (pl_var 6)) (pl_cons (pl_sl (pl_add (pl_var 5) (pl_var 6)) pl_ponone (pl_po pl_int)) pl_nil)))) (pl_mod (pl_var 7) pl_int)))
  (sl_one (sl_ret (pl_call (ok__law_tree_good t) tk (hr.mono (by decide)) (by rfl) t.m__law_tree_good t.F__law_tree_good.kp t.b__law_tree_good (pl_cons (pl_var 5) (pl_cons (pl_var 9) pl_nil)))))))))))))))))
end
end K06


set_option Elab.async false
set_option linter.all false
set_option maxRecDepth 100000
set_option maxHeartbeats 4000000
namespace K06
open PySem PySem.Spec PyProof.Rows L2 LL
abbrev code_HouseError : Nat := 0
abbrev code_BadName : Nat := 1
abbrev code_BadDay : Nat := 2
abbrev code_BadCurrency : Nat := 3
abbrev code_BadPath : Nat := 4
abbrev code_BadKind : Nat := 5
abbrev code_NoAccount : Nat := 6
abbrev code_Twice : Nat := 7
abbrev code_NotOpen : Nat := 8
abbrev code_HasBelow : Nat := 9
theorem made_loop (z A : Str) (n : Int) (S : Sto) : ∀ (l : List Nat) (x : Option LV), ∃ x', forL (gNm 3) (lIf (lOp notinL (lVar 3) (lVar 1))
  (lRet (lC (.bl false)))
  lNx) (l.map fun c => .str (one c)) [some (.str z), some (.str A), some (.int n), x] S = if l.all (fun c => decide (c ∈ tl A)) = true then .nx [some (.str z), some (.str A), some (.int n), x'] S else .rt (.bl false) S
  | [], x => ⟨x, by simp [forL]⟩
  | c :: l, x => by
    obtain ⟨x', h⟩ := made_loop z A n S l (some (.str (one c)))
    refine ⟨x', ?_⟩
    rw [List.map_cons, List.all_cons]
    unfold forL
    by_cases hc : c ∈ tl A
    · simp only [gNm, e_if, e_op, e_ret, e_nx, hc, List.set_cons_succ, List.set_cons_zero, e_varS, e_var0, isX_s, op1_ok, op2_ok, nin_ss, inT_1, decide_true, Bool.not_true, if1_f, Bool.true_and]
      exact h
    · simp [gNm, e_if, e_op, e_ret, e_nx, hc]
theorem made_of_e (z A : Str) (n : Int) (hz : z.length ≤ 16777216) (S : Sto) : f_is_made_of [.str z, .str A, .int n] S = .ok (.bl (decide ((z.length : Int) ≤ n) && (tl z).all (fun c => decide (c ∈ tl A)))) S := by
  obtain ⟨x', hl⟩ := made_loop z A n S (tl z) none
  by_cases h : (z.length : Int) ≤ n
  · have h2 : ¬ n < (z.length : Int) := by omega
    simp [f_is_made_of, e_fn, g_is_made_of, e_seq, e_if, e_ret, e_op, e_or, e_not, e_bi, e_cons, e_nil, len_s hz, h, h2, e_nx, e_for, e_iter, signs_tl, -List.all_eq_true]
    rw [hl]
    cases c : (tl z).all (fun c => decide (c ∈ tl A)) <;> simp [gc_low0, e_ret]
  · have h2 : n < (z.length : Int) := by omega
    simp [f_is_made_of, e_fn, g_is_made_of, e_seq, e_if, e_ret, e_op, e_or, e_not, e_bi, e_cons, e_nil, len_s hz, h, h2, e_nx, gc_low0]
theorem made_of_x {v : LV} (A : Str) (n : Int) {S : Sto} (nx : isX v = false) (h : isiL [v, .ty "str"] S = .ok (.bl false) S) : f_is_made_of [v, .str A, .int n] S = .ok (.bl false) S := by
  simp [f_is_made_of, e_fn, g_is_made_of, e_seq, e_if, e_ret, e_op, e_or, e_not, e_bi, e_cons, e_nil, gc_low0, nx, h]
theorem is_name_s (z : Str) (hz : z.length ≤ 16777216) (S : Sto) : f_is_name [.str z] S = .ok (.bl (nameOk (tl z))) S := by
  simp [f_is_name, e_fn, g_is_name, e_ret, e_and, e_call, e_cons, e_nil, e_op, made_of_e z _ _ hz, -List.all_eq_true]
  cases h : (decide ((z.length : Int) ≤ 12) && (tl z).all (fun c => decide (c ∈ tl abcT))) <;>
  simp [nameOk, len_tl, h, gc_low0, e_op, -List.all_eq_true]
theorem is_name_v {v : LV} {S : Sto} (o : Nv S v) : f_is_name [v] S = .ok (.bl (nameV v)) S := by
  cases w : wS v with
  | some z =>
    have := wS_some w
    subst this
    exact is_name_s z (o.sz z rfl) S
  | none =>
    have : nameV v = false := by cases v <;> first | rfl | cases w
    rw [this]
    simp [f_is_name, e_fn, g_is_name, e_ret, e_and, e_call, e_cons, e_nil, made_of_x _ _ o.nx (isi_str o.ok w), gc_low0, o.nx]
theorem names_loop (S : Sto) (w : LV) : ∀ (vs : List LV) (x : Option LV), (∀ v ∈ vs, Nv S v) → ∃ x', forL (gNm 1) (lIf (lNot (lCall f_is_name (lCons (lVar 1) lNil)))
  (lRaise code_BadPath)
  lNx) vs [some w, x] S = if vs.all nameV = true then .nx [some w, x'] S else .ex code_BadPath [] [some w, x'] S
  | [], x, _ => ⟨x, by simp [forL]⟩
  | v :: vs, x, h => by
    have hv := h v (List.mem_cons_self ..)
    cases c : nameV v with
    | true =>
      obtain ⟨x', ih⟩ := names_loop S w vs (some v) fun u hu => h u (List.mem_cons_of_mem _ hu)
      refine ⟨x', ?_⟩
      rw [List.all_cons, c, Bool.true_and, ← ih]
      conv => lhs; unfold forL
      simp [gNm, e_if, e_not, e_call, e_cons, e_nil, hv.nx, is_name_v hv, c, e_nx]
    | false =>
      refine ⟨some v, ?_⟩
      rw [List.all_cons, c, Bool.false_and]
      unfold forL
      simp [gNm, e_if, e_not, e_call, e_cons, e_nil, hv.nx, is_name_v hv, c, e_raise]
theorem need_names_e {S : Sto} {n : Nat} {vs : List LV} (hn : S[n]? = some (.lst vs)) (hv : ∀ v ∈ vs, Nv S v) : f_need_names [.ref n] S = if (decide (1 ≤ vs.length) && (decide (vs.length ≤ 6) && vs.all nameV)) = true then .ok .non S else .ex code_BadPath [] S := by
  have hl := len_ref hn
  by_cases c1 : 1 ≤ vs.length
  · have c1' : (1 : Int) ≤ vs.length := by omega
    by_cases c2 : vs.length ≤ 6
    · have c2' : (vs.length : Int) ≤ 6 := by omega
      obtain ⟨x', hlp⟩ := names_loop S (.ref n) vs none hv
      have hf : forS (gNm 1) (lIf (lNot (lCall f_is_name (lCons (lVar 1) lNil))) (lRaise code_BadPath) lNx) [some (.ref n), none] (.ok (itRef n vs.length) S) = _ :=
        forS_fix (fun ds => ∃ x, ds = [some (.ref n), x]) hn (fun v hvm ds ds1 ⟨x, e⟩ e2 => by
          have hv1 := hv v hvm
          subst e
          cases e2
          cases c : nameV v with
          | true => simp [e_if, e_not, e_call, e_cons, e_nil, hv1.nx, is_name_v hv1, c, e_nx]
          | false => simp [e_if, e_not, e_call, e_cons, e_nil, hv1.nx, is_name_v hv1, c, e_raise]) ⟨none, rfl⟩
      rw [hlp] at hf
      simp only [code_BadPath] at hf ⊢
      cases c : vs.all nameV with
      | true =>
        rw [c, if_pos rfl] at hf
        simp [f_need_names, e_fn, g_need_names, e_seq, e_if, e_not, e_chain, e_bi, e_cons, e_nil, hl, c1, c2, c1', c2', e_nx, e_for, e_iter, iter_ref hn, hf, gc_low0, -List.all_eq_true]
      | false =>
        rw [c, if_neg (by decide)] at hf
        simp [f_need_names, e_fn, g_need_names, e_seq, e_if, e_not, e_chain, e_bi, e_cons, e_nil, hl, c1, c2, c1', c2', e_nx, e_for, e_iter, iter_ref hn, hf, gc_ex0, -List.all_eq_true]
    · have c2' : ¬ (vs.length : Int) ≤ 6 := by omega
      simp [f_need_names, e_fn, g_need_names, e_seq, e_if, e_not, e_chain, e_bi, e_cons, e_nil, hl, c1, c2, c1', c2', e_raise, gc_ex0, code_BadPath]
  · have c1' : ¬ (1 : Int) ≤ vs.length := by omega
    simp [f_need_names, e_fn, g_need_names, e_seq, e_if, e_not, e_chain, e_bi, e_cons, e_nil, hl, c1, c1', e_raise, gc_ex0, code_BadPath]
theorem split_fine {z : Str} {n : Nat} (h : z.length ≤ n) : ∀ y ∈ Txt.split z colT, y.length ≤ n := fun y hy => by
  have e := join_sp (tl z)
  have hm : tl y ∈ sp (tl z) := by rw [← split_sp]; exact List.mem_map.mpr ⟨y, hy, rfl⟩
  have key : ∀ (ps : List (List Nat)) (p : List Nat), p ∈ ps → p.length ≤ (TL.joinL [58] ps).length := fun ps => by
    induction ps with
    | nil => intro p hp; cases hp
    | cons q r ih =>
      intro p hp
      cases r with
      | nil =>
        have : p = q := by simpa using hp
        subst this
        exact Nat.le_refl _
      | cons t r =>
        show p.length ≤ (q ++ ([58] ++ TL.joinL [58] (t :: r))).length
        rw [List.length_append, List.length_append]
        rcases List.mem_cons.mp hp with rfl | hp
        · omega
        · have := ih p hp; omega
  have := key _ _ hm
  rw [e, len_tl, len_tl] at this
  omega
theorem names_of_s (z : Str) (hz : z.length ≤ 16000000) (S : Sto) : f_names_of [.str z] S = if pathOk (tl z) = true then .ok (.ref S.length) (S ++ [.lst ((Txt.split z colT).map .str)]) else .ex code_BadPath [] S := by
  have hsp : splitL (.str z) [.str colT] S = .ok (.ref S.length) (S ++ [.lst ((Txt.split z colT).map .str)]) := by
    show (if (decide (colT.length ≠ 0) && small (z.length + 2)) = true then _ else _) = _
    rw [if_pos (by unfold small; rw [decide_eq_true (show z.length + 2 ≤ 16777216 by omega)]; rfl)]
  have nn := need_names_e (S := S ++ [.lst ((Txt.split z colT).map .str)]) (n := S.length) (vs := (Txt.split z colT).map .str) (by rw [get_app0]; rfl) (fun v hv => by
    obtain ⟨y, hy, rfl⟩ := List.mem_map.mp hv
    exact Nv.str (by have := split_fine hz y hy; omega))
  have hc : (decide (1 ≤ ((Txt.split z colT).map LV.str).length) && (decide (((Txt.split z colT).map LV.str).length ≤ 6) && ((Txt.split z colT).map LV.str).all nameV)) = pathOk (tl z) := by
    have h1 : 1 ≤ (sp (tl z)).length := by
      cases e : sp (tl z) with
      | nil => exact absurd e (sp_ne _)
      | cons a t => simp
    rw [List.length_map, LL.split_len, decide_eq_true h1, Bool.true_and, List.all_map]
    unfold pathOk
    rw [← split_sp, List.all_map, List.length_map]
    rfl
  rw [hc] at nn
  cases c : pathOk (tl z) with
  | true =>
    rw [c, if_pos rfl] at nn
    simp [f_names_of, e_fn, g_names_of, e_seq, e_if, e_not, e_bi, e_cons, e_nil, e_nx, e_asg, e_bm, hsp, e_nm, e_drop, e_call, nn, e_ret]
    exact gc_new (by
      show lowVs _ _ = true
      induction (Txt.split z colT) with
      | nil => rfl
      | cons a t ih => simpa using ih)
  | false =>
    rw [c, if_neg (by decide)] at nn
    simp [f_names_of, e_fn, g_names_of, e_seq, e_if, e_not, e_bi, e_cons, e_nil, e_nx, e_asg, e_bm, hsp, e_nm, e_drop, e_call, nn, gc_ex]
theorem names_of_o {v : LV} {S : Sto} (o : Okv S v) (w : wS v = none) : f_names_of [v] S = .ex code_BadPath [] S := by
  simp [f_names_of, e_fn, g_names_of, e_seq, e_if, e_not, e_bi, e_cons, e_nil, o.nx, isi_str o w, e_raise, gc_ex0, code_BadPath]
theorem path_of_ok {S : Sto} {n : Nat} {ys : List Str} (hn : S[n]? = some (.lst (ys.map .str))) (h1 : 1 ≤ ys.length) (h2 : ys.length ≤ 6) (h3 : ∀ y ∈ ys, nameOk (tl y) = true) : f_path_of [.ref n] S = .ok (.str (Txt.join colT ys)) S := by
  have hl : ∀ y ∈ ys, y.length ≤ 12 := fun y hy => by
    have := h3 y hy
    unfold nameOk at this
    simp only [Bool.and_eq_true] at this
    have := of_decide_eq_true this.1.1
    rw [len_tl] at this
    omega
  have nn := need_names_e hn (fun v hv => by
    obtain ⟨y, hy, rfl⟩ := List.mem_map.mp hv
    exact Nv.str (by have := hl y hy; omega))
  rw [if_pos (by
    rw [List.length_map, decide_eq_true h1, decide_eq_true h2, Bool.true_and, Bool.true_and, List.all_map, List.all_eq_true]
    exact h3)] at nn
  simp [f_path_of, e_fn, g_path_of, e_seq, e_drop, e_call, e_cons, e_nil, nn, e_ret, e_bm, joinC hn hl (by omega), gc_low0]
theorem path_of_ex {S : Sto} {n : Nat} {vs : List LV} (hn : S[n]? = some (.lst vs)) (hv : ∀ v ∈ vs, Nv S v) (h : (decide (1 ≤ vs.length) && (decide (vs.length ≤ 6) && vs.all nameV)) = false) : f_path_of [.ref n] S = .ex code_BadPath [] S := by
  have nn := need_names_e hn hv
  rw [if_neg (by rw [h]; decide)] at nn
  simp [f_path_of, e_fn, g_path_of, e_seq, e_drop, e_call, e_cons, e_nil, nn, gc_ex0]
/-- the paths of fewer names -/
def aboveL (ys : List Str) : List LV := (List.range (ys.length - 1)).map fun k => .str (Txt.join colT (ys.take (k + 1)))
theorem above_e (z : Str) (hz : z.length ≤ 2000) (S : Sto) : f_above [.str z] S = .ok (.ref S.length) (S ++ [.lst (aboveL (Txt.split z colT))]) := by
  have hsp : splitL (.str z) [.str colT] S = .ok (.ref S.length) (S ++ [.lst ((Txt.split z colT).map .str)]) := by
    show (if (decide (colT.length ≠ 0) && small (z.length + 2)) = true then _ else _) = _
    rw [if_pos (by unfold small; rw [decide_eq_true (show z.length + 2 ≤ 16777216 by omega)]; rfl)]
  have hf := split_fine hz
  have hk : (Txt.split z colT).length ≤ 2001 := by
    rw [LL.split_len]
    have key : ∀ a : List Nat, (sp a).length ≤ a.length + 1 := fun a => by
      induction a with
      | nil => simp [sp]
      | cons c a ih =>
        by_cases h : c = 58
        · subst h; rw [sp_col]; simp; exact ih
        · rw [sp_oth a h]
          cases e : sp a with
          | nil => simp
          | cons x t => rw [e] at ih; simp at ih ⊢; omega
    have := key (tl z)
    rw [len_tl] at this
    omega
  have h1 : 1 ≤ (Txt.split z colT).length := by
    rw [LL.split_len]
    cases e : sp (tl z) with
    | nil => exact absurd e (sp_ne _)
    | cons a t => simp
  generalize Txt.split z colT = ys at *
  have lr := len_ref (n := S.length) (xs := ys.map LV.str) (S := S ++ [.lst (ys.map .str)]) (by rw [get_app0]; rfl)
  rw [List.length_map] at lr
  have rg : ∀ S, rng2O [.int 1, .int ys.length] S = .ok (itOf (rng 1 (ys.length - 1))) S := fun S => by
    rw [rng2_e (by omega) (by omega) (by omega) (by omega), show ((ys.length : Int) - 1).toNat = ys.length - 1 by omega]
  obtain ⟨U, hU⟩ := lcL_growP (lg := gNm 2) (ft := lYes) (fe := lBm "str" joinL2 (lC (.str ":")) (lCons (lSl (lVar 1) none (some (lVar 2))) lNil)) (ds := [some (.str z), some (.ref S.length), none])
    (fun S' => S'[S.length]? = some (.lst (ys.map .str))) (fun S' U h => get_more h) (fun _ => true) (fun v => match v with | .int j => .str (Txt.join colT (ys.take j.toNat)) | _ => .non) (rng 1 (ys.length - 1)) [] (S ++ [.lst (ys.map .str)]) (by rw [get_app0]; rfl) (fun v hv S' p => by
      obtain ⟨k, hk, rfl⟩ := mem_rng hv
      refine ⟨_, [], [.lst ((ys.take (1 + k)).map .str)], rfl, by simp, fun _ => ?_⟩
      have h2 := sl_ref (lo := none) (hi := some (1 + (k : Int))) p
      rw [cut_take _ (by omega), show (1 + (k : Int)).toNat = 1 + k by omega] at h2
      have jn := joinC (n := S'.length) (S := S' ++ [.lst ((ys.take (1 + k)).map .str)]) (ys := ys.take (1 + k)) (m := 2000) (by rw [get_app0]; rfl) (fun y hy => hf y (List.mem_of_mem_take hy)) (by
        have := List.length_take_le (1 + k) ys
        have : (ys.take (1 + k)).length ≤ 2001 := by rw [List.length_take]; omega
        omega)
      rw [List.map_take] at jn
      simp [gNm, e_bm, e_cons, e_nil, e_sl, h2, jn]
      rw [show (1 + (k : Int)).toNat = 1 + k by omega]) (by unfold rng; simp; omega)
  rw [List.filter_eq_self.mpr fun _ _ => rfl, List.nil_append] at hU
  have hl : (rng 1 (ys.length - 1)).map (fun v => match v with | .int j => LV.str (Txt.join colT (ys.take j.toNat)) | _ => .non) = aboveL ys := by
    unfold aboveL rng
    rw [List.map_map]
    refine List.map_congr_left fun k _ => ?_
    show LV.str (Txt.join colT (ys.take (1 + (k : Int)).toNat)) = _
    rw [show (1 + (k : Int)).toNat = k + 1 by omega]
  rw [hl] at hU
  have gc : gcR S (.ok (.ref (S ++ [LO.lst (ys.map .str)] ++ U).length) (S ++ [LO.lst (ys.map .str)] ++ U ++ [.lst (aboveL ys)])) = .ok (.ref S.length) (S ++ [.lst (aboveL ys)]) := by
    have := gc_ref (S := S) (U := [LO.lst (ys.map .str)] ++ U ++ [.lst (aboveL ys)]) (o := .lst (aboveL ys)) (k := 1 + U.length) (by simp [Nat.add_comm 1]) (by
      show lowVs _ (aboveL ys) = true
      unfold aboveL
      induction (List.range (ys.length - 1)) with
      | nil => rfl
      | cons a t ih => simpa using ih)
    rw [← this]
    simp [Nat.add_assoc, Nat.add_comm 1]
  simp [f_above, e_fn, g_above, e_seq, e_asg, e_bm, e_cons, e_nil, hsp, e_nm, e_ret, e_lc, e_rng2, e_bi, lr, rg, wipeL]
  simp at hU gc
  rw [hU]
  simp
  exact gc
theorem is_within_e (a b : Str) (ha : a.length ≤ 100000) (hb : b.length ≤ 100000) (S : Sto) : f_is_within [.str a, .str b] S = .ok (.bl ((tl a == tl b) || ((tl a).take (tl b ++ [58]).length == tl b ++ [58]))) S := by
  have c1 : colT.length = 1 := rfl
  have ad : ∀ S, addL (.str b) (.str colT) S = .ok (.str (b ++ colT)) S := fun S => add_ss (by omega)
  have st : ∀ S, startsL (.str a) [.str (b ++ colT)] S = .ok (.bl ((tl a).take (tl b ++ [58]).length == tl b ++ [58])) S := fun S => by
    show R.ok (.bl (Txt.startswith a (b ++ colT))) S = _
    rw [starts_pre (by rw [tl_app]; simp [show tl colT = [58] from rfl]), tl_app]
    rfl
  cases h : (tl a == tl b) with
  | true => simp [f_is_within, e_fn, g_is_within, e_ret, e_or, e_op, h, gc_low0]
  | false => simp only [f_is_within, g_is_within]; rw [e_fn (by rfl)]; simp [e_ret, e_or, e_op, h, e_bm, e_cons, e_nil, ad]; rw [st]; simp [gc_low0]
theorem cell_at_e (ns : List Int) (k : Int) (hk : 0 ≤ k) (S : Sto) : f__law_cell_at [.scr ns, .int k] S = .ok (.int (cell ns k)) S := by
  by_cases h : k < ns.length
  · simp [f__law_cell_at, e_fn, g__law_cell_at, e_seq, e_if, e_ret, e_op, e_bi, e_cons, e_nil, gc_low0, h, ix_c hk h]
  · simp [f__law_cell_at, e_fn, g__law_cell_at, e_seq, e_if, e_ret, e_op, e_bi, e_cons, e_nil, gc_low0, h, e_nx, cell]
    rw [List.getElem?_eq_none (by omega)]
    rfl
end K06


set_option Elab.async false
set_option linter.all false
set_option maxRecDepth 100000
set_option maxHeartbeats 4000000
namespace K06
open PySem PySem.Spec PyProof.Rows L2 LL
theorem abc_ix (j : Int) (S : Sto) : ixL (.str abcT) (.int (j % 26)) S = .ok (.str (one (atN (tl abcT) (j % 26)))) S := ix_s (by omega) (by rw [abc_len]; omega) (by rw [abc_len]; omega)
theorem abc_at (j : Int) : atN (tl abcT) (j % 26) ∈ tl abcT := by
  unfold atN
  have hl : (j % 26).toNat < (tl abcT).length := by rw [len_tl, abc_len]; omega
  rw [List.getD_eq_getElem?_getD, List.getElem?_eq_getElem hl]
  exact List.getElem_mem hl
theorem nameOk_of {a : List Nat} (h1 : 1 ≤ a.length) (h2 : a.length ≤ 12) (h : ∀ c ∈ a, c ∈ tl abcT) : nameOk a = true := by
  unfold nameOk
  rw [decide_eq_true (by omega), Bool.true_and, List.all_eq_true.mpr fun c hc => decide_eq_true (h c hc), Bool.true_and]
  cases a with
  | nil => simp at h1
  | cons c a => rfl
theorem codes_abc (g : Int → Int) (lo : Int) (n : Nat) : ∀ c ∈ codes (fun j => atN (tl abcT) (g j % 26)) lo n, c ∈ tl abcT := fun c hc => by
  obtain ⟨k, hk, rfl⟩ := List.mem_map.mp hc
  exact abc_at _
theorem name_by_e (cell k : Int) (k0 : 0 ≤ k) (k1 : k < 12) : ∃ w, nameOk (tl w) = true ∧ ∀ S, f__law_name_by [.int cell, .int k] S = .ok (.str w) S := by
  generalize hf : cell / 432 % 26 = f
  have body : ∀ (x4 x5 x6 : Option LV) (n : Nat), n ≤ 100 → ∀ S, lcL (gNm 7) lYes (lOp ixL (lVar 2) (lOp modL (lOp addL (lVar 3) (lOp mulL (lC (.int 5)) (lVar 7))) (lC (.int 26)))) [some (.int cell), some (.int k), some (.str abcT), some (.int f), x4, x5, x6, none] (rng 0 n) [] S =
      .ok (.ref S.length) (S ++ [.lst ((codes (fun j => atN (tl abcT) ((f + 5 * j) % 26)) 0 n).map fun c => .str (one c))]) := fun x4 x5 x6 n hn S => by
    rw [lc_ones (g := fun j => atN (tl abcT) ((f + 5 * j) % 26)) (hn := by omega)]
    intro j hj
    simp [e_op, mul_l, mod_ii, abc_ix]
  by_cases q : cell % 3 = 1
  · have hc : ∀ c ∈ codes (fun j => atN (tl abcT) ((f + 5 * j) % 26)) 0 (1 + k).toNat, c ∈ tl abcT := codes_abc (fun j => f + 5 * j) 0 _
    have hl : (codes (fun j => atN (tl abcT) ((f + 5 * j) % 26)) 0 (1 + k).toNat).length = (1 + k).toNat := codes_len _ _ _
    have b := body none none none (1 + k).toNat (by omega)
    have rg : ∀ S, rng1O [.int (1 + k)] S = .ok (itOf (rng 0 (1 + k).toNat)) S := fun S => rng1_e (by omega) (by omega)
    generalize hN : (1 + k).toNat = n at *
    generalize codes (fun j => atN (tl abcT) ((f + 5 * j) % 26)) 0 n = cs at *
    refine ⟨Txt.join ("" : Str) (cs.map one), by rw [LL.join_one]; exact nameOk_of (by omega) (by omega) hc, fun S => ?_⟩
    have jn := join_ref (n := S.length) (S := S ++ [.lst (cs.map fun c => .str (one c))]) (cs := cs) (by rw [get_app0]; rfl) (by omega)
    simp [f__law_name_by, e_fn, g__law_name_by, e_seq, e_asg, e_nm, e_op, div_ii, mod_ii, hf, e_if, q, e_ret, e_bm, e_cons, e_nil, e_lc, e_rng1, rg, wipeL, b, jn, gc_low]
  · have s1 : 1 ≤ 1 + cell / 3 % 12 := by omega
    have s2 : 1 + cell / 3 % 12 ≤ 12 := by omega
    have hc : ∀ c ∈ codes (fun j => atN (tl abcT) ((f + 5 * j) % 26)) 0 (1 + cell / 3 % 12).toNat, c ∈ tl abcT := codes_abc (fun j => f + 5 * j) 0 _
    have hl : (codes (fun j => atN (tl abcT) ((f + 5 * j) % 26)) 0 (1 + cell / 3 % 12).toNat).length = (1 + cell / 3 % 12).toNat := codes_len _ _ _
    have p0 := Int.emod_nonneg (cell / 36 % 12) (show 1 + cell / 3 % 12 ≠ 0 by omega)
    have p1 := Int.emod_lt_of_pos (cell / 36 % 12) (show 0 < 1 + cell / 3 % 12 by omega)
    have md : ∀ S, modL (.int (cell / 36 % 12)) (.int (1 + cell / 3 % 12)) S = .ok (.int (cell / 36 % 12 % (1 + cell / 3 % 12))) S := fun S => mod_ii (by omega)
    have rg : ∀ S, rng1O [.int (1 + cell / 3 % 12)] S = .ok (itOf (rng 0 (1 + cell / 3 % 12).toNat)) S := fun S => rng1_e (by omega) (by omega)
    generalize cell / 36 % 12 % (1 + cell / 3 % 12) = p at *
    generalize hS : 1 + cell / 3 % 12 = s at *
    have b := body (some (.int s)) (some (.int p)) none s.toNat (by omega)
    generalize hN : s.toNat = n at *
    generalize codes (fun j => atN (tl abcT) ((f + 5 * j) % 26)) 0 n = cs at *
    have cd := abc_at (f + 5 * p + 1 + k)
    have cix : ∀ S, ixL (.str abcT) (.int ((f + 5 * p + 1 + k) % 26)) S = _ := abc_ix (f + 5 * p + 1 + k)
    generalize atN (tl abcT) ((f + 5 * p + 1 + k) % 26) = d at cd cix
    have hc' : ∀ c ∈ cs.set p.toNat d, c ∈ tl abcT := fun c h => by
      rcases List.mem_or_eq_of_mem_set h with h | rfl
      · exact hc c h
      · exact cd
    refine ⟨Txt.join ("" : Str) ((cs.set p.toNat d).map one), by rw [LL.join_one]; exact nameOk_of (by rw [List.length_set]; omega) (by rw [List.length_set]; omega) hc', fun S => ?_⟩
    have pt : putO (.ref S.length) (.int p) (.str (one d)) (S ++ [.lst (cs.map fun c => .str (one c))]) = some (S ++ [.lst ((cs.set p.toNat d).map fun c => .str (one c))]) := by
      rw [put_l (xs := cs.map fun c => .str (one c)) (by rw [get_app0]; rfl) p0 (by rw [List.length_map]; omega), set_app0, List.map_set]
      rfl
    have jn := join_ref (n := S.length) (S := S ++ [.lst ((cs.set p.toNat d).map fun c => .str (one c))]) (cs := cs.set p.toNat d) (by rw [get_app0]; rfl) (by rw [List.length_set]; omega)
    have gc : ∀ z : Str, gcR S (.ok (.str z) (S ++ [.lst ((cs.set p.toNat d).map fun c => .str (one c))])) = .ok (.str z) S := fun z => gc_low rfl
    generalize ((cs.set p.toNat d).map fun c => LV.str (one c)) = L2' at *
    simp [f__law_name_by, e_fn, g__law_name_by, e_seq, e_asg, e_nm, e_op, div_ii, mod_ii, hf, e_if, q, e_nx, hS, md, e_lc, e_rng1, e_cons, e_nil, rg, wipeL, b, e_sub, mul_l, cix, sub3_ok pt, e_ret, e_bm, jn, gc]


theorem path_split (a : List Nat) : pathOk a = (a.all (fun c => c == 58 || decide (c ∈ tl abcT)) && (decide ((sp a).length ≤ 6) && (sp a).all (fun x => decide (1 ≤ x.length) && decide (x.length ≤ 12)))) := by
  rw [← sp_all]
  unfold pathOk
  have : ∀ l : List (List Nat), l.all nameOk = (l.all (fun x => x.all fun c => decide (c ∈ tl abcT)) && l.all (fun x => decide (1 ≤ x.length) && decide (x.length ≤ 12))) := fun l => by
    induction l with
    | nil => rfl
    | cons x l ih =>
      rw [List.all_cons, List.all_cons, List.all_cons, ih]
      have e : nameOk x = ((x.all fun c => decide (c ∈ tl abcT)) && (decide (1 ≤ x.length) && decide (x.length ≤ 12))) := by
        unfold nameOk
        have e1 : decide ((x.length : Int) ≤ 12) = decide (x.length ≤ 12) := decide_eq_decide.mpr (by omega)
        rw [e1]
        cases x with
        | nil => simp
        | cons c x =>
          have : (!((c :: x : List Nat) == [])) = true := rfl
          rw [this, Bool.and_true, decide_eq_true (show 1 ≤ (c :: x).length by simp), Bool.true_and, Bool.and_comm]
      rw [e]
      generalize (x.all fun c => decide (c ∈ tl abcT)) = p1
      generalize (decide (1 ≤ x.length) && decide (x.length ≤ 12)) = p2
      generalize (l.all fun x => x.all fun c => decide (c ∈ tl abcT)) = p3
      generalize (l.all fun x => decide (1 ≤ x.length) && decide (x.length ≤ 12)) = p4
      cases p1 <;> cases p2 <;> cases p3 <;> cases p4 <;> rfl
  rw [this]
  generalize ((sp a).all fun x => x.all fun c => decide (c ∈ tl abcT)) = p1
  generalize decide ((sp a).length ≤ 6) = p2
  cases p1 <;> cases p2 <;> rfl
def glue (w : List Nat) : List (List Nat) → List (List Nat)
  | h :: t => (w ++ h) :: t
  | [] => [w]
theorem read_loop (S : Sto) (z : LV) : ∀ (l : List Nat) (init : List Str) (w : Str) (x : Option LV), w.length + l.length + init.length ≤ 1000000 →
    (l.all (fun c => c == 58 || decide (c ∈ tl abcT)) = true → ∃ (x' : Option LV) (zs : List Str), zs.map tl = init.map tl ++ glue (tl w) (sp l) ∧ forL (gNm 2) (lIf (lOp eqL (lVar 2) (lC (.str ":")))
  (lDrop (lBm "list" appendL (lVar 1) (lCons (lC (.str "")) lNil)))
  (lIf (lOp inL (lVar 2) (lC (.str "abcdefghijklmnopqrstuvwxyz")))
  (lSub (lOp addL (lOp ixL (lVar 1) (lUn negL (lC (.int 1)))) (lVar 2)) (lVar 1) (lUn negL (lC (.int 1))))
  (lRet (lC .non)))) (l.map fun c => .str (one c)) [some z, some (.ref S.length), x, none] (S ++ [.lst ((init ++ [w]).map .str)]) = .nx [some z, some (.ref S.length), x', none] (S ++ [.lst (zs.map .str)])) ∧
    (l.all (fun c => c == 58 || decide (c ∈ tl abcT)) = false → ∃ U, forL (gNm 2) (lIf (lOp eqL (lVar 2) (lC (.str ":")))
  (lDrop (lBm "list" appendL (lVar 1) (lCons (lC (.str "")) lNil)))
  (lIf (lOp inL (lVar 2) (lC (.str "abcdefghijklmnopqrstuvwxyz")))
  (lSub (lOp addL (lOp ixL (lVar 1) (lUn negL (lC (.int 1)))) (lVar 2)) (lVar 1) (lUn negL (lC (.int 1))))
  (lRet (lC .non)))) (l.map fun c => .str (one c)) [some z, some (.ref S.length), x, none] (S ++ [.lst ((init ++ [w]).map .str)]) = .rt .non (S ++ U))
  | [], init, w, x, h => ⟨fun _ => ⟨x, init ++ [w], by simp [glue, sp], rfl⟩, fun e => by cases e⟩
  | c :: l, init, w, x, h => by
    rw [List.length_cons] at h
    rw [List.map_cons, List.all_cons]
    by_cases h58 : c = 58
    · subst h58
      have ih := read_loop S z l (init ++ [w]) ("" : Str) (some (.str (one 58))) (by rw [List.length_append]; show 0 + _ + _ ≤ _; simp; omega)
      have ap : appendL (.ref S.length) [.str ("" : Str)] (S ++ [.lst ((init ++ [w]).map .str)]) = .ok .non (S ++ [.lst ((init ++ [w] ++ [("" : Str)]).map .str)]) := by
        have : (S ++ [LO.lst ((init ++ [w]).map .str)])[S.length]? = some (.lst ((init ++ [w]).map .str)) := by rw [get_app0]; rfl
        simp only [appendL, this]
        rw [if_pos (by unfold small; exact decide_eq_true (by simp; omega)), set_app0]
        simp
      have it : isT "list" (.ref S.length) (S ++ [.lst ((init ++ [w]).map .str)]) = true := by
        have : (S ++ [LO.lst ((init ++ [w]).map .str)])[S.length]? = some (.lst ((init ++ [w]).map .str)) := by rw [get_app0]; rfl
        simp only [isT, this]
        rfl
      have step : forL (gNm 2) (lIf (lOp eqL (lVar 2) (lC (.str ":")))
  (lDrop (lBm "list" appendL (lVar 1) (lCons (lC (.str "")) lNil)))
  (lIf (lOp inL (lVar 2) (lC (.str "abcdefghijklmnopqrstuvwxyz")))
  (lSub (lOp addL (lOp ixL (lVar 1) (lUn negL (lC (.int 1)))) (lVar 2)) (lVar 1) (lUn negL (lC (.int 1))))
  (lRet (lC .non)))) (.str (one 58) :: l.map fun c => .str (one c)) [some z, some (.ref S.length), x, none] (S ++ [.lst ((init ++ [w]).map .str)]) =
          forL (gNm 2) (lIf (lOp eqL (lVar 2) (lC (.str ":")))
  (lDrop (lBm "list" appendL (lVar 1) (lCons (lC (.str "")) lNil)))
  (lIf (lOp inL (lVar 2) (lC (.str "abcdefghijklmnopqrstuvwxyz")))
  (lSub (lOp addL (lOp ixL (lVar 1) (lUn negL (lC (.int 1)))) (lVar 2)) (lVar 1) (lUn negL (lC (.int 1))))
  (lRet (lC .non)))) (l.map fun c => .str (one c)) [some z, some (.ref S.length), some (.str (one 58)), none] (S ++ [.lst ((init ++ [w] ++ [("" : Str)]).map .str)]) := by
        conv => lhs; unfold forL
        have t58 : ([58] == tl colT) = true := rfl
        simp only [gNm, e_if, e_op, List.set_cons_succ, List.set_cons_zero, e_varS, e_var0, isX_s, op1_ok, op2_ok, e_c, eq_ss, tl_one, t58, if1_t, e_drop, e_bm, isX_r, bm1_ok it, e_cons, cons1_ok, e_nil, consK_ok, bm2_ok, ap, drop1_ok]
      rw [step]
      refine ⟨fun e => ?_, fun e => ?_⟩
      · obtain ⟨x', zs, e1, e2⟩ := ih.1 (by simpa using e)
        refine ⟨x', zs, ?_, e2⟩
        rw [e1, sp_col]
        cases q : sp l with
        | nil => exact absurd q (sp_ne l)
        | cons a t => simp [glue]
      · exact ih.2 (by simpa using e)
    · have h58' : ([c] == tl colT) = false := beq_false_of_ne fun e => h58 (by injection e)
      by_cases hL : c ∈ tl abcT
      · have ih := read_loop S z l init (w ++ one c) (some (.str (one c))) (by rw [app_len, len_one]; omega)
        have hx : (S ++ [LO.lst ((init ++ [w]).map .str)])[S.length]? = some (.lst ((init ++ [w]).map .str)) := by rw [get_app0]; rfl
        have ix : ixL (.ref S.length) (.int (-1)) (S ++ [.lst ((init ++ [w]).map .str)]) = .ok (.str w) (S ++ [.lst ((init ++ [w]).map .str)]) := by
          simp only [ixL, ixO, hx, atI_m1]
          simp
        have ad : addL (.str w) (.str (one c)) (S ++ [.lst ((init ++ [w]).map .str)]) = .ok (.str (w ++ one c)) (S ++ [.lst ((init ++ [w]).map .str)]) := add_ss (by rw [len_one]; omega)
        have pt : putO (.ref S.length) (.int (-1)) (.str (w ++ one c)) (S ++ [.lst ((init ++ [w]).map .str)]) = some (S ++ [.lst ((init ++ [w ++ one c]).map .str)]) := by
          simp only [putO, hx]
          have : ixN ((init ++ [w]).map LV.str).length (-1) = some init.length := by
            unfold ixN
            rw [if_neg (by omega), if_pos (by simp; omega)]
            simp
            omega
          rw [this]
          simp only
          rw [set_app0]
          simp
        have step : forL (gNm 2) (lIf (lOp eqL (lVar 2) (lC (.str ":")))
  (lDrop (lBm "list" appendL (lVar 1) (lCons (lC (.str "")) lNil)))
  (lIf (lOp inL (lVar 2) (lC (.str "abcdefghijklmnopqrstuvwxyz")))
  (lSub (lOp addL (lOp ixL (lVar 1) (lUn negL (lC (.int 1)))) (lVar 2)) (lVar 1) (lUn negL (lC (.int 1))))
  (lRet (lC .non)))) (.str (one c) :: l.map fun c => .str (one c)) [some z, some (.ref S.length), x, none] (S ++ [.lst ((init ++ [w]).map .str)]) =
            forL (gNm 2) (lIf (lOp eqL (lVar 2) (lC (.str ":")))
  (lDrop (lBm "list" appendL (lVar 1) (lCons (lC (.str "")) lNil)))
  (lIf (lOp inL (lVar 2) (lC (.str "abcdefghijklmnopqrstuvwxyz")))
  (lSub (lOp addL (lOp ixL (lVar 1) (lUn negL (lC (.int 1)))) (lVar 2)) (lVar 1) (lUn negL (lC (.int 1))))
  (lRet (lC .non)))) (l.map fun c => .str (one c)) [some z, some (.ref S.length), some (.str (one c)), none] (S ++ [.lst ((init ++ [w ++ one c]).map .str)]) := by
          conv => lhs; unfold forL
          simp only [gNm, e_if, e_op, List.set_cons_succ, List.set_cons_zero, e_varS, e_var0, isX_s, op1_ok, op2_ok, e_c, eq_ss, tl_one, h58', if1_f, in_ss, inT_1, hL, decide_true, if1_t, e_sub, isX_r, e_un, un1_ok, neg_i, ix, ad, sub1_ok, sub2_ok, sub3_ok pt]
        rw [step]
        refine ⟨fun e => ?_, fun e => ?_⟩
        · obtain ⟨x', zs, e1, e2⟩ := ih.1 (by rw [beq_false_of_ne h58, decide_eq_true hL] at e; simpa using e)
          refine ⟨x', zs, ?_, e2⟩
          rw [e1, sp_oth l h58]
          cases q : sp l with
          | nil => exact absurd q (sp_ne l)
          | cons a t => simp [glue, tl_app]
        · exact ih.2 (by rw [beq_false_of_ne h58, decide_eq_true hL] at e; simpa using e)
      · refine ⟨fun e => ?_, fun _ => ⟨[.lst ((init ++ [w]).map .str)], ?_⟩⟩
        · rw [beq_false_of_ne h58, decide_eq_false hL] at e; cases e
        · unfold forL
          simp only [gNm, e_if, e_op, List.set_cons_succ, List.set_cons_zero, e_varS, e_var0, isX_s, op1_ok, op2_ok, e_c, eq_ss, tl_one, h58', if1_f, in_ss, inT_1, hL, decide_false, e_ret, ret1_ok]


theorem low_strs {n : Nat} : ∀ ys : List Str, lowVs n (ys.map LV.str) = true
  | [] => rfl
  | a :: t => by simpa using low_strs t
theorem read_s {k : Nat} {z : Str} (hf : Fine k z) (hk : k ≤ 10000) (S : Sto) : f__law_read [.str z] S = if pathOk (tl z) = true then .ok (.ref S.length) (S ++ [.lst ((Txt.split z colT).map .str)]) else .ok .non S := by
  have hz := hf.len
  obtain ⟨r1, r2⟩ := read_loop S (.str z) (tl z) [] ("" : Str) none (by rw [len_tl]; show 0 + z.length + 0 ≤ _; omega)
  rw [path_split]
  cases hc : (tl z).all (fun c => c == 58 || decide (c ∈ tl abcT)) with
  | false =>
    obtain ⟨U, hU⟩ := r2 hc
    have gc := gc_low (S := S) (U := U) (v := .non) rfl
    simp [f__law_read, e_fn, g__law_read, e_seq, e_if, e_not, e_bi, e_cons, e_nil, e_nx, e_asg, e_lst, e_nm, e_for, e_iter, signs_tl] at hU ⊢
    rw [hU]
    simp [gc]
  | true =>
    obtain ⟨x', zs, e1, e2⟩ := r1 hc
    have ez : zs = Txt.split z colT := by
      have : zs.map tl = (Txt.split z colT).map tl := by
        rw [e1, split_sp]
        cases q : sp (tl z) with
        | nil => exact absurd q (sp_ne _)
        | cons a t => rfl
      exact TL.map_tl_inj this
    rw [ez] at e2
    have hl : (Txt.split z colT).length = (sp (tl z)).length := LL.split_len z
    have hy := split_fine hz
    have hsp : (sp (tl z)).all (fun x => decide (1 ≤ x.length) && decide (x.length ≤ 12)) = (Txt.split z colT).all (fun y => decide (1 ≤ y.length) && decide (y.length ≤ 12)) := by
      rw [← split_sp, List.all_map]
      congr 1
    have hfine : ∀ y ∈ Txt.split z colT, PyData.strOk y = true := fun y hy => by
      have hm : tl y ∈ sp (tl z) := by rw [← split_sp]; exact List.mem_map.mpr ⟨y, hy, rfl⟩
      have hall := sp_all (fun c => decide (c ∈ tl abcT)) (tl z)
      rw [hc] at hall
      have := List.all_eq_true.mp hall _ hm
      exact (Fine.mk (n := y.length) (Nat.le_refl _) fun c hcm => abc_sg c (of_decide_eq_true (List.all_eq_true.mp this c hcm))).ok
    rw [hsp, ← hl, Bool.true_and]
    generalize Txt.split z colT = ys at *
    have hn : ∀ S : Sto, (S ++ [LO.lst (ys.map .str)])[S.length]? = some (.lst (ys.map .str)) := fun S => by rw [get_app0]; rfl
    have lr := len_ref (hn S)
    have it := iter_ref (hn S)
    rw [List.length_map] at lr
    have hys : ys.length ≤ 16777216 := by
      have : (sp (tl z)).length ≤ (tl z).length + 1 := by
        generalize tl z = a
        induction a with
        | nil => simp [sp]
        | cons c a ih =>
          by_cases h : c = 58
          · subst h; rw [sp_col]; simp; exact ih
          · rw [sp_oth a h]
            cases e : sp a with
            | nil => simp
            | cons x t => rw [e] at ih; simp at ih ⊢; omega
      rw [len_tl] at this
      omega
    by_cases h6 : ys.length ≤ 6
    · have h6' : ¬ (6 : Int) < ys.length := by omega
      have lc := lcR_fix (lg := gNm 3) (ft := lNot (lChain leL leL (lC (.int 1)) (lBi lenL (lCons (lVar 3) lNil)) (lC (.int 12)))) (fe := lVar 3) (ds := [some (.str z), some (.ref S.length), x', none]) (S := S ++ [LO.lst (ys.map .str)]) (n := S.length) (xs := ys.map .str)
        (fun v => match v with | .str y => !(decide (1 ≤ y.length) && decide (y.length ≤ 12)) | _ => false) id (hn S) (by rw [List.length_map]; exact hys) (fun v hv => by
          obtain ⟨y, hym, rfl⟩ := List.mem_map.mp hv
          have ly := hy y hym
          refine ⟨_, rfl, ?_, fun _ => by simp⟩
          by_cases a1 : 1 ≤ y.length
          · have a1' : (1 : Int) ≤ y.length := by omega
            by_cases a2 : y.length ≤ 12
            · have a2' : (y.length : Int) ≤ 12 := by omega
              simp [e_not, e_chain, e_bi, e_cons, e_nil, len_s (show y.length ≤ 16777216 by omega), a1, a2, a1', a2']
            · have a2' : ¬ (y.length : Int) ≤ 12 := by omega
              simp [e_not, e_chain, e_bi, e_cons, e_nil, len_s (show y.length ≤ 16777216 by omega), a1, a2, a1', a2']
          · have a1' : ¬ (1 : Int) ≤ y.length := by omega
            simp [e_not, e_chain, e_bi, e_cons, e_nil, len_s (show y.length ≤ 16777216 by omega), a1, a1'])
      rw [List.length_map] at lc
      rw [List.filter_map, List.map_id] at lc
      have ne : ∀ U : Sto, neL (.ref (S ++ [LO.lst (ys.map .str)]).length) (.ref ((S ++ [LO.lst (ys.map .str)]).length + 1)) (S ++ [LO.lst (ys.map .str)] ++ [.lst ((ys.filter fun y => !(decide (1 ≤ y.length) && decide (y.length ≤ 12))).map .str), .lst []]) = .ok (.bl !(ys.all fun y => decide (1 ≤ y.length) && decide (y.length ≤ 12))) (S ++ [LO.lst (ys.map .str)] ++ [.lst ((ys.filter fun y => !(decide (1 ≤ y.length) && decide (y.length ≤ 12))).map .str), .lst []]) := fun U => by
        rw [ne_strs_nil (n := (S ++ [LO.lst (ys.map .str)]).length) (k := (S ++ [LO.lst (ys.map .str)]).length + 1) (zs := ys.filter fun y => !(decide (1 ≤ y.length) && decide (y.length ≤ 12))) (by rw [get_app0]; rfl) (by rw [get_app]; rfl) fun y hy => hfine y (List.mem_filter.mp hy).1, filter_not_empty]
      have ne' := ne []
      generalize hV : (ys.filter fun y => !(decide (1 ≤ y.length) && decide (y.length ≤ 12))) = fs at *
      have lcc : (List.filter ((fun v => match v with | .str y => !(decide (1 ≤ y.length) && decide (y.length ≤ 12)) | _ => false) ∘ LV.str) ys) = fs := by rw [← hV]; rfl
      rw [lcc] at lc
      clear hsp ne
      generalize hq : (ys.all fun y => decide (1 ≤ y.length) && decide (y.length ≤ 12)) = q at *
      simp only [f__law_read]
      rw [e_fn (by rfl)]
      simp [g__law_read, e_seq, e_if, e_not, e_bi, e_cons, e_nil, e_nx, e_asg, e_lst, e_nm, e_for, e_iter, signs_tl] at e2 ⊢
      rw [e2]
      simp [e_seq, e_if, e_or, e_op, e_bi, e_cons, e_nil, lr, h6, h6', e_lc, e_iter, it, wipeL] at lc ne' ⊢
      rw [lc]
      have gA := gc_low (S := S) (U := [LO.lst (ys.map .str), .lst (fs.map .str), .lst []]) (v := .non) rfl
      have gB := gc_ref (S := S) (U := [LO.lst (ys.map .str), .lst (fs.map .str), .lst []]) (o := LO.lst (ys.map .str)) (k := 0) rfl (by
        show lowVs _ _ = true
        exact low_strs ys)
      cases q with
      | false =>
        simp [e_lst, e_nil, ne', e_ret, gA]
      | true =>
        simp [e_lst, e_nil, ne', e_ret, e_nx]
        exact gB
    · have h6' : (6 : Int) < ys.length := by omega
      have gc := gc_low (S := S) (U := [LO.lst (ys.map .str)]) (v := .non) rfl
      simp only [f__law_read]
      rw [e_fn (by rfl)]
      simp [g__law_read, e_seq, e_if, e_not, e_bi, e_cons, e_nil, e_nx, e_asg, e_lst, e_nm, e_for, e_iter, signs_tl] at e2 ⊢
      rw [e2]
      simp [e_seq, e_if, e_or, e_op, e_bi, e_cons, e_nil, lr, h6, h6', e_ret]
      exact gc
abbrev refu : LV := .tup [.str "refused"]
theorem isE_2 {f : Nat → Option Bool} {k : Bool} (h : f c = some k) : lIsE 2 f (a :: b :: some (.exc c fs) :: ds) S = .ok (.bl k) S := by simp [lIsE, h]
theorem told_x {w a : LV} {S : Sto} (h : ∀ ds, (lSeq (lIf (lOp eqL (lVar 0) (lC (.int 0)))
  (lRet (lCall f_names_of (lCons (lVar 1) lNil)))
  lNx)
  (lRet (lCall f_path_of (lCons (lVar 1) lNil)))) (some w :: some a :: ds) S = .ex code_BadPath [] (some w :: some a :: ds) S) : f__law_told [w, a] S = .ok refu S := by
  simp only [f__law_told]
  rw [e_fn (by rfl)]
  simp [g__law_told, e_seq, e_tryAs] at h ⊢
  rw [h]
  simp only [code_BadPath]
  rw [tryK_t (by rfl)]
  simp [e_seq, e_asg, e_if, e_and, e_not, isE_2 (f := hitA [(4, true)]) (c := 4) (k := true) rfl, isE_2 (f := hitA [(4, false)]) (c := 4) (k := false) rfl, e_nm, e_ret, gc_low0, e_op, e_tup, e_cons, e_nil, e_bi]
theorem told_r {w a : LV} {S U : Sto} {v : LV} (h : ∀ ds, (lSeq (lIf (lOp eqL (lVar 0) (lC (.int 0)))
  (lRet (lCall f_names_of (lCons (lVar 1) lNil)))
  lNx)
  (lRet (lCall f_path_of (lCons (lVar 1) lNil)))) (some w :: some a :: ds) S = .rt v U) : f__law_told [w, a] S = gcR S (.ok v U) := by
  simp only [f__law_told]
  rw [e_fn (by rfl)]
  simp [g__law_told, e_seq, e_tryAs] at h ⊢
  rw [h]
  simp
theorem told_0s (z : Str) (hz : z.length ≤ 16000000) (S : Sto) : f__law_told [.int 0, .str z] S = if pathOk (tl z) = true then .ok (.ref S.length) (S ++ [.lst ((Txt.split z colT).map .str)]) else .ok refu S := by
  have e := names_of_s z hz S
  cases h : pathOk (tl z) with
  | false =>
    rw [h] at e
    simp at e
    rw [told_x fun ds => by simp [e_seq, e_if, e_op, e_nx, e_ret, e_call, e_cons, e_nil, e]]
    simp
  | true =>
    rw [h] at e
    simp at e
    rw [told_r fun ds => by simp [e_seq, e_if, e_op, e_nx, e_ret, e_call, e_cons, e_nil, e]; exact ⟨rfl, rfl⟩]
    exact gc_ref (S := S) (U := [LO.lst ((Txt.split z colT).map .str)]) (k := 0) rfl (low_strs _)
theorem told_0o {v : LV} {S : Sto} (o : Okv S v) (w : wS v = none) : f__law_told [.int 0, v] S = .ok refu S := by
  have e := names_of_o o w
  exact told_x fun ds => by simp [e_seq, e_if, e_op, e_nx, e_ret, e_call, e_cons, e_nil, e, o.nx]
theorem told_1y {S : Sto} {n : Nat} {ys : List Str} (hn : S[n]? = some (.lst (ys.map .str))) (h1 : 1 ≤ ys.length) (h2 : ys.length ≤ 6) (h3 : ∀ y ∈ ys, nameOk (tl y) = true) : f__law_told [.int 1, .ref n] S = .ok (.str (Txt.join colT ys)) S := by
  have e := path_of_ok hn h1 h2 h3
  rw [told_r fun ds => by simp [e_seq, e_if, e_op, e_nx, e_ret, e_call, e_cons, e_nil, e]; exact ⟨rfl, rfl⟩]
  exact gc_low0 rfl
theorem told_1n {S : Sto} {n : Nat} {vs : List LV} (hn : S[n]? = some (.lst vs)) (hv : ∀ v ∈ vs, Nv S v) (h : (decide (1 ≤ vs.length) && (decide (vs.length ≤ 6) && vs.all nameV)) = false) : f__law_told [.int 1, .ref n] S = .ok refu S := by
  have e := path_of_ex hn hv h
  exact told_x fun ds => by simp [e_seq, e_if, e_op, e_nx, e_ret, e_call, e_cons, e_nil, e]
end K06


set_option Elab.async false
set_option linter.all false
set_option maxRecDepth 100000
set_option maxHeartbeats 4000000
namespace K06
open PySem PySem.Spec PyProof.Rows L2 LL
theorem dat_refu {S : Sto} : dat S 60 refu = some (.tuple [.str "refused"]) := rfl
theorem sh_refu : SeqAt.shaped (.tuple [.str ("refused" : Str)]) = true := by
  unfold SeqAt.shaped PyData.canLay0 PyData.depth PyData.canLayAll0 PyData.depthAll PyData.canLayAll0 PyData.depthAll PyData.canLay0 PyData.depth
  rw [(Fine.mk (n := 7) (z := ("refused" : Str)) (by decide) (by decide)).ok]
  decide
theorem eq_rr {S : Sto} : eqL refu refu S = .ok (.bl true) S := by
  unfold eqL eqV2
  rw [show eqS refu refu = none from rfl, dat_refu]
  simp only
  rw [sh_refu]
  rfl
theorem sh_s {y : Str} (h : PyData.strOk y = true) : SeqAt.shaped (.str y) = true := by
  unfold SeqAt.shaped PyData.canLay0 PyData.depth
  rw [h]
  rfl
theorem eq_sr {S : Sto} {y : Str} (h : PyData.strOk y = true) : eqL (.str y) refu S = .ok (.bl false) S := by
  unfold eqL eqV2
  rw [show eqS (.str y) refu = none from rfl, dat_refu, show dat S 60 (.str y) = some (.str y) from rfl]
  simp only
  rw [sh_refu, sh_s h]
  rfl
theorem eq_lr {S : Sto} {n : Nat} {zs : List Str} (hn : S[n]? = some (.lst (zs.map .str))) (h : ∀ z ∈ zs, PyData.strOk z = true) : eqL (.ref n) refu S = .ok (.bl false) S := by
  unfold eqL eqV2
  rw [show eqS (.ref n) refu = none from rfl, dat_refu, dat_strs hn]
  simp only
  rw [sh_refu, shaped_strs h]
  rfl
/-- a value that is laid as data, of depth 1 at most -/
def Dv (S : Sto) (v : LV) : Prop := ∃ d, dat S 59 v = some d ∧ PyData.canLay0 d = true ∧ PyData.depth d ≤ 1 ∧ PyData.eqv d d = true
theorem copy_all {S : Sto} : ∀ vs : List LV, (∀ v ∈ vs, Dv S v) → ∃ ds, seqO (vs.map (dat S 59)) = some ds ∧ PyData.canLayAll0 ds = true ∧ PyData.depthAll ds ≤ 1 ∧ PyData.eqvAll ds ds = true
  | [], _ => ⟨[], rfl, rfl, Nat.zero_le _, rfl⟩
  | v :: vs, h => by
    obtain ⟨d, h1, h2, h3, h4⟩ := h v (List.mem_cons_self ..)
    obtain ⟨ds, e1, e2, e3, e4⟩ := copy_all vs fun w hw => h w (List.mem_cons_of_mem _ hw)
    refine ⟨d :: ds, ?_, ?_, ?_, ?_⟩
    · rw [List.map_cons, h1]; unfold seqO; rw [e1]
    · unfold PyData.canLayAll0; rw [h2, e2]; rfl
    · unfold PyData.depthAll; omega
    · unfold PyData.eqvAll; rw [h4, e4]; rfl
theorem eq_copy {S : Sto} {n k : Nat} {vs : List LV} (hn : S[n]? = some (.lst vs)) (hk : S[k]? = some (.lst vs)) (h : ∀ v ∈ vs, Dv S v) : eqL (.ref n) (.ref k) S = .ok (.bl true) S := by
  obtain ⟨ds, e1, e2, e3, e4⟩ := copy_all vs h
  have d1 : ∀ j, S[j]? = some (.lst vs) → dat S 60 (.ref j) = some (.list ds) := fun j hj => by
    show (match S[j]? with | some (.lst xs) => _ | _ => none) = _
    rw [hj]
    simp only
    rw [e1]
  unfold eqL eqV2
  rw [show eqS (.ref n) (.ref k) = none from rfl]
  simp only
  rw [d1 n hn, d1 k hk]
  simp only
  have sh : SeqAt.shaped (.list ds) = true := by
    unfold SeqAt.shaped PyData.canLay0 PyData.depth
    rw [e2, Bool.true_and, decide_eq_true (by omega)]
  rw [sh]
  show R.ok (.bl (PyData.eqv (.list ds) (.list ds))) S = _
  rw [show PyData.eqv (.list ds) (.list ds) = true by rw [PyData.eqv]; exact e4]
theorem Dv.str {S : Sto} {z : Str} (h : PyData.strOk z = true) : Dv S (.str z) := ⟨.str z, rfl, by unfold PyData.canLay0; exact h, by unfold PyData.depth; exact Nat.zero_le _, by rw [PyData.eqv]; exact beq_self_eq_true _⟩
theorem Dv.lst1 {S : Sto} {n : Nat} {z : Str} (hn : S[n]? = some (.lst [.str z])) (h : PyData.strOk z = true) : Dv S (.ref n) := ⟨.list [.str z], by
    show (match S[n]? with | some (.lst xs) => _ | _ => none) = _
    rw [hn]
    rfl, by unfold PyData.canLay0 PyData.canLayAll0 PyData.canLay0 PyData.canLayAll0; rw [h]; rfl, by unfold PyData.depth PyData.depthAll PyData.depth PyData.depthAll; exact Nat.le_refl _, by rw [PyData.eqv, PyData.eqvAll, PyData.eqv, PyData.eqvAll, beq_self_eq_true]; rfl⟩
theorem Dv.tup1 {S : Sto} {z : Str} (h : PyData.strOk z = true) : Dv S (.tup [.str z]) := ⟨.tuple [.str z], rfl, by unfold PyData.canLay0 PyData.canLayAll0 PyData.canLay0 PyData.canLayAll0; rw [h]; rfl, by unfold PyData.depth PyData.depthAll PyData.depth PyData.depthAll; exact Nat.le_refl _, by rw [PyData.eqv, PyData.eqvAll, PyData.eqv, PyData.eqvAll, beq_self_eq_true]; rfl⟩
theorem Dv.i {S : Sto} {i : Int} : Dv S (.int i) := ⟨.int i, rfl, by unfold PyData.canLay0; rfl, by unfold PyData.depth; exact Nat.zero_le _, by simp [PyData.eqv]⟩
theorem Dv.b {S : Sto} {i : Bool} : Dv S (.bl i) := ⟨.bool i, rfl, by unfold PyData.canLay0; rfl, by unfold PyData.depth; exact Nat.zero_le _, by simp [PyData.eqv]⟩
theorem Dv.n {S : Sto} : Dv S .non := ⟨.none, rfl, by unfold PyData.canLay0; rfl, by unfold PyData.depth; exact Nat.zero_le _, by simp [PyData.eqv]⟩
theorem name_fine {w : Str} (h : nameOk (tl w) = true) : Fine 12 w := by
  unfold nameOk at h
  simp only [Bool.and_eq_true, decide_eq_true_eq] at h
  exact ⟨by rw [← len_tl]; omega, fun c hc => abc_sg c (of_decide_eq_true (List.all_eq_true.mp h.1.2 c hc))⟩
theorem nameOk_bad {a : List Nat} {c : Nat} (h : c ∈ a) (h2 : c ∉ tl abcT) : nameOk a = false := by
  unfold nameOk
  rw [show a.all (fun c => decide (c ∈ tl abcT)) = false from by
    rw [← Bool.not_eq_true]
    exact fun e => h2 (of_decide_eq_true (List.all_eq_true.mp e c h))]
  simp
theorem add_ll {S : Sto} {n k : Nat} {xs ys : List LV} (hn : S[n]? = some (.lst xs)) (hk : S[k]? = some (.lst ys)) (h : xs.length + ys.length ≤ 16777216) : addL (.ref n) (.ref k) S = .ok (.ref S.length) (S ++ [.lst (xs ++ ys)]) := by simp [addL, hn, hk, small, h]
theorem a13 (S : Sto) : mulL (.str ("a" : Str)) (.int 13) S = .ok (.str (Txt.mul "a" 13)) S := by rfl
theorem a13n : nameOk (tl (Txt.mul "a" 13)) = false := by decide
theorem a13f : Fine 13 (Txt.mul ("a" : Str) 13) := ⟨by decide, by decide⟩
abbrev ell (w : Str) (n : Nat) : List LV := [.str "", .str (w ++ (":" : Str)), .str ((":" : Str) ++ w), .str (w ++ (" " : Str)), .str ((" " : Str) ++ w), .str (w ++ ("A" : Str)), .str (w ++ ("1" : Str)), .str (Txt.mul "a" 13), .int 7, .non, .bl true, .ref n, .tup [.str w], .str (w ++ ("_" : Str))]
theorem str_nd {S : Sto} {k : Nat} {z : Str} (f : Fine k z) (hk : k ≤ 1000) : Nv S (.str z) ∧ Dv S (.str z) := ⟨Nv.str (by have := f.len; omega), Dv.str f.ok⟩
theorem nv_o {S : Sto} {v : LV} (o : Okv S v) (h : wS v = none) : Nv S v := ⟨o, fun y e => by rw [e] at h; cases h⟩
theorem ell_bad {w : Str} (hw : nameOk (tl w) = true) (n : Nat) (j : Nat) (hj : j < 14) : ∃ v, (ell w n)[j]? = some v ∧ nameV v = false ∧ isX v = false ∧ (v = .ref n ∨ ∀ m, lowV m v = true) ∧ ∀ S2 : Sto, (v = .ref n → S2[n]? = some (.lst [.str w])) → Nv S2 v ∧ Dv S2 v := by
  have f := name_fine hw
  have hc : Fine 1 (":" : Str) := ⟨by decide, by decide⟩
  have hs : Fine 1 (" " : Str) := ⟨by decide, by decide⟩
  have hA : Fine 1 ("A" : Str) := ⟨by decide, by decide⟩
  have h1 : Fine 1 ("1" : Str) := ⟨by decide, by decide⟩
  have hu : Fine 1 ("_" : Str) := ⟨by decide, by decide⟩
  have : j = 0 ∨ j = 1 ∨ j = 2 ∨ j = 3 ∨ j = 4 ∨ j = 5 ∨ j = 6 ∨ j = 7 ∨ j = 8 ∨ j = 9 ∨ j = 10 ∨ j = 11 ∨ j = 12 ∨ j = 13 := by omega
  rcases this with rfl | rfl | rfl | rfl | rfl | rfl | rfl | rfl | rfl | rfl | rfl | rfl | rfl | rfl
  · exact ⟨_, rfl, rfl, rfl, .inr fun _ => rfl, fun S2 _ => str_nd (k := 0) ⟨by decide, by decide⟩ (by omega)⟩
  · exact ⟨_, rfl, by show nameOk (tl (w ++ _)) = false; rw [tl_app]; exact nameOk_bad (c := 58) (by simp; exact .inr (by decide)) (by decide), rfl, .inr fun _ => rfl, fun S2 _ => str_nd (f.app hc) (by omega)⟩
  · exact ⟨_, rfl, by show nameOk (tl (_ ++ w)) = false; rw [tl_app]; exact nameOk_bad (c := 58) (by simp; exact .inl (by decide)) (by decide), rfl, .inr fun _ => rfl, fun S2 _ => str_nd (hc.app f) (by omega)⟩
  · exact ⟨_, rfl, by show nameOk (tl (w ++ _)) = false; rw [tl_app]; exact nameOk_bad (c := 32) (by simp; exact .inr (by decide)) (by decide), rfl, .inr fun _ => rfl, fun S2 _ => str_nd (f.app hs) (by omega)⟩
  · exact ⟨_, rfl, by show nameOk (tl (_ ++ w)) = false; rw [tl_app]; exact nameOk_bad (c := 32) (by simp; exact .inl (by decide)) (by decide), rfl, .inr fun _ => rfl, fun S2 _ => str_nd (hs.app f) (by omega)⟩
  · exact ⟨_, rfl, by show nameOk (tl (w ++ _)) = false; rw [tl_app]; exact nameOk_bad (c := 65) (by simp; exact .inr (by decide)) (by decide), rfl, .inr fun _ => rfl, fun S2 _ => str_nd (f.app hA) (by omega)⟩
  · exact ⟨_, rfl, by show nameOk (tl (w ++ _)) = false; rw [tl_app]; exact nameOk_bad (c := 49) (by simp; exact .inr (by decide)) (by decide), rfl, .inr fun _ => rfl, fun S2 _ => str_nd (f.app h1) (by omega)⟩
  · exact ⟨_, rfl, a13n, rfl, .inr fun _ => rfl, fun S2 _ => str_nd a13f (by omega)⟩
  · exact ⟨_, rfl, rfl, rfl, .inr fun _ => rfl, fun S2 _ => ⟨nv_o (Okv.int _) rfl, Dv.i⟩⟩
  · exact ⟨_, rfl, rfl, rfl, .inr fun _ => rfl, fun S2 _ => ⟨nv_o Okv.non rfl, Dv.n⟩⟩
  · exact ⟨_, rfl, rfl, rfl, .inr fun _ => rfl, fun S2 _ => ⟨nv_o (Okv.bl _) rfl, Dv.b⟩⟩
  · exact ⟨_, rfl, rfl, rfl, .inl rfl, fun S2 h => ⟨nv_o (Okv.lst (h rfl)) rfl, Dv.lst1 (h rfl) f.ok⟩⟩
  · exact ⟨_, rfl, rfl, rfl, .inr fun _ => rfl, fun S2 _ => ⟨nv_o (Okv.tup _) rfl, Dv.tup1 f.ok⟩⟩
  · exact ⟨_, rfl, by show nameOk (tl (w ++ _)) = false; rw [tl_app]; exact nameOk_bad (c := 95) (by simp; exact .inr (by decide)) (by decide), rfl, .inr fun _ => rfl, fun S2 _ => str_nd (f.app hu) (by omega)⟩
theorem no_name_e {w : Str} (hw : nameOk (tl w) = true) (c : Int) (S : Sto) : ∃ v U, f__law_no_name [.str w, .int c] S = .ok v (S ++ U) ∧ nameV v = false ∧ isX v = false ∧ ((U = [] ∧ ∀ m, lowV m v = true) ∨ (U = [.lst [.str w]] ∧ v = .ref S.length)) ∧ ∀ S2 : Sto, (v = .ref S.length → S2[S.length]? = some (.lst [.str w])) → Nv S2 v ∧ Dv S2 v := by
  have f := name_fine hw
  have wl := f.len
  have j0 : 0 ≤ c % 14 := by omega
  obtain ⟨v, hv, b1, b2, b3, b4⟩ := ell_bad hw (S.length + 1) (c % 14).toNat (by omega)
  have hcL : (":" : Str).length = 1 := rfl
  have hsL : (" " : Str).length = 1 := rfl
  have hAL : ("A" : Str).length = 1 := rfl
  have h1L : ("1" : Str).length = 1 := rfl
  have huL : ("_" : Str).length = 1 := rfl
  have run : f__law_no_name [.str w, .int c] S = gcR S (.ok v (S ++ [.lst ((ell w (S.length + 1)).take 11), .lst [.str w], .lst ((ell w (S.length + 1)).drop 11), .lst (ell w (S.length + 1))])) := by
    have a1 : addL (.str w) (.str ":") = fun S => .ok (.str (w ++ (":" : Str))) S := funext fun S => add_ss (by omega)
    have a2 : addL (.str ":") (.str w) = fun S => .ok (.str ((":" : Str) ++ w)) S := funext fun S => add_ss (by omega)
    have a3 : addL (.str w) (.str " ") = fun S => .ok (.str (w ++ (" " : Str))) S := funext fun S => add_ss (by omega)
    have a4 : addL (.str " ") (.str w) = fun S => .ok (.str ((" " : Str) ++ w)) S := funext fun S => add_ss (by omega)
    have a5 : addL (.str w) (.str "A") = fun S => .ok (.str (w ++ ("A" : Str))) S := funext fun S => add_ss (by omega)
    have a6 : addL (.str w) (.str "1") = fun S => .ok (.str (w ++ ("1" : Str))) S := funext fun S => add_ss (by omega)
    have a7 : addL (.str w) (.str "_") = fun S => .ok (.str (w ++ ("_" : Str))) S := funext fun S => add_ss (by omega)
    have ad : addL (.ref S.length) (.ref (S.length + 1 + 1)) (S ++ [.lst ((ell w (S.length + 1)).take 11), .lst [.str w], .lst ((ell w (S.length + 1)).drop 11)]) = .ok (.ref (S.length + 3)) (S ++ [.lst ((ell w (S.length + 1)).take 11), .lst [.str w], .lst ((ell w (S.length + 1)).drop 11), .lst (ell w (S.length + 1))]) := by
      rw [add_ll (by rw [get_app0]; rfl) (by rw [Nat.add_assoc, get_app]; rfl) (by simp)]
      simp
    have ix := ix_lk (S := S) (U := [.lst ((ell w (S.length + 1)).take 11), .lst [.str w], .lst ((ell w (S.length + 1)).drop 11), .lst (ell w (S.length + 1))]) (n := 3) rfl j0 hv
    simp only [f__law_no_name]
    rw [e_fn (by rfl)]
    simp [g__law_no_name, e_seq, e_asg, e_lst, e_cons, e_nil, e_op, a1, a2, a3, a4, a5, a6, a7, a13, e_nm, e_ret, e_tup] at ad ix ⊢
    rw [ad]
    simp [e_op, mod_ii, ix, b2]
  rw [run]
  rcases b3 with rfl | b3
  · exact ⟨.ref S.length, [.lst [.str w]], gc_ref (k := 1) rfl rfl, rfl, rfl, .inr ⟨rfl, rfl⟩, fun S2 h => ⟨nv_o (Okv.lst (h rfl)) rfl, Dv.lst1 (h rfl) f.ok⟩⟩
  · refine ⟨v, [], ?_, b1, b2, .inl ⟨rfl, b3⟩, fun S2 h => b4 S2 fun e => ?_⟩
    · rw [List.append_nil]; exact gc_low (b3 _)
    · have := b3 0
      rw [e] at this
      simp [lowV] at this
abbrev signsT : Str := " !\"#$&'()*+,-./0123456789:;<=>?@ABCDEFGHIJKLMNOPQRSTUVWXYZ[\\]^_`abcdefghijklmnopqrstuvwxyz{|}~"
theorem signs_len : signsT.length = 94 := by decide
theorem signs_sg : ∀ c ∈ tl signsT, c < 128 := by decide
theorem mul_0 (z : Str) (hz : z.length ≤ 100) (S : Sto) : mulL (.str z) (.int 0) S = .ok (.str "") S := by
  have : okRep z.length 0 = true := by simp [okRep]
  simp only [mulL, this, if_true]
  rfl
theorem mul_1 (z : Str) (hz : z.length ≤ 100) (S : Sto) : mulL (.str z) (.int 1) S = .ok (.str z) S := by
  have : okRep z.length 1 = true := by simp [okRep]; omega
  simp only [mulL, this, if_true]
  rfl
theorem edited_e {k : Nat} {t : Str} (f : Fine k t) (hk : k ≤ 1000) (c1 c2 : Int) : ∃ w, Fine (k + 1 + k) w ∧ ∀ S, f__law_edited [.str t, .int c1, .int c2] S = .ok (.str w) S := by
  have tz := f.len
  have tz' : t.length ≤ 16777216 := by omega
  have sl := signs_len
  have hz : signsT.length ≤ 16777216 := by omega
  have i1 : ∀ S, ixL (.str signsT) (.int (c2 / 2 % 94)) S = .ok (.str (one (atN (tl signsT) (c2 / 2 % 94)))) S := fun S => ix_s (by omega) (by omega) hz
  have fa : Fine 1 (one (atN (tl signsT) (c2 / 2 % 94))) := Fine.one (by
    unfold atN
    have hl : (c2 / 2 % 94).toNat < (tl signsT).length := by rw [len_tl]; omega
    rw [List.getD_eq_getElem?_getD, List.getElem?_eq_getElem hl]
    exact signs_sg _ (List.getElem_mem hl))
  generalize one (atN (tl signsT) (c2 / 2 % 94)) = a at *
  obtain ⟨s, fs, ix⟩ : ∃ s, Fine 1 s ∧ ∀ S, ixL (.ref S.length) (.int (c2 % 2)) (S ++ [.lst [.str ":", .str a]]) = .ok (.str s) (S ++ [.lst [.str ":", .str a]]) := by
    rcases (show c2 % 2 = 0 ∨ c2 % 2 = 1 by omega) with q | q <;> rw [q]
    · exact ⟨":", ⟨by decide, by decide⟩, fun S => ix_l0 (by omega) rfl⟩
    · exact ⟨a, fa, fun S => ix_l0 (by omega) rfl⟩
  obtain ⟨p, hp⟩ : ∃ p, p = c1 / 6 % ((t.length : Int) + 1) := ⟨_, rfl⟩
  have sz := fs.len
  have l1 := cut_len t none (some p)
  have l2 := cut_len t (some p) none
  have l3 := cut_len t (some (p + 1)) none
  have b1 : ∀ S, addL (.str (cutS t none (some p))) (.str s) S = .ok (.str (cutS t none (some p) ++ s)) S := fun S => add_ss (by omega)
  have b2 : ∀ S, addL (.str (cutS t none (some p) ++ s)) (.str (cutS t (some p) none)) S = .ok (.str (cutS t none (some p) ++ s ++ cutS t (some p) none)) S := fun S => add_ss (by rw [app_len]; omega)
  have b3 : ∀ S, addL (.str (cutS t none (some p) ++ s)) (.str (cutS t (some (p + 1)) none)) S = .ok (.str (cutS t none (some p) ++ s ++ cutS t (some (p + 1)) none)) S := fun S => add_ss (by rw [app_len]; omega)
  have b4 : ∀ S, addL (.str (cutS t none (some p))) (.str "") S = .ok (.str (cutS t none (some p) ++ "")) S := fun S => add_ss (by show _ + 0 ≤ _; omega)
  have b5 : ∀ S, addL (.str (cutS t none (some p) ++ "")) (.str (cutS t (some (p + 1)) none)) S = .ok (.str (cutS t none (some p) ++ "" ++ cutS t (some (p + 1)) none)) S := fun S => add_ss (by rw [app_len]; show _ + 0 + _ ≤ _; omega)
  have e0 : Fine 0 ("" : Str) := ⟨by decide, by decide⟩
  have m0 := mul_0 s (by omega)
  have m1 := mul_1 s (by omega)
  rcases (show c1 % 3 = 0 ∨ c1 % 3 = 1 ∨ c1 % 3 = 2 by omega) with q | q | q
  · exact ⟨t, f.mono (by omega), fun S => by simp [f__law_edited, e_fn, g__law_edited, e_seq, e_asg, e_lst, e_cons, e_nil, e_op, div_ii, mod_ii, i1, ix, e_nm, e_bi, len_s tz', ← hp, e_if, q, e_nx, e_ret, gc_low]⟩
  · exact ⟨_, ((f.cut none (some p)).app fs).app (f.cut (some p) none), fun S => by simp [f__law_edited, e_fn, g__law_edited, e_seq, e_asg, e_lst, e_cons, e_nil, e_op, div_ii, mod_ii, i1, ix, e_nm, e_bi, len_s tz', ← hp, e_if, q, e_nx, e_ret, gc_low, e_sl, sl_s tz', b1, b2]⟩
  · rcases (show c1 / 3 % 2 = 0 ∨ c1 / 3 % 2 = 1 by omega) with r | r
    · exact ⟨_, (((f.cut none (some p)).app e0).app (f.cut (some (p + 1)) none)).mono (by omega), fun S => by simp [f__law_edited, e_fn, g__law_edited, e_seq, e_asg, e_lst, e_cons, e_nil, e_op, div_ii, mod_ii, i1, ix, e_nm, e_bi, len_s tz', ← hp, e_if, q, r, m0, e_nx, e_ret, gc_low, e_sl, sl_s tz', b4, b5]⟩
    · exact ⟨_, ((f.cut none (some p)).app fs).app (f.cut (some (p + 1)) none), fun S => by simp [f__law_edited, e_fn, g__law_edited, e_seq, e_asg, e_lst, e_cons, e_nil, e_op, div_ii, mod_ii, i1, ix, e_nm, e_bi, len_s tz', ← hp, e_if, q, r, m1, e_nx, e_ret, gc_low, e_sl, sl_s tz', b1, b3]⟩
theorem path_parts {z : Str} (h : pathOk (tl z) = true) : 1 ≤ (Txt.split z colT).length ∧ (Txt.split z colT).length ≤ 6 ∧ (∀ y ∈ Txt.split z colT, nameOk (tl y) = true) ∧ (∀ y ∈ Txt.split z colT, PyData.strOk y = true) ∧ tl (Txt.join colT (Txt.split z colT)) = tl z := by
  unfold pathOk at h
  simp only [Bool.and_eq_true, decide_eq_true_eq] at h
  have n : ∀ y ∈ Txt.split z colT, nameOk (tl y) = true := fun y hy => List.all_eq_true.mp h.2 _ (by rw [← split_sp]; exact List.mem_map.mpr ⟨y, hy, rfl⟩)
  refine ⟨?_, by rw [LL.split_len]; exact h.1, n, fun y hy => (name_fine (n y hy)).ok, by rw [join_col, split_sp, join_sp]⟩
  rw [LL.split_len]
  cases e : sp (tl z) with
  | nil => exact absurd e (sp_ne _)
  | cons a t => simp
theorem names_good_t {z : Str} (hz : z.length ≤ 1000) (rd : ∀ S, f__law_read [.str z] S = .ok (.ref S.length) (S ++ [.lst ((Txt.split z colT).map .str)])) (h : pathOk (tl z) = true) (S : Sto) : ∃ S', f__law_names_good [.str z] S = .ok (.bl true) S' := by
  obtain ⟨p1, p2, p3, p4, p5⟩ := path_parts h
  have td : ∀ S, f__law_told [.int 0, .str z] S = .ok (.ref S.length) (S ++ [.lst ((Txt.split z colT).map .str)]) := fun S => by rw [told_0s z (by omega), h]; rfl
  generalize Txt.split z colT = ys at *
  obtain ⟨L, hL⟩ : ∃ L, L = LO.lst (ys.map .str) := ⟨_, rfl⟩
  obtain ⟨M, hM⟩ : ∃ M, M = LO.lst (ys.map .str ++ [.str "more"]) := ⟨_, rfl⟩
  rw [← hL] at rd td
  have isi : isiL [.ref (S.length + 1), .ty "list"] (S ++ [L, L]) = .ok (.bl true) (S ++ [L, L]) := isi_l (k := "") (xs := ys.map .str) (by rw [get_app, hL]; rfl)
  have ne1 : neL (.ref (S.length + 1)) (.ref S.length) (S ++ [L, L]) = .ok (.bl false) (S ++ [L, L]) := by
    rw [ne_strs (zs := ys) (ws := ys) (by rw [get_app, hL]; rfl) (by rw [get_app0, hL]; rfl) p4 p4, beq_self_eq_true]; rfl
  have ls : listL [.ref S.length] (S ++ [L, L]) = .ok (.ref (S.length + 2)) (S ++ [L, L, L]) := by
    have : itemsO (.ref S.length) (S ++ [L, L]) = some (ys.map .str) := by simp [itemsO, hL]
    simp only [listL, this]
    rw [← hL]
    simp
  have t1 : f__law_told [.int 1, .ref (S.length + 2)] (S ++ [L, L, L]) = .ok (.str (Txt.join colT ys)) (S ++ [L, L, L]) := told_1y (by rw [get_app, hL]; rfl) p1 p2 p3
  have ap : appendL (.ref (S.length + 1)) [.str "more"] (S ++ [L, L, L]) = .ok .non (S ++ [L, M, L]) := by
    have : (S ++ [L, L, L])[S.length + 1]? = some (.lst (ys.map .str)) := by rw [get_app, hL]; rfl
    simp only [appendL, this]
    rw [if_pos (by unfold small; exact decide_eq_true (by rw [List.length_map]; omega)), set_app, ← hM]
    rfl
  have it : isT "list" (.ref (S.length + 1)) (S ++ [L, L, L]) = true := by
    have : (S ++ [L, L, L])[S.length + 1]? = some (.lst (ys.map .str)) := by rw [get_app, hL]; rfl
    simp only [isT, this]; rfl
  have eq : eqL (.ref (S.length + 3)) (.ref S.length) (S ++ [L, M, L, L]) = .ok (.bl true) (S ++ [L, M, L, L]) := by
    rw [eq_strs (zs := ys) (ws := ys) (by rw [get_app, hL]; rfl) (by rw [get_app0, hL]; rfl) p4 p4, beq_self_eq_true]
  simp only [f__law_names_good]
  rw [e_fn (by rfl)]
  simp [g__law_names_good, e_seq, e_asg, e_call, e_cons, e_nil, rd, td, e_nm, e_if, e_op, e_nx, e_or, e_not, e_bi, isi, ne1, ls, t1, p5, e_drop, e_bm, it, bm1_ok, ap, e_ret, eq]
  exact gc_bl
theorem names_good_e {k : Nat} {z : Str} (hf : Fine k z) (hk : k ≤ 1000) (S : Sto) : ∃ S', f__law_names_good [.str z] S = .ok (.bl true) S' := by
  have hz := hf.len
  have rd := fun S => read_s hf (by omega) S
  cases h : pathOk (tl z) with
  | true => exact names_good_t (by omega) (fun S => by rw [rd S, h]; rfl) h S
  | false =>
    have rd' : ∀ S, f__law_read [.str z] S = .ok .non S := fun S => by rw [rd S, h]; rfl
    have td : ∀ S, f__law_told [.int 0, .str z] S = .ok refu S := fun S => by rw [told_0s z (by omega), h]; rfl
    simp only [f__law_names_good]
    rw [e_fn (by rfl)]
    simp [g__law_names_good, e_seq, e_asg, e_call, e_cons, e_nil, rd', td, e_nm, e_if, e_op, e_tup, eq_rr, e_ret]
    exact gc_bl
theorem above_here {ys : List Str} {a : Nat} {S : Sto} (b t : LV) (hn : S[a]? = some (.lst (ys.map .str))) (h6 : ys.length ≤ 6) (hf : ∀ y ∈ ys, y.length ≤ 12) : ∃ U, lcL (gNm 8) lYes (lBm "str" joinL2 (lC (.str ":")) (lCons (lSl (lVar 0) none (some (lVar 8))) lNil)) [some (.ref a), some b, some t, none, none, none, none, none, none] (rng 1 (ys.length - 1)) [] S = .ok (.ref (S ++ U).length) (S ++ U ++ [.lst (aboveL ys)]) := by
  obtain ⟨U, hU⟩ := lcL_growP (lg := gNm 8) (ft := lYes) (fe := lBm "str" joinL2 (lC (.str ":")) (lCons (lSl (lVar 0) none (some (lVar 8))) lNil)) (ds := [some (.ref a), some b, some t, none, none, none, none, none, none])
    (fun S' => S'[a]? = some (.lst (ys.map .str))) (fun S' U h => get_more h) (fun _ => true) (fun v => match v with | .int j => .str (Txt.join colT (ys.take j.toNat)) | _ => .non) (rng 1 (ys.length - 1)) [] S hn (fun v hv S' p => by
      obtain ⟨k, hk, rfl⟩ := mem_rng hv
      refine ⟨_, [], [.lst ((ys.take (1 + k)).map .str)], rfl, by simp, fun _ => ?_⟩
      have h2 := sl_ref (lo := none) (hi := some (1 + (k : Int))) p
      rw [cut_take _ (by omega), show (1 + (k : Int)).toNat = 1 + k by omega] at h2
      have jn := joinC (n := S'.length) (S := S' ++ [.lst ((ys.take (1 + k)).map .str)]) (ys := ys.take (1 + k)) (m := 12) (by rw [get_app0]; rfl) (fun y hy => hf y (List.mem_of_mem_take hy)) (by
        have : (ys.take (1 + k)).length ≤ 6 := by rw [List.length_take]; omega
        omega)
      rw [List.map_take] at jn
      simp [gNm, e_bm, e_cons, e_nil, e_sl, h2, jn]
      rw [show (1 + (k : Int)).toNat = 1 + k by omega]) (by unfold rng; simp; omega)
  rw [List.filter_eq_self.mpr fun _ _ => rfl, List.nil_append] at hU
  have hl : (rng 1 (ys.length - 1)).map (fun v => match v with | .int j => LV.str (Txt.join colT (ys.take j.toNat)) | _ => .non) = aboveL ys := by
    unfold aboveL rng
    rw [List.map_map]
    refine List.map_congr_left fun k _ => ?_
    show LV.str (Txt.join colT (ys.take (1 + (k : Int)).toNat)) = _
    rw [show (1 + (k : Int)).toNat = k + 1 by omega]
  rw [hl] at hU
  exact ⟨U, hU⟩
theorem sp_app (r : List Nat) : ∀ a : List Nat, sp (a ++ 58 :: r) = sp a ++ sp r
  | [] => by rw [List.nil_append, sp_col]; rfl
  | c :: a => by
    have ih := sp_app r a
    by_cases h : c = 58
    · subst h; rw [List.cons_append, sp_col, sp_col, ih]; rfl
    · rw [List.cons_append, sp_oth _ h, sp_oth _ h, ih]
      cases e : sp a with
      | nil => exact absurd e (sp_ne _)
      | cons x t => rfl
theorem within_law {ps qs : List (List Nat)} (p0 : ps ≠ []) (q0 : qs ≠ []) (hp : ∀ p ∈ ps, 58 ∉ p) (hq : ∀ p ∈ qs, 58 ∉ p) : ((TL.joinL [58] ps == TL.joinL [58] qs) || ((TL.joinL [58] ps).take (TL.joinL [58] qs ++ [58]).length == TL.joinL [58] qs ++ [58])) = (ps.take qs.length == qs) := by
  have sP := sp_join p0 hp
  have sQ := sp_join q0 hq
  rw [Bool.eq_iff_iff, Bool.or_eq_true, beq_iff_eq, beq_iff_eq, beq_iff_eq]
  constructor
  · rintro (h | h)
    · have : ps = qs := by rw [← sP, h, sQ]
      rw [this, List.take_length]
    · have e : TL.joinL [58] ps = TL.joinL [58] qs ++ 58 :: (TL.joinL [58] ps).drop (TL.joinL [58] qs ++ [58]).length := by
        have := List.take_append_drop (TL.joinL [58] qs ++ [58]).length (TL.joinL [58] ps)
        rw [h] at this
        rw [List.append_assoc] at this
        exact this.symm
      have e2 : ps = qs ++ sp ((TL.joinL [58] ps).drop (TL.joinL [58] qs ++ [58]).length) := by
        have := congrArg sp e
        rw [sP, sp_app, sQ] at this
        exact this
      rw [e2, List.take_left']
      rfl
  · intro h
    obtain ⟨rest, hr⟩ : ∃ rest, ps = qs ++ rest := ⟨ps.drop qs.length, by
      have := List.take_append_drop qs.length ps
      rw [h] at this
      exact this.symm⟩
    cases rest with
    | nil => left; rw [hr, List.append_nil]
    | cons x t =>
      right
      have hx : ∀ p ∈ x :: t, 58 ∉ p := fun p hpm => hp p (by rw [hr]; exact List.mem_append_right _ hpm)
      have sR := sp_join (ps := x :: t) (by simp) hx
      have : TL.joinL [58] ps = TL.joinL [58] qs ++ 58 :: TL.joinL [58] (x :: t) := by
        rw [hr, ← join_sp (TL.joinL [58] qs ++ 58 :: TL.joinL [58] (x :: t)), sp_app, sQ, sR]
      rw [this, show TL.joinL [58] qs ++ 58 :: TL.joinL [58] (x :: t) = (TL.joinL [58] qs ++ [58]) ++ TL.joinL [58] (x :: t) by simp, List.take_left']
      rfl
theorem no58 {a : List Nat} (h : nameOk a = true) : 58 ∉ a := fun hm => by
  rw [nameOk_bad hm (by decide)] at h
  cases h
theorem split_back {ys : List Str} (h1 : ys ≠ []) (h : ∀ y ∈ ys, nameOk (tl y) = true) : Txt.split (Txt.join colT ys) colT = ys := by
  refine TL.map_tl_inj ?_
  show (Txt.split (Txt.join colT ys) colT).map tl = ys.map tl
  rw [split_sp, join_col, sp_join (by simpa using h1) fun p hp => by
    obtain ⟨y, hy, rfl⟩ := List.mem_map.mp hp
    exact no58 (h y hy)]
theorem joinL_sg : ∀ ps : List (List Nat), (∀ p ∈ ps, p.length ≤ 12 ∧ ∀ c ∈ p, c < 128) → (TL.joinL [58] ps).length ≤ 13 * ps.length ∧ ∀ c ∈ TL.joinL [58] ps, c < 128
  | [], _ => ⟨Nat.zero_le _, fun c hc => by cases hc⟩
  | [p], h => by
    have := h p (List.mem_cons_self ..)
    show p.length ≤ 13 * 1 ∧ ∀ c ∈ p, c < 128
    exact ⟨by omega, this.2⟩
  | p :: q :: r, h => by
    have a := h p (List.mem_cons_self ..)
    have ih := joinL_sg (q :: r) fun x hx => h x (List.mem_cons_of_mem _ hx)
    have e : TL.joinL [58] (p :: q :: r) = p ++ [58] ++ TL.joinL [58] (q :: r) := by simp [TL.joinL]
    rw [e]
    refine ⟨by simp at ih ⊢; omega, fun c hc => ?_⟩
    rcases List.mem_append.mp hc with hc | hc
    · rcases List.mem_append.mp hc with hc | hc
      · exact a.2 c hc
      · cases hc with
        | head => decide
        | tail _ h => cases h
    · exact ih.2 c hc
theorem join_fine {ys : List Str} (h6 : ys.length ≤ 8) (h : ∀ y ∈ ys, nameOk (tl y) = true) : Fine 104 (Txt.join colT ys) := by
  have := joinL_sg (ys.map tl) fun p hp => by
    obtain ⟨y, hy, rfl⟩ := List.mem_map.mp hp
    have f := name_fine (h y hy)
    exact ⟨by rw [len_tl]; exact f.len, f.sg⟩
  rw [← join_col] at this
  exact ⟨by have := this.1; rw [len_tl, List.length_map] at this; omega, this.2⟩
/-- is_within of two paths, given as lists of names -/
theorem within_e {xs zs : List Str} (x0 : xs ≠ []) (z0 : zs ≠ []) (x6 : xs.length ≤ 8) (z6 : zs.length ≤ 8) (hx : ∀ y ∈ xs, nameOk (tl y) = true) (hz : ∀ y ∈ zs, nameOk (tl y) = true) (S : Sto) : f_is_within [.str (Txt.join colT xs), .str (Txt.join colT zs)] S = .ok (.bl ((xs.map tl).take (zs.map tl).length == zs.map tl)) S := by
  have fx := (join_fine x6 hx).len
  have fz := (join_fine z6 hz).len
  rw [is_within_e _ _ (by omega) (by omega), join_col, join_col, within_law (by simpa using x0) (by simpa using z0) (fun p hp => by
    obtain ⟨y, hy, rfl⟩ := List.mem_map.mp hp
    exact no58 (hx y hy)) (fun p hp => by
    obtain ⟨y, hy, rfl⟩ := List.mem_map.mp hp
    exact no58 (hz y hy))]
/-- the names of the first list, as many as the second has, against the second -/
theorem prefix_e {xs zs : List Str} {a b : Nat} {S : Sto} (ha : S[a]? = some (.lst (xs.map .str))) (hb : S[b]? = some (.lst (zs.map .str))) (hx : ∀ y ∈ xs, nameOk (tl y) = true) (hz : ∀ y ∈ zs, nameOk (tl y) = true) : slO (.ref a) none (some (zs.length : Int)) S = .ok (.ref S.length) (S ++ [.lst ((xs.take zs.length).map .str)]) ∧ eqL (.ref S.length) (.ref b) (S ++ [.lst ((xs.take zs.length).map .str)]) = .ok (.bl ((xs.map tl).take (zs.map tl).length == zs.map tl)) (S ++ [.lst ((xs.take zs.length).map .str)]) := by
  constructor
  · rw [sl_ref ha, cut_take _ (by omega), ← List.map_take]; rfl
  · rw [eq_strs (zs := xs.take zs.length) (ws := zs) (by rw [get_app0]; rfl) (get_more hb) (fun y hy => (name_fine (hx y (List.mem_of_mem_take hy))).ok) (fun y hy => (name_fine (hz y hy)).ok), List.map_take, List.length_map]
theorem above_ne {ys : List Str} {n k : Nat} {S : Sto} (h6 : ys.length ≤ 8) (h : ∀ y ∈ ys, nameOk (tl y) = true) (hn : S[n]? = some (.lst (aboveL ys))) (hk : S[k]? = some (.lst (aboveL ys))) : neL (.ref n) (.ref k) S = .ok (.bl false) S := by
  have e : aboveL ys = ((List.range (ys.length - 1)).map fun k => Txt.join colT (ys.take (k + 1))).map .str := by unfold aboveL; rw [List.map_map]; rfl
  rw [e] at hn hk
  have ok : ∀ y ∈ (List.range (ys.length - 1)).map fun k => Txt.join colT (ys.take (k + 1)), PyData.strOk y = true := fun y hy => by
    obtain ⟨k, _, rfl⟩ := List.mem_map.mp hy
    exact (join_fine (by rw [List.length_take]; omega) fun y hy => h y (List.mem_of_mem_take hy)).ok
  rw [ne_strs hn hk ok ok, beq_self_eq_true]; rfl
theorem above_y {ys : List Str} (y0 : ys ≠ []) (h6 : ys.length ≤ 8) (h : ∀ y ∈ ys, nameOk (tl y) = true) (S : Sto) : f_above [.str (Txt.join colT ys)] S = .ok (.ref S.length) (S ++ [.lst (aboveL ys)]) := by
  have f := (join_fine h6 h).len
  rw [above_e _ (by omega), split_back y0 h]
noncomputable abbrev twB : LS := (lSeq (lAsg (lCall f_is_within (lCons (lBm "str" joinL2 (lC (.str ":")) (lCons (lVar 5) lNil)) (lCons (lBm "str" joinL2 (lC (.str ":")) (lCons (lVar 6) lNil)) lNil))) (gNm 7))
  (lIf (lOr (lNot (lBi isiL (lCons (lVar 7) (lCons (lC (.ty "bool")) lNil)))) (lOp neL (lVar 7) (lOp eqL (lSl (lVar 5) none (some (lBi lenL (lCons (lVar 6) lNil)))) (lVar 6))))
  (lRet (lC (.bl false)))
  lNx))
theorem tw_e {xs zs : List Str} {a b : Nat} {S : Sto} (v0 v1 v2 v3 v4 : Option LV) (x7 x8 : Option LV) (x0 : xs ≠ []) (z0 : zs ≠ []) (x6 : xs.length ≤ 8) (z6 : zs.length ≤ 8) (ha : S[a]? = some (.lst (xs.map .str))) (hb : S[b]? = some (.lst (zs.map .str))) (hx : ∀ y ∈ xs, nameOk (tl y) = true) (hz : ∀ y ∈ zs, nameOk (tl y) = true) : ∃ x7' U, twB [v0, v1, v2, v3, v4, some (.ref a), some (.ref b), x7, x8] S = .nx [v0, v1, v2, v3, v4, some (.ref a), some (.ref b), x7', x8] (S ++ U) := by
  have w := within_e x0 z0 x6 z6 hx hz S
  have ⟨p1, p2⟩ := prefix_e ha hb hx hz
  have lr := len_ref hb
  rw [List.length_map] at lr
  have j1 := joinC ha (fun y hy => (name_fine (hx y hy)).len) (by omega)
  have j2 := joinC hb (fun y hy => (name_fine (hz y hy)).len) (by omega)
  generalize ((xs.map tl).take (zs.map tl).length == zs.map tl) = q at *
  exact ⟨some (.bl q), [.lst ((xs.take zs.length).map .str)], by
    unfold twB
    simp only [List.map_take] at p1 p2 ⊢
    simp [e_seq, e_asg, e_call, e_cons, e_nil, e_bm, j1, j2, w, e_nm, e_if, e_or, e_not, e_bi, isiT, e_op, e_sl, lr, p1, p2, e_nx]⟩
theorem tree_good_e {xs zs : List Str} {a b : Nat} {S : Sto} (x0 : xs ≠ []) (z0 : zs ≠ []) (x6 : xs.length ≤ 6) (z6 : zs.length ≤ 6) (ha : S[a]? = some (.lst (xs.map .str))) (hb : S[b]? = some (.lst (zs.map .str))) (hx : ∀ y ∈ xs, nameOk (tl y) = true) (hz : ∀ y ∈ zs, nameOk (tl y) = true) : ∃ S', f__law_tree_good [.ref a, .ref b] S = .ok (.bl true) S' := by
  have h1 : 1 ≤ xs.length := by cases xs with | nil => exact absurd rfl x0 | cons _ _ => simp
  have j1 := joinC ha (fun y hy => (name_fine (hx y hy)).len) (by omega)
  have lr := len_ref ha
  rw [List.length_map] at lr
  have rg : ∀ S, rng2O [.int 1, .int xs.length] S = .ok (itOf (rng 1 (xs.length - 1))) S := fun S => by
    rw [rng2_e (by omega) (by omega) (by omega) (by omega), show ((xs.length : Int) - 1).toNat = xs.length - 1 by omega]
  obtain ⟨U, hU⟩ := above_here (S := S) (.ref b) (.str (Txt.join colT xs)) ha x6 (fun y hy => (name_fine (hx y hy)).len)
  obtain ⟨n3, hn3⟩ : ∃ n, n = (S ++ U).length := ⟨_, rfl⟩
  obtain ⟨S1, hS1⟩ : ∃ T, T = S ++ U ++ [LO.lst (aboveL xs)] := ⟨_, rfl⟩
  have g3 : S1[n3]? = some (.lst (aboveL xs)) := by rw [hS1, hn3, get_app0]; rfl
  have ga : S1[a]? = some (.lst (xs.map .str)) := by rw [hS1, List.append_assoc]; exact get_more ha
  have gb : S1[b]? = some (.lst (zs.map .str)) := by rw [hS1, List.append_assoc]; exact get_more hb
  rw [← hn3, ← hS1] at hU
  have ab := above_y x0 (by omega) hx
  have isi : isiL [.ref S1.length, .ty "list"] (S1 ++ [.lst (aboveL xs)]) = .ok (.bl true) (S1 ++ [.lst (aboveL xs)]) := isi_l (k := "") (xs := aboveL xs) (by rw [get_app0]; rfl)
  have ne1 := above_ne (S := S1 ++ [.lst (aboveL xs)]) (n := S1.length) (k := n3) (by omega) hx (by rw [get_app0]; rfl) (get_more g3)
  simp only [f__law_tree_good]
  rw [e_fn (by rfl)]
  simp [g__law_tree_good, e_seq, e_asg, e_bm, e_cons, e_nil, j1, e_nm, e_lc, e_rng2, e_bi, lr, rg, wipeL]
  rw [hU]
  simp [e_seq, e_asg, e_nm, e_call, e_cons, e_nil, ab, e_if, e_or, e_not, e_bi, isi, e_op, ne1, e_nx]
  have it : isT "list" (.ref S1.length) (S1 ++ [.lst (aboveL xs)]) = true := by
    have : (S1 ++ [LO.lst (aboveL xs)])[S1.length]? = some (.lst (aboveL xs)) := by rw [get_app0]; rfl
    simp only [isT, this]; rfl
  obtain ⟨M, hM⟩ : ∃ M, M = LO.lst (aboveL xs ++ [.str "more"]) := ⟨_, rfl⟩
  have ap : appendL (.ref S1.length) [.str "more"] (S1 ++ [.lst (aboveL xs)]) = .ok .non (S1 ++ [M]) := by
    have : (S1 ++ [LO.lst (aboveL xs)])[S1.length]? = some (.lst (aboveL xs)) := by rw [get_app0]; rfl
    simp only [appendL, this]
    rw [if_pos (by unfold small; exact decide_eq_true (by unfold aboveL; rw [List.length_map, List.length_range]; omega)), set_app0, ← hM]
    rfl
  have ne2 := above_ne (S := S1 ++ [M] ++ [.lst (aboveL xs)]) (n := (S1 ++ [M]).length) (k := n3) (by omega) hx (by rw [get_app0]; rfl) (get_more (get_more g3))
  obtain ⟨S2, hS2⟩ : ∃ T, T = S1 ++ [M] ++ [LO.lst (aboveL xs)] := ⟨_, rfl⟩
  have ha2 : S2[a]? = some (.lst (xs.map .str)) := by rw [hS2]; exact get_more (get_more ga)
  have hb2 : S2[b]? = some (.lst (zs.map .str)) := by rw [hS2]; exact get_more (get_more gb)
  simp only [List.append_assoc, List.cons_append, List.nil_append] at hS2
  simp at ne2
  rw [← hS2] at ne2
  simp [e_seq, e_drop, e_bm, bm1_ok it, e_cons, e_nil, ap, e_call, ab, ← hS2, e_op, ne2, e_if, e_nx, e_for, e_iter, e_tup]
  obtain ⟨y1, U1, w1⟩ := tw_e (S := S2) (some (.ref a)) (some (.ref b)) (some (.str (Txt.join colT xs))) (some (.ref n3)) (some (.ref S1.length)) none none x0 z0 (by omega) (by omega) ha2 hb2 hx hz
  obtain ⟨y2, U2, w2⟩ := tw_e (S := S2 ++ U1) (some (.ref a)) (some (.ref b)) (some (.str (Txt.join colT xs))) (some (.ref n3)) (some (.ref S1.length)) y1 none z0 x0 (by omega) (by omega) (get_more hb2) (get_more ha2) hz hx
  unfold twB at w1 w2
  have gt : ∀ (gs : LGs) (xs : List LV) (S : Sto) (ds : Sl), gTp gs (.tup xs) S ds = gs xs S ds := fun _ _ _ _ => rfl
  simp [forL, gt, w1, w2, e_ret]
  exact gc_bl
theorem names_by (ns : List Int) (ce : Int) (base : Int) (hb : 0 ≤ base) : ∃ nm : Int → Str, ∀ j, 0 ≤ j → nameOk (tl (nm j)) = true ∧ ∀ S, f__law_name_by [.int ce, .int (cell ns (base + j) % 12)] S = .ok (.str (nm j)) S := by
  have := fun j : Int => name_by_e ce (cell ns (base + j) % 12) (by omega) (by omega)
  exact ⟨fun j => (this j).choose, fun j _ => (this j).choose_spec⟩
theorem names_lc {fe : LE} {lg : LG} {ds : Sl} (ns : List Int) (ce base : Int) (hb : 0 ≤ base) (n : Nat) (hn : n ≤ 100) (hfe : ∀ (j : Int) (S : Sto), 0 ≤ j → ∃ ds1, lg (.int j) S ds = some ds1 ∧ fe ds1 S = f__law_name_by [.int ce, .int (cell ns (base + j) % 12)] S) : ∃ ws : List Str, ws.length = n ∧ (∀ y ∈ ws, nameOk (tl y) = true) ∧ ∀ S : Sto, ∃ U, lcL lg lYes fe ds (rng 0 n) [] S = .ok (.ref (S ++ U).length) (S ++ U ++ [.lst (ws.map .str)]) := by
  obtain ⟨nm, hnm⟩ := names_by ns ce base hb
  refine ⟨(List.range n).map fun (k : Nat) => nm (0 + (k : Int)), by simp, fun y hy => by
    obtain ⟨k, _, rfl⟩ := List.mem_map.mp hy
    exact (hnm _ (by omega)).1, fun S => ?_⟩
  obtain ⟨U, hU⟩ := lcL_grow (lg := lg) (ft := lYes) (fe := fe) (ds := ds) (fun _ => true) (fun v => match v with | .int j => .str (nm j) | _ => .non) (rng 0 n) [] S (fun v hv S' => by
      obtain ⟨k, hk, rfl⟩ := mem_rng hv
      obtain ⟨ds1, h1, h2⟩ := hfe (0 + (k : Int)) S' (by omega)
      refine ⟨ds1, [], [], h1, by simp, fun _ => ?_⟩
      rw [List.append_nil, h2, (hnm _ (by omega)).2, List.append_nil]) (by unfold rng; simp; omega)
  rw [List.filter_eq_self.mpr fun _ _ => rfl, List.nil_append] at hU
  refine ⟨U, ?_⟩
  rw [hU]
  unfold rng
  rw [List.map_map, List.map_map]
  rfl
noncomputable abbrev jT : LS := (lSeq (lAsg (lBi listL (lCons (lVar 3) lNil)) (gNm 6))
  (lRet (lAnd (lOp eqL (lCall f__law_told (lCons (lC (.int 1)) (lCons (lVar 6) lNil))) (lVar 4)) (lOp eqL (lVar 6) (lVar 3)))))
theorem jtail {vs : List LV} {n3 : Nat} {S : Sto} {w e4 : LV} (v0 v1 v2 v5 v6 v7 : Option LV) (nx : isX e4 = false) (g : S[n3]? = some (.lst vs)) (ht : f__law_told [.int 1, .ref S.length] (S ++ [.lst vs]) = .ok w (S ++ [.lst vs])) (he : eqL w e4 (S ++ [.lst vs]) = .ok (.bl true) (S ++ [.lst vs])) (hd : ∀ v ∈ vs, Dv (S ++ [.lst vs]) v) : jT [v0, v1, v2, some (.ref n3), some e4, v5, v6, v7] S = .rt (.bl true) (S ++ [.lst vs]) := by
  have ls : listL [.ref n3] S = .ok (.ref S.length) (S ++ [.lst vs]) := by
    have : itemsO (.ref n3) S = some vs := by simp [itemsO, g]
    simp only [listL, this]
  have ec := eq_copy (S := S ++ [.lst vs]) (n := S.length) (k := n3) (by rw [get_app0]; rfl) (get_more g) hd
  unfold jT
  simp [e_seq, e_asg, e_bi, e_cons, e_nil, ls, e_nm, e_ret, e_and, e_op, e_call, ht, nx, he, ec]
end K06


set_option Elab.async false
set_option linter.all false
set_option maxRecDepth 100000
set_option maxHeartbeats 4000000
namespace K06
open PySem PySem.Spec PyProof.Rows L2 LL
theorem Dv_name {S : Sto} {ws : List Str} (h : ∀ y ∈ ws, nameOk (tl y) = true) : ∀ v ∈ ws.map LV.str, Dv S v := fun v hv => by
  obtain ⟨y, hy, rfl⟩ := List.mem_map.mp hv
  exact Dv.str (name_fine (h y hy)).ok
theorem Nv_name {S : Sto} {ws : List Str} (h : ∀ y ∈ ws, nameOk (tl y) = true) : ∀ v ∈ ws.map LV.str, Nv S v := fun v hv => by
  obtain ⟨y, hy, rfl⟩ := List.mem_map.mp hv
  exact Nv.str (by have := (name_fine (h y hy)).len; omega)
noncomputable abbrev jA : LS := (lSeq (lIf (lAnd (lOp eqL (lOp modL (lVar 5) (lC (.int 3))) (lC (.int 1))) (lOp neL (lVar 3) (lLst lNil)))
  (lSeq (lSub (lCall f__law_no_name (lCons (lOp ixL (lVar 3) (lC (.int 0))) (lCons (lCall f__law_cell_at (lCons (lVar 0) (lCons (lC (.int 11)) lNil))) lNil))) (lVar 3) (lOp modL (lOp divL (lVar 5) (lC (.int 3))) (lVar 2)))
  (lAsg (lTup (lCons (lC (.str "refused")) lNil)) (gNm 4)))
  lNx) jT)
theorem ja_e {ns : List Int} {ws : List Str} (hl : ws.length ≤ 8) (hw : ∀ y ∈ ws, nameOk (tl y) = true) {S : Sto} {n3 : Nat} (g : S[n3]? = some (.lst (ws.map .str))) (x1 : LV) (c : Int) :
    ∃ S', jA [some (.scr ns), some x1, some (.int ws.length), some (.ref n3), some (if 1 ≤ ws.length ∧ ws.length ≤ 6 then .str (Txt.join colT ws) else refu), some (.int c), none, none] S = .rt (.bl true) S' := by
  have nx4 : isX (if 1 ≤ ws.length ∧ ws.length ≤ 6 then LV.str (Txt.join colT ws) else refu) = false := by split <;> rfl
  have tail : ∀ (S : Sto), S[n3]? = some (.lst (ws.map .str)) → ∀ v7, ∃ S', jT [some (.scr ns), some x1, some (.int ws.length), some (.ref n3), some (if 1 ≤ ws.length ∧ ws.length ≤ 6 then LV.str (Txt.join colT ws) else refu), some (.int c), none, v7] S = .rt (.bl true) S' := fun S g v7 => by
    by_cases q : 1 ≤ ws.length ∧ ws.length ≤ 6
    · rw [if_pos q]
      exact ⟨_, jtail (w := .str (Txt.join colT ws)) _ _ _ _ _ _ rfl g (told_1y (by rw [get_app0]; rfl) q.1 q.2 hw) (by rw [eq_ss, beq_self_eq_true]) (Dv_name hw)⟩
    · rw [if_neg q]
      refine ⟨_, jtail (w := refu) _ _ _ _ _ _ rfl g (told_1n (vs := ws.map .str) (by rw [get_app0]; rfl) (Nv_name hw) ?_) eq_rr (Dv_name hw)⟩
      rw [List.length_map]
      by_cases a : 1 ≤ ws.length
      · rw [decide_eq_false (p := ws.length ≤ 6) (by omega)]; simp
      · rw [decide_eq_false a]; rfl
  generalize (if 1 ≤ ws.length ∧ ws.length ≤ 6 then LV.str (Txt.join colT ws) else refu) = e4 at *
  by_cases q : c % 3 = 1
  · have ne := ne_strs_nil (S := S ++ [.lst []]) (n := n3) (k := S.length) (zs := ws) (get_more g) (by rw [get_app0]; rfl) (fun y hy => (name_fine (hw y hy)).ok)
    cases ws with
    | nil =>
      obtain ⟨S', h⟩ := tail (S ++ [.lst []]) (get_more g) none
      refine ⟨S', ?_⟩
      unfold jA jT at *
      simp only [List.isEmpty_nil, Bool.not_true, List.map_nil] at ne h ⊢
      simp [e_seq, e_if, e_and, e_op, mod_ii, q, e_lst, e_nil, mkLst, small, ne, e_nx] at h ⊢
      exact h
    | cons w ws =>
      have hw0 := hw w (List.mem_cons_self ..)
      obtain ⟨v, U, h1, h2, h3, h4, h5⟩ := no_name_e hw0 (cell ns 11) (S ++ [.lst []])
      have g1 : (S ++ [LO.lst []])[n3]? = some (.lst ((w :: ws).map .str)) := get_more g
      have g2 : (S ++ [LO.lst []] ++ U)[n3]? = some (.lst ((w :: ws).map .str)) := get_more g1
      have ix : ixL (.ref n3) (.int 0) (S ++ [.lst []]) = .ok (.str w) (S ++ [.lst []]) := ix_l g1 (by omega) rfl
      have ca := fun S => cell_at_e ns 11 (by omega) S
      have j0 : 0 ≤ c / 3 % ((ws.length : Int) + 1) := Int.emod_nonneg _ (by omega)
      have j1 : c / 3 % ((ws.length : Int) + 1) < (ws.length : Int) + 1 := Int.emod_lt_of_pos _ (by omega)
      obtain ⟨j, hj⟩ : ∃ j, j = c / 3 % ((ws.length : Int) + 1) := ⟨_, rfl⟩
      rw [← hj] at j0 j1
      have pu := put_l (S := S ++ [.lst []] ++ U) (v := v) (k := j) g2 j0 (by simp; omega)
      have sz : n3 < (S ++ [LO.lst []] ++ U).length := (List.getElem?_eq_some_iff.mp g2).1
      obtain ⟨S2, hS2⟩ : ∃ T, T = (S ++ [LO.lst []] ++ U).set n3 (.lst (((w :: ws).map LV.str).set j.toNat v)) := ⟨_, rfl⟩
      have g3 : S2[n3]? = some (.lst (((w :: ws).map LV.str).set j.toNat v)) := by rw [hS2, List.getElem?_set_self sz]
      have n3lt : n3 < (S ++ [LO.lst []]).length := (List.getElem?_eq_some_iff.mp g1).1
      have rf : ∀ U2, v = .ref (S ++ [LO.lst []]).length → (S2 ++ U2)[(S ++ [LO.lst []]).length]? = some (.lst [.str w]) := fun U2 e => by
        refine get_more ?_
        rcases h4 with ⟨_, h4⟩ | ⟨h4, _⟩
        · have := h4 0
          rw [e] at this
          simp [lowV] at this
        · rw [hS2, List.getElem?_set_ne (by omega), get_app0, h4]; rfl
      have nvs : ∀ U2, ∀ u ∈ ((w :: ws).map LV.str).set j.toNat v, Nv (S2 ++ U2) u ∧ Dv (S2 ++ U2) u := fun U2 u hu => by
        rcases List.mem_or_eq_of_mem_set hu with hu | rfl
        · exact ⟨Nv_name hw u hu, Dv_name hw u hu⟩
        · exact h5 _ (rf U2)
      have t1 := told_1n (S := S2 ++ [.lst (((w :: ws).map LV.str).set j.toNat v)]) (n := S2.length) (vs := ((w :: ws).map LV.str).set j.toNat v) (by rw [get_app0]; rfl) (fun u hu => (nvs _ u hu).1) (by
        have : (((w :: ws).map LV.str).set j.toNat v).all nameV = false := by
          rw [← Bool.not_eq_true]
          intro e
          have := List.all_eq_true.mp e v (List.mem_set (by simp; omega) _)
          rw [h2] at this
          cases this
        rw [this]; simp)
      have jt := jtail (S := S2) (n3 := n3) (w := refu) (e4 := refu) (some (.scr ns)) (some x1) (some (.int ((w :: ws).length : Nat))) (some (.int c)) none none rfl g3 t1 eq_rr fun u hu => (nvs _ u hu).2
      refine ⟨S2 ++ [.lst (((w :: ws).map LV.str).set j.toNat v)], ?_⟩
      unfold jA jT at *
      simp only [List.isEmpty_cons, Bool.not_false] at ne
      simp only [List.length_cons, Int.natCast_add, Int.natCast_one] at jt ⊢
      simp only [List.map_cons] at ne pu hS2 jt
      have dv : ∀ S : Sto, divL (.int c) (.int 3) S = .ok (.int (c / 3)) S := fun S => div_ii (by omega) (by omega)
      have md : ∀ S : Sto, modL (.int (c / 3)) (.int ((ws.length : Int) + 1)) S = .ok (.int j) S := fun S => by rw [mod_ii (by omega), hj]
      simp only [List.append_assoc, List.cons_append, List.nil_append] at pu hS2 h1
      rw [e_seq, e_if]
      simp [e_and, e_op, mod_ii, q, e_lst, e_nil, mkLst, small, ne, e_seq, e_sub, e_call, e_cons, ix, ca, h1]
      simp [sub1, sub2, e_op, dv, md]
      rw [sub3_ok pu, ← hS2]
      simp [e_asg, e_tup, e_cons, e_nil, e_nm]
      exact jt
  · obtain ⟨S', h⟩ := tail S g none
    refine ⟨S', ?_⟩
    unfold jA jT at *
    rw [e_seq, e_if]
    simp [e_and, e_op, mod_ii, q, e_nx]
    exact h
end K06


set_option Elab.async false
set_option linter.all false
set_option maxRecDepth 100000
set_option maxHeartbeats 4000000
namespace K06
open PySem PySem.Spec PyProof.Rows L2 LL
theorem joined_e {ns : List Int} (x1 : Int) (S : Sto) : ∃ S', f__law_joined_good [.scr ns, .int x1] S = .ok (.bl true) S' := by
  have c1 := fun S => cell_at_e ns 1 (by omega) S
  have c10 := fun S => cell_at_e ns 10 (by omega) S
  obtain ⟨m, hm⟩ : ∃ m, m = cell ns 1 % 9 := ⟨_, rfl⟩
  have m0 : 0 ≤ m := by omega
  have m9 : m ≤ 8 := by omega
  have cc : ∀ (j : Int) (S : Sto), 0 ≤ j → f__law_cell_at [.scr ns, .int (2 + j)] S = .ok (.int (cell ns (2 + j))) S := fun j S h => cell_at_e ns _ (by omega) S
  obtain ⟨ws, wl, wok, hws⟩ := names_lc (lg := gNm 7) (fe := (lCall f__law_name_by (lCons (lVar 1) (lCons (lOp modL (lCall f__law_cell_at (lCons (lVar 0) (lCons (lOp addL (lC (.int 2)) (lVar 7)) lNil))) (lC (.int 12))) lNil)))) (ds := [some (.scr ns), some (.int x1), some (.int m), none, none, none, none, none]) ns x1 2 (by omega) m.toNat (by omega) (fun j S hj => ⟨_, rfl, by
    simp [e_call, e_cons, e_nil, e_op, cc j S hj, mod_ii]⟩)
  obtain ⟨U, hU⟩ := hws S
  have md : modL (.int (cell ns 1)) (.int 9) S = .ok (.int m) S := by rw [mod_ii (by omega), hm]
  have mw : m = (ws.length : Int) := by omega
  have r1 : rng1O [.int m] S = .ok (itOf (rng 0 m.toNat)) S := rng1_e (by omega) (by omega)
  have g3 : (S ++ U ++ [LO.lst (ws.map .str)])[(S ++ U).length]? = some (.lst (ws.map .str)) := by rw [get_app0]; rfl
  have jn := joinC g3 (fun y hy => (name_fine (wok y hy)).len) (by omega)
  obtain ⟨S', hja⟩ := ja_e (ns := ns) (ws := ws) (by omega) wok g3 (.int x1) (cell ns 10)
  obtain ⟨n3, hn3⟩ : ∃ n, n = (S ++ U).length := ⟨_, rfl⟩
  obtain ⟨S1, hS1⟩ : ∃ T, T = S ++ U ++ [LO.lst (ws.map .str)] := ⟨_, rfl⟩
  rw [← hn3, ← hS1] at hU jn hja
  simp only [f__law_joined_good]
  rw [e_fn (by rfl)]
  simp [g__law_joined_good, e_seq, e_asg, e_op, e_call, e_cons, e_nil, c1, md, e_nm, e_lc, e_rng1, r1, wipeL] at hU ⊢
  rw [hU, mw]
  unfold jA jT at hja
  simp only [e_seq] at hja
  by_cases a1 : 1 ≤ ws.length
  · have a1' : (1 : Int) ≤ ws.length := by omega
    by_cases a6 : ws.length ≤ 6
    · have a6' : (ws.length : Int) ≤ 6 := by omega
      rw [if_pos ⟨a1, a6⟩] at hja
      simp [e_seq, e_nm, e_asg, e_tup, e_cons, e_nil, mkTup, small, e_if, e_chain, a1', a6', e_bm, jn, e_call, c10] at hja ⊢
      rw [hja]
      exact gc_bl
    · have a6' : ¬ (ws.length : Int) ≤ 6 := by omega
      rw [if_neg (fun h => a6 h.2)] at hja
      simp [e_seq, e_nm, e_asg, e_tup, e_cons, e_nil, mkTup, small, e_if, e_chain, a1', a6', e_nx, e_call, c10] at hja ⊢
      rw [hja]
      exact gc_bl
  · have a1' : ¬ (1 : Int) ≤ ws.length := by omega
    rw [if_neg (fun h => a1 h.1)] at hja
    simp [e_seq, e_nm, e_asg, e_tup, e_cons, e_nil, mkTup, small, e_if, e_chain, a1', e_nx, e_call, c10] at hja ⊢
    rw [hja]
    exact gc_bl
noncomputable abbrev tB : LS := (lSeq (lAsg (lOp addL (lC (.int 1)) (lOp modL (lOp divL (lVar 7) (lC (.int 3))) (lBi lenL (lCons (lVar 5) lNil)))) (gNm 8))
  (lSeq (lAsg (lOp ixL (lLst (lCons (lSl (lVar 5) none (some (lVar 8))) (lCons (lOp addL (lSl (lVar 5) none (some (lOp subL (lVar 8) (lC (.int 1))))) (lVar 6)) (lCons (lSl (lOp addL (lVar 5) (lVar 6)) none (some (lC (.int 6)))) lNil)))) (lOp modL (lVar 7) (lC (.int 3)))) (gNm 9))
  (lRet (lCall f__law_tree_good (lCons (lVar 5) (lCons (lVar 9) lNil))))))
theorem tree_tail {xs : List Str} {y : Str} {n5 n6 : Nat} {S : Sto} (v0 v1 v2 v3 v4 v8 v9 v10 : Option LV) (g5 : S[n5]? = some (.lst (xs.map .str))) (g6 : S[n6]? = some (.lst [.str y])) (x1 : 1 ≤ xs.length) (x6 : xs.length ≤ 6) (hx : ∀ y ∈ xs, nameOk (tl y) = true) (hy : nameOk (tl y) = true) (c : Int) :
    ∃ S', tB [v0, v1, v2, v3, v4, some (.ref n5), some (.ref n6), some (.int c), v8, v9, v10] S = .rt (.bl true) S' := by
  have j0 : 0 ≤ c / 3 % (xs.length : Int) := Int.emod_nonneg _ (by omega)
  have j1 : c / 3 % (xs.length : Int) < xs.length := Int.emod_lt_of_pos _ (by omega)
  obtain ⟨j, hj⟩ : ∃ j, j = c / 3 % (xs.length : Int) := ⟨_, rfl⟩
  rw [← hj] at j0 j1
  have lr := len_ref g5
  rw [List.length_map] at lr
  have dv : ∀ S : Sto, divL (.int c) (.int 3) S = .ok (.int (c / 3)) S := fun S => div_ii (by omega) (by omega)
  have md : ∀ S : Sto, modL (.int (c / 3)) (.int (xs.length : Int)) S = .ok (.int j) S := fun S => by rw [mod_ii (by omega), hj]
  have s1 := sl_ref (lo := none) (hi := some (1 + j)) g5
  rw [cut_take _ (by omega), ← List.map_take] at s1
  obtain ⟨S1, hS1⟩ : ∃ T, T = S ++ [LO.lst ((xs.take (1 + j).toNat).map .str)] := ⟨_, rfl⟩
  have a1 : S1[S.length]? = some (LO.lst ((xs.take (1 + j).toNat).map .str)) := by rw [hS1, get_app0]; rfl
  have g51 : S1[n5]? = some (.lst (xs.map .str)) := by rw [hS1]; exact get_more g5
  have g61 : S1[n6]? = some (.lst [.str y]) := by rw [hS1]; exact get_more g6
  have s2 := sl_ref (lo := none) (hi := some (1 + j - 1)) g51
  rw [cut_take _ (by omega), ← List.map_take] at s2
  obtain ⟨S2, hS2⟩ : ∃ T, T = S1 ++ [LO.lst ((xs.take (1 + j - 1).toNat).map .str)] := ⟨_, rfl⟩
  have b2 : S2[S1.length]? = some (LO.lst ((xs.take (1 + j - 1).toNat).map .str)) := by rw [hS2, get_app0]; rfl
  have g52 : S2[n5]? = some (.lst (xs.map .str)) := by rw [hS2]; exact get_more g51
  have g62 : S2[n6]? = some (.lst [.str y]) := by rw [hS2]; exact get_more g61
  have a2 : S2[S.length]? = some (LO.lst ((xs.take (1 + j).toNat).map .str)) := by rw [hS2]; exact get_more a1
  have s3 := add_ll b2 g62 (by simp; omega)
  rw [show ((xs.take (1 + j - 1).toNat).map LV.str) ++ [.str y] = (xs.take (1 + j - 1).toNat ++ [y]).map LV.str by simp] at s3
  obtain ⟨S3, hS3⟩ : ∃ T, T = S2 ++ [LO.lst ((xs.take (1 + j - 1).toNat ++ [y]).map .str)] := ⟨_, rfl⟩
  have b3 : S3[S2.length]? = some (LO.lst ((xs.take (1 + j - 1).toNat ++ [y]).map .str)) := by rw [hS3, get_app0]; rfl
  have g53 : S3[n5]? = some (.lst (xs.map .str)) := by rw [hS3]; exact get_more g52
  have g63 : S3[n6]? = some (.lst [.str y]) := by rw [hS3]; exact get_more g62
  have a3 : S3[S.length]? = some (LO.lst ((xs.take (1 + j).toNat).map .str)) := by rw [hS3]; exact get_more a2
  have s4 := add_ll g53 g63 (by simp; omega)
  rw [show (xs.map LV.str) ++ [.str y] = (xs ++ [y]).map LV.str by simp] at s4
  obtain ⟨S4, hS4⟩ : ∃ T, T = S3 ++ [LO.lst ((xs ++ [y]).map .str)] := ⟨_, rfl⟩
  have b4 : S4[S3.length]? = some (LO.lst ((xs ++ [y]).map .str)) := by rw [hS4, get_app0]; rfl
  have g54 : S4[n5]? = some (.lst (xs.map .str)) := by rw [hS4]; exact get_more g53
  have a4 : S4[S.length]? = some (LO.lst ((xs.take (1 + j).toNat).map .str)) := by rw [hS4]; exact get_more a3
  have b34 : S4[S2.length]? = some (LO.lst ((xs.take (1 + j - 1).toNat ++ [y]).map .str)) := by rw [hS4]; exact get_more b3
  have s5 := sl_ref (lo := none) (hi := some 6) b4
  rw [cut_take _ (by omega), ← List.map_take] at s5
  obtain ⟨S5, hS5⟩ : ∃ T, T = S4 ++ [LO.lst (((xs ++ [y]).take (6 : Int).toNat).map .str)] := ⟨_, rfl⟩
  have b5 : S5[S4.length]? = some (LO.lst (((xs ++ [y]).take (6 : Int).toNat).map .str)) := by rw [hS5, get_app0]; rfl
  have g55 : S5[n5]? = some (.lst (xs.map .str)) := by rw [hS5]; exact get_more g54
  have a5 : S5[S.length]? = some (LO.lst ((xs.take (1 + j).toNat).map .str)) := by rw [hS5]; exact get_more a4
  have b35 : S5[S2.length]? = some (LO.lst ((xs.take (1 + j - 1).toNat ++ [y]).map .str)) := by rw [hS5]; exact get_more b34
  obtain ⟨S6, hS6⟩ : ∃ T, T = S5 ++ [LO.lst [.ref S.length, .ref S2.length, .ref S4.length]] := ⟨_, rfl⟩
  have g56 : S6[n5]? = some (.lst (xs.map .str)) := by rw [hS6]; exact get_more g55
  have b6 : S6[S5.length]? = some (LO.lst [.ref S.length, .ref S2.length, .ref S4.length]) := by rw [hS6, get_app0]; rfl
  obtain ⟨n9, zs, ix, g9, z0, z6, hz⟩ : ∃ n9, ∃ zs : List Str, ixL (.ref S5.length) (.int (c % 3)) S6 = .ok (.ref n9) S6 ∧ S6[n9]? = some (.lst (zs.map .str)) ∧ zs ≠ [] ∧ zs.length ≤ 6 ∧ ∀ y ∈ zs, nameOk (tl y) = true := by
    have hx' : ∀ z ∈ xs ++ [y], nameOk (tl z) = true := fun z hz => by
      rcases List.mem_append.mp hz with h | h
      · exact hx z h
      · rw [List.mem_singleton.mp h]; exact hy
    rcases (show c % 3 = 0 ∨ c % 3 = 1 ∨ c % 3 = 2 by omega) with q | q | q
    · exact ⟨S.length, xs.take (1 + j).toNat, ix_l b6 (by omega) (by rw [q]; rfl), by rw [hS6]; exact get_more a5, List.ne_nil_of_length_pos (by rw [List.length_take]; omega), by rw [List.length_take]; omega, fun z hz => hx z (List.mem_of_mem_take hz)⟩
    · exact ⟨S2.length, xs.take (1 + j - 1).toNat ++ [y], ix_l b6 (by omega) (by rw [q]; rfl), by rw [hS6]; exact get_more b35, by simp, by simp; omega, fun z hz => by
        rcases List.mem_append.mp hz with h | h
        · exact hx z (List.mem_of_mem_take h)
        · rw [List.mem_singleton.mp h]; exact hy⟩
    · exact ⟨S4.length, (xs ++ [y]).take (6 : Int).toNat, ix_l b6 (by omega) (by rw [q]; rfl), by rw [hS6]; exact get_more b5, List.ne_nil_of_length_pos (by rw [List.length_take, List.length_append]; simp; omega), by rw [List.length_take]; show min 6 _ ≤ 6; omega, fun z hz => hx' z (List.mem_of_mem_take hz)⟩
  obtain ⟨S', hT⟩ := tree_good_e (List.ne_nil_of_length_pos (by omega)) z0 x6 z6 g56 g9 hx hz
  refine ⟨S', ?_⟩
  rw [← hS1] at s1
  rw [← hS2] at s2
  rw [← hS3] at s3
  rw [← hS4] at s4
  rw [← hS5] at s5
  unfold tB
  simp [e_seq, e_asg, e_op, dv, e_bi, e_cons, e_nil, lr, md, e_nm, e_lst, e_sl, s1, s2, s3, s4, s5, mkLst, small, ← hS6, mod_ii, ix, e_ret, e_call, hT]
theorem law_true (ns : List Int) (h : ns.length ≤ 63) : ∃ S, f_law [.scr ns] [] = .ok (.bl true) S := by
  have ca : ∀ (k : Int) (S : Sto), 0 ≤ k → f__law_cell_at [.scr ns, .int k] S = .ok (.int (cell ns k)) S := fun k S hk => cell_at_e ns k hk S
  obtain ⟨S1, h1⟩ := joined_e (ns := ns) (cell ns 0) []
  obtain ⟨m, hm⟩ : ∃ m, m = 1 + cell ns 20 % 8 := ⟨_, rfl⟩
  obtain ⟨ws, wl, wok, hws⟩ := names_lc (lg := gNm 10) (fe := (lCall f__law_name_by (lCons (lVar 1) (lCons (lOp modL (lCall f__law_cell_at (lCons (lVar 0) (lCons (lOp addL (lC (.int 12)) (lVar 10)) lNil))) (lC (.int 12))) lNil)))) (ds := [some (.scr ns), some (.int (cell ns 0)), some (.int m), none, none, none, none, none, none, none, none]) ns (cell ns 0) 12 (by omega) m.toNat (by omega) (fun j S hj => ⟨_, rfl, by
    simp [e_call, e_cons, e_nil, e_op, ca _ S (show 0 ≤ 12 + j by omega), mod_ii]⟩)
  obtain ⟨U2, hU2⟩ := hws S1
  have ml : ws.length ≤ 8 := by omega
  obtain ⟨S2, hS2⟩ : ∃ T, T = S1 ++ U2 ++ [LO.lst (ws.map .str)] := ⟨_, rfl⟩
  have jn : joinL2 (.str colT) [.ref (S1 ++ U2).length] S2 = .ok (.str (Txt.join colT ws)) S2 := joinC (by rw [hS2, get_app0]; rfl) (fun y hy => (name_fine (wok y hy)).len) (by omega)
  have tf := join_fine (by omega) wok
  obtain ⟨n2, hn2⟩ : ∃ n, n = (S1 ++ U2).length := ⟨_, rfl⟩
  rw [← hn2] at jn hU2
  rw [← hS2] at hU2
  generalize Txt.join colT ws = z at *
  obtain ⟨w, wf, we⟩ := edited_e tf (by omega) (cell ns 21) (cell ns 22)
  obtain ⟨S3, ng⟩ := names_good_e wf (by omega) S2
  -- a thing that is no text
  obtain ⟨v4, n4, hv4, ov4, wv4⟩ : ∃ v4, ∃ n4 : Nat, ixL (.ref (S3.length + 3)) (.int (cell ns 23 % 9)) (S3 ++ [.lst [.str z], .dct [], .lst [.str "a"], .lst [.non, .int 5, .bl true, .ref S3.length, .tup [.str z], .ref (S3.length + 1), .ref (S3.length + 2), .int 0, .tup [.str "a"]]]) = .ok v4 (S3 ++ [.lst [.str z], .dct [], .lst [.str "a"], .lst [.non, .int 5, .bl true, .ref S3.length, .tup [.str z], .ref (S3.length + 1), .ref (S3.length + 2), .int 0, .tup [.str "a"]]]) ∧ Okv (S3 ++ [.lst [.str z], .dct [], .lst [.str "a"], .lst [.non, .int 5, .bl true, .ref S3.length, .tup [.str z], .ref (S3.length + 1), .ref (S3.length + 2), .int 0, .tup [.str "a"]]]) v4 ∧ wS v4 = none := by
    have gg : (S3 ++ [LO.lst [.str z], .dct [], .lst [.str "a"], .lst [.non, .int 5, .bl true, .ref S3.length, .tup [.str z], .ref (S3.length + 1), .ref (S3.length + 2), .int 0, .tup [.str "a"]]])[S3.length + 3]? = some (.lst [.non, .int 5, .bl true, .ref S3.length, .tup [.str z], .ref (S3.length + 1), .ref (S3.length + 2), .int 0, .tup [.str "a"]]) := by rw [get_app]; rfl
    rcases (show cell ns 23 % 9 = 0 ∨ cell ns 23 % 9 = 1 ∨ cell ns 23 % 9 = 2 ∨ cell ns 23 % 9 = 3 ∨ cell ns 23 % 9 = 4 ∨ cell ns 23 % 9 = 5 ∨ cell ns 23 % 9 = 6 ∨ cell ns 23 % 9 = 7 ∨ cell ns 23 % 9 = 8 by omega) with q | q | q | q | q | q | q | q | q <;> rw [q]
    · exact ⟨_, 0, ix_l gg (by omega) rfl, Okv.non, rfl⟩
    · exact ⟨_, 0, ix_l gg (by omega) rfl, Okv.int _, rfl⟩
    · exact ⟨_, 0, ix_l gg (by omega) rfl, Okv.bl _, rfl⟩
    · exact ⟨_, 0, ix_l gg (by omega) rfl, Okv.lst (by rw [get_app0]; rfl), rfl⟩
    · exact ⟨_, 0, ix_l gg (by omega) rfl, Okv.tup _, rfl⟩
    · exact ⟨_, 0, ix_l gg (by omega) rfl, Okv.dct (by rw [get_app]; rfl), rfl⟩
    · exact ⟨_, 0, ix_l gg (by omega) rfl, Okv.lst (by rw [get_app]; rfl), rfl⟩
    · exact ⟨_, 0, ix_l gg (by omega) rfl, Okv.int _, rfl⟩
    · exact ⟨_, 0, ix_l gg (by omega) rfl, Okv.tup _, rfl⟩
  have t4 := told_0o ov4 wv4
  have nx4 := ov4.nx
  obtain ⟨S4, hS4⟩ : ∃ T, T = S3 ++ [LO.lst [.str z], .dct [], .lst [.str "a"], .lst [.non, .int 5, .bl true, .ref S3.length, .tup [.str z], .ref (S3.length + 1), .ref (S3.length + 2), .int 0, .tup [.str "a"]]] := ⟨_, rfl⟩
  rw [← hS4] at hv4 t4
  have ner : ∀ S : Sto, neL refu refu S = .ok (.bl false) S := fun S => by
    have := eq_rr (S := S)
    unfold eqL at this
    unfold neL
    split at this
    · rename_i b e
      injection this with q
      injection q with q
      rw [q]; rfl
    · cases this
  -- the names
  obtain ⟨m5, hm5⟩ : ∃ m, m = 1 + cell ns 1 % 6 := ⟨_, rfl⟩
  obtain ⟨xs, xl, xok, hxs⟩ := names_lc (lg := gNm 10) (fe := (lCall f__law_name_by (lCons (lVar 1) (lCons (lOp modL (lCall f__law_cell_at (lCons (lVar 0) (lCons (lOp addL (lC (.int 2)) (lVar 10)) lNil))) (lC (.int 12))) lNil)))) (ds := [some (.scr ns), some (.int (cell ns 0)), some (.int m), some (.str z), some v4, none, none, none, none, none, none]) ns (cell ns 0) 2 (by omega) m5.toNat (by omega) (fun j S hj => ⟨_, rfl, by
    simp [e_call, e_cons, e_nil, e_op, ca _ S (show 0 ≤ 2 + j by omega), mod_ii]⟩)
  obtain ⟨U5, hU5⟩ := hxs S4
  obtain ⟨n5, hn5⟩ : ∃ n, n = (S4 ++ U5).length := ⟨_, rfl⟩
  obtain ⟨S5, hS5⟩ : ∃ T, T = S4 ++ U5 ++ [LO.lst (xs.map .str)] := ⟨_, rfl⟩
  have g5 : S5[n5]? = some (.lst (xs.map .str)) := by rw [hS5, hn5, get_app0]; rfl
  rw [← hn5, ← hS5] at hU5
  obtain ⟨nm, hnm⟩ := names_by ns (cell ns 0) 8 (by omega)
  obtain ⟨y, hy, ye⟩ : ∃ y, nameOk (tl y) = true ∧ ∀ S, f__law_name_by [.int (cell ns 0), .int (cell ns 8 % 12)] S = .ok (.str y) S := ⟨nm 0, (hnm 0 (by omega)).1, fun S => by have := (hnm 0 (by omega)).2 S; rwa [Int.add_zero] at this⟩
  obtain ⟨S6, hS6⟩ : ∃ T, T = S5 ++ [LO.lst [.str y]] := ⟨_, rfl⟩
  obtain ⟨S7, tt⟩ := tree_tail (S := S6) (n5 := n5) (n6 := S5.length) (some (.scr ns)) (some (.int (cell ns 0))) (some (.int m)) (some (.str z)) (some v4) none none none (by rw [hS6]; exact get_more g5) (by rw [hS6, get_app0]; rfl) (by omega) (by omega) xok hy (cell ns 9)
  have r1 : rng1O [.int m] S1 = .ok (itOf (rng 0 m.toNat)) S1 := rng1_e (by omega) (by omega)
  have r5 : rng1O [.int m5] S4 = .ok (itOf (rng 0 m5.toNat)) S4 := rng1_e (by omega) (by omega)
  have c0 := fun S => ca 0 S (by omega)
  have c20 := fun S => ca 20 S (by omega)
  have c21 := fun S => ca 21 S (by omega)
  have c22 := fun S => ca 22 S (by omega)
  have c23 := fun S => ca 23 S (by omega)
  have c1 := fun S => ca 1 S (by omega)
  have c8 := fun S => ca 8 S (by omega)
  have c9 := fun S => ca 9 S (by omega)
  unfold tB at tt
  simp only [e_seq] at tt
  simp only [f_law]
  rw [e_fn (by rfl)]
  simp [g_law, e_seq, e_asg, e_call, e_cons, e_nil, c0, e_nm, e_if, e_not, h1, e_nx, e_op, c20, mod_ii, ← hm, e_bm, e_lc, e_rng1, r1, wipeL] at hU2 ⊢
  rw [hU2]
  simp [jn, e_nm, e_seq, e_if, e_not, e_call, e_cons, e_nil, c21, c22, we, ng, e_nx, e_asg, e_op, e_lst, e_tup, e_dnew, mkLst, mkTup, small, Nat.add_assoc, c23, mod_ii] at hS4 hv4 ⊢
  rw [← hS4, hv4]
  simp [e_nm, e_seq, e_if, e_op, e_call, e_cons, e_nil, nx4, t4, e_tup, mkTup, small, ner, e_nx, e_asg, e_lc, e_rng1, c1, mod_ii, ← hm5, r5, wipeL] at hU5 ⊢
  rw [hU5]
  simp [e_nm, e_seq, e_asg, e_lst, e_cons, e_nil, e_call, e_op, c8, mod_ii, ye, mkLst, small, ← hS6, c9] at tt ⊢
  rw [tt]
  exact gc_bl
end K06


set_option Elab.async false
set_option linter.all false
set_option maxRecDepth 100000
set_option maxHeartbeats 4000000

namespace K06
open PySem PySem.Spec PyProof.Rows L2 LL
theorem all_mk {l : PySem.W.OpenLaw} {w : World} {K : PySem.W.Frag} {h : Heap} {mg : Str → Option Value} {fa : Addr} (X : K.In h) (G : h.Ns mainGlobals mg) (hfa : mg "law" = some (.ref fa))
    {f0 : Addr} {od0 an0 : Option Addr} {sl0 : Array (Option Value)} {oc0 kV0 dc0 pm0 cd0 ct0 : Value}
    (a0 : PySem.W.nsIn K mainGlobals "is_made_of" = some (some (.ref f0)))
    (l0 : K.lookup f0 = some ⟨oc0, od0, .func (PySem.W.fnOf "is_made_of" "is_made_of" (defArgs s_is_made_of) (defBody s_is_made_of) (defScope s_is_made_of) .none kV0 dc0 pm0 an0 cd0 ct0), sl0⟩) (c0 : PySem.W.codeIn K cd0 "is_made_of" = true) (k0 : PySem.W.keepIn K (.ref f0) = true)
    {f1 : Addr} {od1 an1 : Option Addr} {sl1 : Array (Option Value)} {oc1 kV1 dc1 pm1 cd1 ct1 : Value}
    (a1 : PySem.W.nsIn K mainGlobals "is_name" = some (some (.ref f1)))
    (l1 : K.lookup f1 = some ⟨oc1, od1, .func (PySem.W.fnOf "is_name" "is_name" (defArgs s_is_name) (defBody s_is_name) (defScope s_is_name) .none kV1 dc1 pm1 an1 cd1 ct1), sl1⟩) (c1 : PySem.W.codeIn K cd1 "is_name" = true) (k1 : PySem.W.keepIn K (.ref f1) = true)
    {f2 : Addr} {od2 an2 : Option Addr} {sl2 : Array (Option Value)} {oc2 kV2 dc2 pm2 cd2 ct2 : Value}
    (a2 : PySem.W.nsIn K mainGlobals "need_names" = some (some (.ref f2)))
    (l2 : K.lookup f2 = some ⟨oc2, od2, .func (PySem.W.fnOf "need_names" "need_names" (defArgs s_need_names) (defBody s_need_names) (defScope s_need_names) .none kV2 dc2 pm2 an2 cd2 ct2), sl2⟩) (c2 : PySem.W.codeIn K cd2 "need_names" = true) (k2 : PySem.W.keepIn K (.ref f2) = true)
    {f3 : Addr} {od3 an3 : Option Addr} {sl3 : Array (Option Value)} {oc3 kV3 dc3 pm3 cd3 ct3 : Value}
    (a3 : PySem.W.nsIn K mainGlobals "names_of" = some (some (.ref f3)))
    (l3 : K.lookup f3 = some ⟨oc3, od3, .func (PySem.W.fnOf "names_of" "names_of" (defArgs s_names_of) (defBody s_names_of) (defScope s_names_of) .none kV3 dc3 pm3 an3 cd3 ct3), sl3⟩) (c3 : PySem.W.codeIn K cd3 "names_of" = true) (k3 : PySem.W.keepIn K (.ref f3) = true)
    {f4 : Addr} {od4 an4 : Option Addr} {sl4 : Array (Option Value)} {oc4 kV4 dc4 pm4 cd4 ct4 : Value}
    (a4 : PySem.W.nsIn K mainGlobals "path_of" = some (some (.ref f4)))
    (l4 : K.lookup f4 = some ⟨oc4, od4, .func (PySem.W.fnOf "path_of" "path_of" (defArgs s_path_of) (defBody s_path_of) (defScope s_path_of) .none kV4 dc4 pm4 an4 cd4 ct4), sl4⟩) (c4 : PySem.W.codeIn K cd4 "path_of" = true) (k4 : PySem.W.keepIn K (.ref f4) = true)
    {f5 : Addr} {od5 an5 : Option Addr} {sl5 : Array (Option Value)} {oc5 kV5 dc5 pm5 cd5 ct5 : Value}
    (a5 : PySem.W.nsIn K mainGlobals "above" = some (some (.ref f5)))
    (l5 : K.lookup f5 = some ⟨oc5, od5, .func (PySem.W.fnOf "above" "above" (defArgs s_above) (defBody s_above) (defScope s_above) .none kV5 dc5 pm5 an5 cd5 ct5), sl5⟩) (c5 : PySem.W.codeIn K cd5 "above" = true) (k5 : PySem.W.keepIn K (.ref f5) = true)
    {f6 : Addr} {od6 an6 : Option Addr} {sl6 : Array (Option Value)} {oc6 kV6 dc6 pm6 cd6 ct6 : Value}
    (a6 : PySem.W.nsIn K mainGlobals "is_within" = some (some (.ref f6)))
    (l6 : K.lookup f6 = some ⟨oc6, od6, .func (PySem.W.fnOf "is_within" "is_within" (defArgs s_is_within) (defBody s_is_within) (defScope s_is_within) .none kV6 dc6 pm6 an6 cd6 ct6), sl6⟩) (c6 : PySem.W.codeIn K cd6 "is_within" = true) (k6 : PySem.W.keepIn K (.ref f6) = true)
    {f7 : Addr} {od7 an7 : Option Addr} {sl7 : Array (Option Value)} {oc7 kV7 dc7 pm7 cd7 ct7 : Value}
    (a7 : PySem.W.nsIn K mainGlobals "_law_cell_at" = some (some (.ref f7)))
    (l7 : K.lookup f7 = some ⟨oc7, od7, .func (PySem.W.fnOf "_law_cell_at" "_law_cell_at" (defArgs s__law_cell_at) (defBody s__law_cell_at) (defScope s__law_cell_at) .none kV7 dc7 pm7 an7 cd7 ct7), sl7⟩) (c7 : PySem.W.codeIn K cd7 "_law_cell_at" = true) (k7 : PySem.W.keepIn K (.ref f7) = true)
    {f8 : Addr} {od8 an8 : Option Addr} {sl8 : Array (Option Value)} {oc8 kV8 dc8 pm8 cd8 ct8 : Value}
    (a8 : PySem.W.nsIn K mainGlobals "_law_name_by" = some (some (.ref f8)))
    (l8 : K.lookup f8 = some ⟨oc8, od8, .func (PySem.W.fnOf "_law_name_by" "_law_name_by" (defArgs s__law_name_by) (defBody s__law_name_by) (defScope s__law_name_by) .none kV8 dc8 pm8 an8 cd8 ct8), sl8⟩) (c8 : PySem.W.codeIn K cd8 "_law_name_by" = true) (k8 : PySem.W.keepIn K (.ref f8) = true)
    {f9 : Addr} {od9 an9 : Option Addr} {sl9 : Array (Option Value)} {oc9 kV9 dc9 pm9 cd9 ct9 : Value}
    (a9 : PySem.W.nsIn K mainGlobals "_law_read" = some (some (.ref f9)))
    (l9 : K.lookup f9 = some ⟨oc9, od9, .func (PySem.W.fnOf "_law_read" "_law_read" (defArgs s__law_read) (defBody s__law_read) (defScope s__law_read) .none kV9 dc9 pm9 an9 cd9 ct9), sl9⟩) (c9 : PySem.W.codeIn K cd9 "_law_read" = true) (k9 : PySem.W.keepIn K (.ref f9) = true)
    {f10 : Addr} {od10 an10 : Option Addr} {sl10 : Array (Option Value)} {oc10 kV10 dc10 pm10 cd10 ct10 : Value}
    (a10 : PySem.W.nsIn K mainGlobals "_law_told" = some (some (.ref f10)))
    (l10 : K.lookup f10 = some ⟨oc10, od10, .func (PySem.W.fnOf "_law_told" "_law_told" (defArgs s__law_told) (defBody s__law_told) (defScope s__law_told) .none kV10 dc10 pm10 an10 cd10 ct10), sl10⟩) (c10 : PySem.W.codeIn K cd10 "_law_told" = true) (k10 : PySem.W.keepIn K (.ref f10) = true)
    {f11 : Addr} {od11 an11 : Option Addr} {sl11 : Array (Option Value)} {oc11 kV11 dc11 pm11 cd11 ct11 : Value}
    (a11 : PySem.W.nsIn K mainGlobals "_law_no_name" = some (some (.ref f11)))
    (l11 : K.lookup f11 = some ⟨oc11, od11, .func (PySem.W.fnOf "_law_no_name" "_law_no_name" (defArgs s__law_no_name) (defBody s__law_no_name) (defScope s__law_no_name) .none kV11 dc11 pm11 an11 cd11 ct11), sl11⟩) (c11 : PySem.W.codeIn K cd11 "_law_no_name" = true) (k11 : PySem.W.keepIn K (.ref f11) = true)
    {f12 : Addr} {od12 an12 : Option Addr} {sl12 : Array (Option Value)} {oc12 kV12 dc12 pm12 cd12 ct12 : Value}
    (a12 : PySem.W.nsIn K mainGlobals "_law_edited" = some (some (.ref f12)))
    (l12 : K.lookup f12 = some ⟨oc12, od12, .func (PySem.W.fnOf "_law_edited" "_law_edited" (defArgs s__law_edited) (defBody s__law_edited) (defScope s__law_edited) .none kV12 dc12 pm12 an12 cd12 ct12), sl12⟩) (c12 : PySem.W.codeIn K cd12 "_law_edited" = true) (k12 : PySem.W.keepIn K (.ref f12) = true)
    {f13 : Addr} {od13 an13 : Option Addr} {sl13 : Array (Option Value)} {oc13 kV13 dc13 pm13 cd13 ct13 : Value}
    (a13 : PySem.W.nsIn K mainGlobals "_law_names_good" = some (some (.ref f13)))
    (l13 : K.lookup f13 = some ⟨oc13, od13, .func (PySem.W.fnOf "_law_names_good" "_law_names_good" (defArgs s__law_names_good) (defBody s__law_names_good) (defScope s__law_names_good) .none kV13 dc13 pm13 an13 cd13 ct13), sl13⟩) (c13 : PySem.W.codeIn K cd13 "_law_names_good" = true) (k13 : PySem.W.keepIn K (.ref f13) = true)
    {f14 : Addr} {od14 an14 : Option Addr} {sl14 : Array (Option Value)} {oc14 kV14 dc14 pm14 cd14 ct14 : Value}
    (a14 : PySem.W.nsIn K mainGlobals "_law_joined_good" = some (some (.ref f14)))
    (l14 : K.lookup f14 = some ⟨oc14, od14, .func (PySem.W.fnOf "_law_joined_good" "_law_joined_good" (defArgs s__law_joined_good) (defBody s__law_joined_good) (defScope s__law_joined_good) .none kV14 dc14 pm14 an14 cd14 ct14), sl14⟩) (c14 : PySem.W.codeIn K cd14 "_law_joined_good" = true) (k14 : PySem.W.keepIn K (.ref f14) = true)
    {f15 : Addr} {od15 an15 : Option Addr} {sl15 : Array (Option Value)} {oc15 kV15 dc15 pm15 cd15 ct15 : Value}
    (a15 : PySem.W.nsIn K mainGlobals "_law_tree_good" = some (some (.ref f15)))
    (l15 : K.lookup f15 = some ⟨oc15, od15, .func (PySem.W.fnOf "_law_tree_good" "_law_tree_good" (defArgs s__law_tree_good) (defBody s__law_tree_good) (defScope s__law_tree_good) .none kV15 dc15 pm15 an15 cd15 ct15), sl15⟩) (c15 : PySem.W.codeIn K cd15 "_law_tree_good" = true) (k15 : PySem.W.keepIn K (.ref f15) = true)
    {f16 : Addr} {od16 an16 : Option Addr} {sl16 : Array (Option Value)} {oc16 kV16 dc16 pm16 cd16 ct16 : Value}
    (a16 : PySem.W.nsIn K mainGlobals "law" = some (some (.ref f16)))
    (l16 : K.lookup f16 = some ⟨oc16, od16, .func (PySem.W.fnOf "law" "law" (defArgs s_law) (defBody s_law) (defScope s_law) .none kV16 dc16 pm16 an16 cd16 ct16), sl16⟩) (c16 : PySem.W.codeIn K cd16 "law" = true) (k16 : PySem.W.keepIn K (.ref f16) = true)
    (hn : PySem.W.specialIn K (.builtin "object.__class__") "__get__" = some (some (.builtin "getset_descriptor.__get__"))) (ht : PySem.W.takesIn K (.builtin "object.__class__") = some true)
    {e_BadCurrency : Addr} (xa_BadCurrency : PySem.W.nsIn K mainGlobals "BadCurrency" = some (some (.ref e_BadCurrency))) (xq_BadCurrency : PySem.W.excIn K e_BadCurrency [.type "ValueError", .type "Exception", .type "BaseException", .type "object"] "ValueError.__new__" = true) (xk_BadCurrency : PySem.W.keepIn K (.ref e_BadCurrency) = true) (xs_BadCurrency : PySem.W.subIn K (.ref e_BadCurrency) (.type "BaseException") = some true) (xt_BadCurrency : PySem.W.typeIn K (.ref e_BadCurrency) = some (.type "type")) (xv_BadCurrency : PySem.W.subIn K (.ref e_BadCurrency) (.type "ValueError") = some true) (xr_BadCurrency : PySem.W.subIn K (.ref e_BadCurrency) (.ref e_BadCurrency) = some true)
    (xg_BadCurrency : PySem.W.findIn K (.ref e_BadCurrency) "__getattribute__" = some (some (.builtin "BaseException.__getattribute__"))) (xh_BadCurrency : PySem.W.findIn K (.ref e_BadCurrency) "__getattr__" = some none) (xd_BadCurrency : PySem.W.hasDictIn K e_BadCurrency = true) (xc_BadCurrency : PySem.W.findIn K (.ref e_BadCurrency) "__class__" = some (some (.builtin "object.__class__"))) (xm_BadCurrency : PySem.W.mroIn K e_BadCurrency (.type "object") = some true)
    {e_BadDay : Addr} (xa_BadDay : PySem.W.nsIn K mainGlobals "BadDay" = some (some (.ref e_BadDay))) (xq_BadDay : PySem.W.excIn K e_BadDay [.type "ValueError", .type "Exception", .type "BaseException", .type "object"] "ValueError.__new__" = true) (xk_BadDay : PySem.W.keepIn K (.ref e_BadDay) = true) (xs_BadDay : PySem.W.subIn K (.ref e_BadDay) (.type "BaseException") = some true) (xt_BadDay : PySem.W.typeIn K (.ref e_BadDay) = some (.type "type")) (xv_BadDay : PySem.W.subIn K (.ref e_BadDay) (.type "ValueError") = some true) (xr_BadDay : PySem.W.subIn K (.ref e_BadDay) (.ref e_BadDay) = some true)
    (xg_BadDay : PySem.W.findIn K (.ref e_BadDay) "__getattribute__" = some (some (.builtin "BaseException.__getattribute__"))) (xh_BadDay : PySem.W.findIn K (.ref e_BadDay) "__getattr__" = some none) (xd_BadDay : PySem.W.hasDictIn K e_BadDay = true) (xc_BadDay : PySem.W.findIn K (.ref e_BadDay) "__class__" = some (some (.builtin "object.__class__"))) (xm_BadDay : PySem.W.mroIn K e_BadDay (.type "object") = some true)
    {e_BadKind : Addr} (xa_BadKind : PySem.W.nsIn K mainGlobals "BadKind" = some (some (.ref e_BadKind))) (xq_BadKind : PySem.W.excIn K e_BadKind [.type "ValueError", .type "Exception", .type "BaseException", .type "object"] "ValueError.__new__" = true) (xk_BadKind : PySem.W.keepIn K (.ref e_BadKind) = true) (xs_BadKind : PySem.W.subIn K (.ref e_BadKind) (.type "BaseException") = some true) (xt_BadKind : PySem.W.typeIn K (.ref e_BadKind) = some (.type "type")) (xv_BadKind : PySem.W.subIn K (.ref e_BadKind) (.type "ValueError") = some true) (xr_BadKind : PySem.W.subIn K (.ref e_BadKind) (.ref e_BadKind) = some true)
    (xg_BadKind : PySem.W.findIn K (.ref e_BadKind) "__getattribute__" = some (some (.builtin "BaseException.__getattribute__"))) (xh_BadKind : PySem.W.findIn K (.ref e_BadKind) "__getattr__" = some none) (xd_BadKind : PySem.W.hasDictIn K e_BadKind = true) (xc_BadKind : PySem.W.findIn K (.ref e_BadKind) "__class__" = some (some (.builtin "object.__class__"))) (xm_BadKind : PySem.W.mroIn K e_BadKind (.type "object") = some true)
    {e_BadName : Addr} (xa_BadName : PySem.W.nsIn K mainGlobals "BadName" = some (some (.ref e_BadName))) (xq_BadName : PySem.W.excIn K e_BadName [.type "ValueError", .type "Exception", .type "BaseException", .type "object"] "ValueError.__new__" = true) (xk_BadName : PySem.W.keepIn K (.ref e_BadName) = true) (xs_BadName : PySem.W.subIn K (.ref e_BadName) (.type "BaseException") = some true) (xt_BadName : PySem.W.typeIn K (.ref e_BadName) = some (.type "type")) (xv_BadName : PySem.W.subIn K (.ref e_BadName) (.type "ValueError") = some true) (xr_BadName : PySem.W.subIn K (.ref e_BadName) (.ref e_BadName) = some true)
    (xg_BadName : PySem.W.findIn K (.ref e_BadName) "__getattribute__" = some (some (.builtin "BaseException.__getattribute__"))) (xh_BadName : PySem.W.findIn K (.ref e_BadName) "__getattr__" = some none) (xd_BadName : PySem.W.hasDictIn K e_BadName = true) (xc_BadName : PySem.W.findIn K (.ref e_BadName) "__class__" = some (some (.builtin "object.__class__"))) (xm_BadName : PySem.W.mroIn K e_BadName (.type "object") = some true)
    {e_BadPath : Addr} (xa_BadPath : PySem.W.nsIn K mainGlobals "BadPath" = some (some (.ref e_BadPath))) (xq_BadPath : PySem.W.excIn K e_BadPath [.type "ValueError", .type "Exception", .type "BaseException", .type "object"] "ValueError.__new__" = true) (xk_BadPath : PySem.W.keepIn K (.ref e_BadPath) = true) (xs_BadPath : PySem.W.subIn K (.ref e_BadPath) (.type "BaseException") = some true) (xt_BadPath : PySem.W.typeIn K (.ref e_BadPath) = some (.type "type")) (xv_BadPath : PySem.W.subIn K (.ref e_BadPath) (.type "ValueError") = some true) (xr_BadPath : PySem.W.subIn K (.ref e_BadPath) (.ref e_BadPath) = some true)
    (xg_BadPath : PySem.W.findIn K (.ref e_BadPath) "__getattribute__" = some (some (.builtin "BaseException.__getattribute__"))) (xh_BadPath : PySem.W.findIn K (.ref e_BadPath) "__getattr__" = some none) (xd_BadPath : PySem.W.hasDictIn K e_BadPath = true) (xc_BadPath : PySem.W.findIn K (.ref e_BadPath) "__class__" = some (some (.builtin "object.__class__"))) (xm_BadPath : PySem.W.mroIn K e_BadPath (.type "object") = some true)
    {e_HasBelow : Addr} (xa_HasBelow : PySem.W.nsIn K mainGlobals "HasBelow" = some (some (.ref e_HasBelow))) (xq_HasBelow : PySem.W.excIn K e_HasBelow [.type "ValueError", .type "Exception", .type "BaseException", .type "object"] "ValueError.__new__" = true) (xk_HasBelow : PySem.W.keepIn K (.ref e_HasBelow) = true) (xs_HasBelow : PySem.W.subIn K (.ref e_HasBelow) (.type "BaseException") = some true) (xt_HasBelow : PySem.W.typeIn K (.ref e_HasBelow) = some (.type "type")) (xv_HasBelow : PySem.W.subIn K (.ref e_HasBelow) (.type "ValueError") = some true) (xr_HasBelow : PySem.W.subIn K (.ref e_HasBelow) (.ref e_HasBelow) = some true)
    (xg_HasBelow : PySem.W.findIn K (.ref e_HasBelow) "__getattribute__" = some (some (.builtin "BaseException.__getattribute__"))) (xh_HasBelow : PySem.W.findIn K (.ref e_HasBelow) "__getattr__" = some none) (xd_HasBelow : PySem.W.hasDictIn K e_HasBelow = true) (xc_HasBelow : PySem.W.findIn K (.ref e_HasBelow) "__class__" = some (some (.builtin "object.__class__"))) (xm_HasBelow : PySem.W.mroIn K e_HasBelow (.type "object") = some true)
    {e_HouseError : Addr} (xa_HouseError : PySem.W.nsIn K mainGlobals "HouseError" = some (some (.ref e_HouseError))) (xq_HouseError : PySem.W.excIn K e_HouseError [.type "ValueError", .type "Exception", .type "BaseException", .type "object"] "ValueError.__new__" = true) (xk_HouseError : PySem.W.keepIn K (.ref e_HouseError) = true) (xs_HouseError : PySem.W.subIn K (.ref e_HouseError) (.type "BaseException") = some true) (xt_HouseError : PySem.W.typeIn K (.ref e_HouseError) = some (.type "type")) (xv_HouseError : PySem.W.subIn K (.ref e_HouseError) (.type "ValueError") = some true) (xr_HouseError : PySem.W.subIn K (.ref e_HouseError) (.ref e_HouseError) = some true)
    (xg_HouseError : PySem.W.findIn K (.ref e_HouseError) "__getattribute__" = some (some (.builtin "BaseException.__getattribute__"))) (xh_HouseError : PySem.W.findIn K (.ref e_HouseError) "__getattr__" = some none) (xd_HouseError : PySem.W.hasDictIn K e_HouseError = true) (xc_HouseError : PySem.W.findIn K (.ref e_HouseError) "__class__" = some (some (.builtin "object.__class__"))) (xm_HouseError : PySem.W.mroIn K e_HouseError (.type "object") = some true)
    {e_NoAccount : Addr} (xa_NoAccount : PySem.W.nsIn K mainGlobals "NoAccount" = some (some (.ref e_NoAccount))) (xq_NoAccount : PySem.W.excIn K e_NoAccount [.type "ValueError", .type "Exception", .type "BaseException", .type "object"] "ValueError.__new__" = true) (xk_NoAccount : PySem.W.keepIn K (.ref e_NoAccount) = true) (xs_NoAccount : PySem.W.subIn K (.ref e_NoAccount) (.type "BaseException") = some true) (xt_NoAccount : PySem.W.typeIn K (.ref e_NoAccount) = some (.type "type")) (xv_NoAccount : PySem.W.subIn K (.ref e_NoAccount) (.type "ValueError") = some true) (xr_NoAccount : PySem.W.subIn K (.ref e_NoAccount) (.ref e_NoAccount) = some true)
    (xg_NoAccount : PySem.W.findIn K (.ref e_NoAccount) "__getattribute__" = some (some (.builtin "BaseException.__getattribute__"))) (xh_NoAccount : PySem.W.findIn K (.ref e_NoAccount) "__getattr__" = some none) (xd_NoAccount : PySem.W.hasDictIn K e_NoAccount = true) (xc_NoAccount : PySem.W.findIn K (.ref e_NoAccount) "__class__" = some (some (.builtin "object.__class__"))) (xm_NoAccount : PySem.W.mroIn K e_NoAccount (.type "object") = some true)
    {e_NotOpen : Addr} (xa_NotOpen : PySem.W.nsIn K mainGlobals "NotOpen" = some (some (.ref e_NotOpen))) (xq_NotOpen : PySem.W.excIn K e_NotOpen [.type "ValueError", .type "Exception", .type "BaseException", .type "object"] "ValueError.__new__" = true) (xk_NotOpen : PySem.W.keepIn K (.ref e_NotOpen) = true) (xs_NotOpen : PySem.W.subIn K (.ref e_NotOpen) (.type "BaseException") = some true) (xt_NotOpen : PySem.W.typeIn K (.ref e_NotOpen) = some (.type "type")) (xv_NotOpen : PySem.W.subIn K (.ref e_NotOpen) (.type "ValueError") = some true) (xr_NotOpen : PySem.W.subIn K (.ref e_NotOpen) (.ref e_NotOpen) = some true)
    (xg_NotOpen : PySem.W.findIn K (.ref e_NotOpen) "__getattribute__" = some (some (.builtin "BaseException.__getattribute__"))) (xh_NotOpen : PySem.W.findIn K (.ref e_NotOpen) "__getattr__" = some none) (xd_NotOpen : PySem.W.hasDictIn K e_NotOpen = true) (xc_NotOpen : PySem.W.findIn K (.ref e_NotOpen) "__class__" = some (some (.builtin "object.__class__"))) (xm_NotOpen : PySem.W.mroIn K e_NotOpen (.type "object") = some true)
    {e_Twice : Addr} (xa_Twice : PySem.W.nsIn K mainGlobals "Twice" = some (some (.ref e_Twice))) (xq_Twice : PySem.W.excIn K e_Twice [.type "ValueError", .type "Exception", .type "BaseException", .type "object"] "ValueError.__new__" = true) (xk_Twice : PySem.W.keepIn K (.ref e_Twice) = true) (xs_Twice : PySem.W.subIn K (.ref e_Twice) (.type "BaseException") = some true) (xt_Twice : PySem.W.typeIn K (.ref e_Twice) = some (.type "type")) (xv_Twice : PySem.W.subIn K (.ref e_Twice) (.type "ValueError") = some true) (xr_Twice : PySem.W.subIn K (.ref e_Twice) (.ref e_Twice) = some true)
    (xg_Twice : PySem.W.findIn K (.ref e_Twice) "__getattribute__" = some (some (.builtin "BaseException.__getattribute__"))) (xh_Twice : PySem.W.findIn K (.ref e_Twice) "__getattr__" = some none) (xd_Twice : PySem.W.hasDictIn K e_Twice = true) (xc_Twice : PySem.W.findIn K (.ref e_Twice) "__class__" = some (some (.builtin "object.__class__"))) (xm_Twice : PySem.W.mroIn K e_Twice (.type "object") = some true)
    (xp_BadPath_BadCurrency : PySem.W.subIn K (.ref e_BadPath) (.ref e_BadCurrency) = some false)
    (xp_BadPath_BadDay : PySem.W.subIn K (.ref e_BadPath) (.ref e_BadDay) = some false)
    (xp_BadPath_BadKind : PySem.W.subIn K (.ref e_BadPath) (.ref e_BadKind) = some false)
    (xp_BadPath_BadName : PySem.W.subIn K (.ref e_BadPath) (.ref e_BadName) = some false)
    (xp_BadPath_HasBelow : PySem.W.subIn K (.ref e_BadPath) (.ref e_HasBelow) = some false)
    (xp_BadPath_HouseError : PySem.W.subIn K (.ref e_BadPath) (.ref e_HouseError) = some true)
    (xp_BadPath_NoAccount : PySem.W.subIn K (.ref e_BadPath) (.ref e_NoAccount) = some false)
    (xp_BadPath_NotOpen : PySem.W.subIn K (.ref e_BadPath) (.ref e_NotOpen) = some false)
    (xp_BadPath_Twice : PySem.W.subIn K (.ref e_BadPath) (.ref e_Twice) = some false)
    (zb_ValueError : PySem.W.nsIn K mainGlobals "ValueError" = some none)
    (zb_bool : PySem.W.nsIn K mainGlobals "bool" = some none)
    (zb_int : PySem.W.nsIn K mainGlobals "int" = some none)
    (zb_isinstance : PySem.W.nsIn K mainGlobals "isinstance" = some none)
    (zb_len : PySem.W.nsIn K mainGlobals "len" = some none)
    (zb_list : PySem.W.nsIn K mainGlobals "list" = some none)
    (zb_range : PySem.W.nsIn K mainGlobals "range" = some none)
    (zb_str : PySem.W.nsIn K mainGlobals "str" = some none)
    {tt_LETTERS : Tok} (vc_LETTERS : PySem.W.nsIn K mainGlobals "LETTERS" = some (some (.str "abcdefghijklmnopqrstuvwxyz" tt_LETTERS)))
    {tt_MARK : Tok} (vc_MARK : PySem.W.nsIn K mainGlobals "MARK" = some (some (.str ":" tt_MARK)))
    {tt_MOST_LETTERS : Tok} (vc_MOST_LETTERS : PySem.W.nsIn K mainGlobals "MOST_LETTERS" = some (some (.int 12 tt_MOST_LETTERS)))
    {tt_MOST_NAMES : Tok} (vc_MOST_NAMES : PySem.W.nsIn K mainGlobals "MOST_NAMES" = some (some (.int 6 tt_MOST_NAMES)))
    : ∃ fd : FuncData, (∀ (s : Shared) (v : Value), BindsTo s fd ⟨[v], []⟩ [("_law_script", v)]) ∧ ∀ base : Heap, K.In base → base.Ns mainGlobals mg → FnOk l.prog w K mg base (L2.CX l.prog w) 7 fa fd ["_law_script"] (spTop K) := by
  have e : f16 = fa := by
    have q := (PySem.W.mg_of X G a16).symm.trans hfa
    injection q with q
    injection q
  subst e
  let t : Txt K mg := {
    a_is_made_of := f0,
    d_is_made_of := _,
    F_is_made_of := fun_mk (st := s_is_made_of) l0 c0 k0,
    b_is_made_of := (fun_mk (st := s_is_made_of) l0 c0 k0).binds (ps := ["thing", "signs", "most"]) fun _ _ _ _ _ _ us hl => match us, hl with | [_, _, _], _ => rfl,
    m_is_made_of := PySem.W.mg_of X G a0,
    a_is_name := f1,
    d_is_name := _,
    F_is_name := fun_mk (st := s_is_name) l1 c1 k1,
    b_is_name := (fun_mk (st := s_is_name) l1 c1 k1).binds (ps := ["thing"]) fun _ _ _ _ _ _ us hl => match us, hl with | [_], _ => rfl,
    m_is_name := PySem.W.mg_of X G a1,
    a_need_names := f2,
    d_need_names := _,
    F_need_names := fun_mk (st := s_need_names) l2 c2 k2,
    b_need_names := (fun_mk (st := s_need_names) l2 c2 k2).binds (ps := ["names"]) fun _ _ _ _ _ _ us hl => match us, hl with | [_], _ => rfl,
    m_need_names := PySem.W.mg_of X G a2,
    a_names_of := f3,
    d_names_of := _,
    F_names_of := fun_mk (st := s_names_of) l3 c3 k3,
    b_names_of := (fun_mk (st := s_names_of) l3 c3 k3).binds (ps := ["path"]) fun _ _ _ _ _ _ us hl => match us, hl with | [_], _ => rfl,
    m_names_of := PySem.W.mg_of X G a3,
    a_path_of := f4,
    d_path_of := _,
    F_path_of := fun_mk (st := s_path_of) l4 c4 k4,
    b_path_of := (fun_mk (st := s_path_of) l4 c4 k4).binds (ps := ["names"]) fun _ _ _ _ _ _ us hl => match us, hl with | [_], _ => rfl,
    m_path_of := PySem.W.mg_of X G a4,
    a_above := f5,
    d_above := _,
    F_above := fun_mk (st := s_above) l5 c5 k5,
    b_above := (fun_mk (st := s_above) l5 c5 k5).binds (ps := ["path"]) fun _ _ _ _ _ _ us hl => match us, hl with | [_], _ => rfl,
    m_above := PySem.W.mg_of X G a5,
    a_is_within := f6,
    d_is_within := _,
    F_is_within := fun_mk (st := s_is_within) l6 c6 k6,
    b_is_within := (fun_mk (st := s_is_within) l6 c6 k6).binds (ps := ["path", "other"]) fun _ _ _ _ _ _ us hl => match us, hl with | [_, _], _ => rfl,
    m_is_within := PySem.W.mg_of X G a6,
    a__law_cell_at := f7,
    d__law_cell_at := _,
    F__law_cell_at := fun_mk (st := s__law_cell_at) l7 c7 k7,
    b__law_cell_at := (fun_mk (st := s__law_cell_at) l7 c7 k7).binds (ps := ["_law_script", "_law_k"]) fun _ _ _ _ _ _ us hl => match us, hl with | [_, _], _ => rfl,
    m__law_cell_at := PySem.W.mg_of X G a7,
    a__law_name_by := f8,
    d__law_name_by := _,
    F__law_name_by := fun_mk (st := s__law_name_by) l8 c8 k8,
    b__law_name_by := (fun_mk (st := s__law_name_by) l8 c8 k8).binds (ps := ["_law_cell", "_law_k"]) fun _ _ _ _ _ _ us hl => match us, hl with | [_, _], _ => rfl,
    m__law_name_by := PySem.W.mg_of X G a8,
    a__law_read := f9,
    d__law_read := _,
    F__law_read := fun_mk (st := s__law_read) l9 c9 k9,
    b__law_read := (fun_mk (st := s__law_read) l9 c9 k9).binds (ps := ["_law_path"]) fun _ _ _ _ _ _ us hl => match us, hl with | [_], _ => rfl,
    m__law_read := PySem.W.mg_of X G a9,
    a__law_told := f10,
    d__law_told := _,
    F__law_told := fun_mk (st := s__law_told) l10 c10 k10,
    b__law_told := (fun_mk (st := s__law_told) l10 c10 k10).binds (ps := ["_law_way", "_law_thing"]) fun _ _ _ _ _ _ us hl => match us, hl with | [_, _], _ => rfl,
    m__law_told := PySem.W.mg_of X G a10,
    a__law_no_name := f11,
    d__law_no_name := _,
    F__law_no_name := fun_mk (st := s__law_no_name) l11 c11 k11,
    b__law_no_name := (fun_mk (st := s__law_no_name) l11 c11 k11).binds (ps := ["_law_name", "_law_cell"]) fun _ _ _ _ _ _ us hl => match us, hl with | [_, _], _ => rfl,
    m__law_no_name := PySem.W.mg_of X G a11,
    a__law_edited := f12,
    d__law_edited := _,
    F__law_edited := fun_mk (st := s__law_edited) l12 c12 k12,
    b__law_edited := (fun_mk (st := s__law_edited) l12 c12 k12).binds (ps := ["_law_text", "_law_cell", "_law_more"]) fun _ _ _ _ _ _ us hl => match us, hl with | [_, _, _], _ => rfl,
    m__law_edited := PySem.W.mg_of X G a12,
    a__law_names_good := f13,
    d__law_names_good := _,
    F__law_names_good := fun_mk (st := s__law_names_good) l13 c13 k13,
    b__law_names_good := (fun_mk (st := s__law_names_good) l13 c13 k13).binds (ps := ["_law_text"]) fun _ _ _ _ _ _ us hl => match us, hl with | [_], _ => rfl,
    m__law_names_good := PySem.W.mg_of X G a13,
    a__law_joined_good := f14,
    d__law_joined_good := _,
    F__law_joined_good := fun_mk (st := s__law_joined_good) l14 c14 k14,
    b__law_joined_good := (fun_mk (st := s__law_joined_good) l14 c14 k14).binds (ps := ["_law_script", "_law_first"]) fun _ _ _ _ _ _ us hl => match us, hl with | [_, _], _ => rfl,
    m__law_joined_good := PySem.W.mg_of X G a14,
    a__law_tree_good := f15,
    d__law_tree_good := _,
    F__law_tree_good := fun_mk (st := s__law_tree_good) l15 c15 k15,
    b__law_tree_good := (fun_mk (st := s__law_tree_good) l15 c15 k15).binds (ps := ["_law_names", "_law_other"]) fun _ _ _ _ _ _ us hl => match us, hl with | [_, _], _ => rfl,
    m__law_tree_good := PySem.W.mg_of X G a15,
    a_law := f16,
    d_law := _,
    F_law := fun_mk (st := s_law) l16 c16 k16,
    b_law := (fun_mk (st := s_law) l16 c16 k16).binds (ps := ["_law_script"]) fun _ _ _ _ _ _ us hl => match us, hl with | [_], _ => rfl,
    m_law := PySem.W.mg_of X G a16,
    e_BadCurrency := e_BadCurrency,
    X_BadCurrency := ⟨PySem.W.mg_of X G xa_BadCurrency, xq_BadCurrency, xk_BadCurrency, xs_BadCurrency, xt_BadCurrency, ⟨xg_BadCurrency, xh_BadCurrency, xs_BadCurrency, xd_BadCurrency, xc_BadCurrency, hn, ht, xm_BadCurrency⟩, xv_BadCurrency, xr_BadCurrency⟩,
    e_BadDay := e_BadDay,
    X_BadDay := ⟨PySem.W.mg_of X G xa_BadDay, xq_BadDay, xk_BadDay, xs_BadDay, xt_BadDay, ⟨xg_BadDay, xh_BadDay, xs_BadDay, xd_BadDay, xc_BadDay, hn, ht, xm_BadDay⟩, xv_BadDay, xr_BadDay⟩,
    e_BadKind := e_BadKind,
    X_BadKind := ⟨PySem.W.mg_of X G xa_BadKind, xq_BadKind, xk_BadKind, xs_BadKind, xt_BadKind, ⟨xg_BadKind, xh_BadKind, xs_BadKind, xd_BadKind, xc_BadKind, hn, ht, xm_BadKind⟩, xv_BadKind, xr_BadKind⟩,
    e_BadName := e_BadName,
    X_BadName := ⟨PySem.W.mg_of X G xa_BadName, xq_BadName, xk_BadName, xs_BadName, xt_BadName, ⟨xg_BadName, xh_BadName, xs_BadName, xd_BadName, xc_BadName, hn, ht, xm_BadName⟩, xv_BadName, xr_BadName⟩,
    e_BadPath := e_BadPath,
    X_BadPath := ⟨PySem.W.mg_of X G xa_BadPath, xq_BadPath, xk_BadPath, xs_BadPath, xt_BadPath, ⟨xg_BadPath, xh_BadPath, xs_BadPath, xd_BadPath, xc_BadPath, hn, ht, xm_BadPath⟩, xv_BadPath, xr_BadPath⟩,
    e_HasBelow := e_HasBelow,
    X_HasBelow := ⟨PySem.W.mg_of X G xa_HasBelow, xq_HasBelow, xk_HasBelow, xs_HasBelow, xt_HasBelow, ⟨xg_HasBelow, xh_HasBelow, xs_HasBelow, xd_HasBelow, xc_HasBelow, hn, ht, xm_HasBelow⟩, xv_HasBelow, xr_HasBelow⟩,
    e_HouseError := e_HouseError,
    X_HouseError := ⟨PySem.W.mg_of X G xa_HouseError, xq_HouseError, xk_HouseError, xs_HouseError, xt_HouseError, ⟨xg_HouseError, xh_HouseError, xs_HouseError, xd_HouseError, xc_HouseError, hn, ht, xm_HouseError⟩, xv_HouseError, xr_HouseError⟩,
    e_NoAccount := e_NoAccount,
    X_NoAccount := ⟨PySem.W.mg_of X G xa_NoAccount, xq_NoAccount, xk_NoAccount, xs_NoAccount, xt_NoAccount, ⟨xg_NoAccount, xh_NoAccount, xs_NoAccount, xd_NoAccount, xc_NoAccount, hn, ht, xm_NoAccount⟩, xv_NoAccount, xr_NoAccount⟩,
    e_NotOpen := e_NotOpen,
    X_NotOpen := ⟨PySem.W.mg_of X G xa_NotOpen, xq_NotOpen, xk_NotOpen, xs_NotOpen, xt_NotOpen, ⟨xg_NotOpen, xh_NotOpen, xs_NotOpen, xd_NotOpen, xc_NotOpen, hn, ht, xm_NotOpen⟩, xv_NotOpen, xr_NotOpen⟩,
    e_Twice := e_Twice,
    X_Twice := ⟨PySem.W.mg_of X G xa_Twice, xq_Twice, xk_Twice, xs_Twice, xt_Twice, ⟨xg_Twice, xh_Twice, xs_Twice, xd_Twice, xc_Twice, hn, ht, xm_Twice⟩, xv_Twice, xr_Twice⟩,
    p_BadPath_BadCurrency := xp_BadPath_BadCurrency,
    p_BadPath_BadDay := xp_BadPath_BadDay,
    p_BadPath_BadKind := xp_BadPath_BadKind,
    p_BadPath_BadName := xp_BadPath_BadName,
    p_BadPath_HasBelow := xp_BadPath_HasBelow,
    p_BadPath_HouseError := xp_BadPath_HouseError,
    p_BadPath_NoAccount := xp_BadPath_NoAccount,
    p_BadPath_NotOpen := xp_BadPath_NotOpen,
    p_BadPath_Twice := xp_BadPath_Twice,
    z_ValueError := PySem.W.mg_none_of X G zb_ValueError,
    z_bool := PySem.W.mg_none_of X G zb_bool,
    z_int := PySem.W.mg_none_of X G zb_int,
    z_isinstance := PySem.W.mg_none_of X G zb_isinstance,
    z_len := PySem.W.mg_none_of X G zb_len,
    z_list := PySem.W.mg_none_of X G zb_list,
    z_range := PySem.W.mg_none_of X G zb_range,
    z_str := PySem.W.mg_none_of X G zb_str,
    c_LETTERS := ⟨_, PySem.W.mg_of X G vc_LETTERS, ⟨_, rfl⟩⟩,
    c_MARK := ⟨_, PySem.W.mg_of X G vc_MARK, ⟨_, rfl⟩⟩,
    c_MOST_LETTERS := ⟨_, PySem.W.mg_of X G vc_MOST_LETTERS, ⟨_, rfl⟩⟩,
    c_MOST_NAMES := ⟨_, PySem.W.mg_of X G vc_MOST_NAMES, ⟨_, rfl⟩⟩ }
  exact ⟨t.d_law, fun s v => .of_eq rfl, fun base _ _ => top_law (ok_law t) fun ns hn => law_true ns hn⟩
end K06
open PySem PySem.W PyProof.Rows
set_option maxHeartbeats 0 in
theorem PySem.Challenge.cw_evenhall_k06_paths_holds : PySem.Challenge.rw_evenhall_k06_paths.Holds := by
  w_on; o_law; k_head; (case hw => w_witness2)
  k_fill
  refine L2.walk_of (l := PySem.Challenge.rw_evenhall_k06_paths) (n := 63) (k := 7) (x := "_law_script") (CX := fun w => L2.CX PySem.Challenge.pw_evenhall_k06_paths w) (sp := fun w => LL.spTop _) rfl (by decide) rfl ⟨rfl, by decide, by decide⟩ (fun w h Y => PySem.W.kIn_of Y) ?F (fun _ _ a ns hl hO hS => LL.top_sp hl hO hS) (fun _ _ _ _ _ h => LL.top_no h)
  case F =>
    intro w mg fa h KX G hmg
    refine' K06.all_mk KX G hmg ?a0 ?l0 ?c0 ?k0 ?a1 ?l1 ?c1 ?k1 ?a2 ?l2 ?c2 ?k2 ?a3 ?l3 ?c3 ?k3 ?a4 ?l4 ?c4 ?k4 ?a5 ?l5 ?c5 ?k5 ?a6 ?l6 ?c6 ?k6 ?a7 ?l7 ?c7 ?k7 ?a8 ?l8 ?c8 ?k8 ?a9 ?l9 ?c9 ?k9 ?a10 ?l10 ?c10 ?k10 ?a11 ?l11 ?c11 ?k11 ?a12 ?l12 ?c12 ?k12 ?a13 ?l13 ?c13 ?k13 ?a14 ?l14 ?c14 ?k14 ?a15 ?l15 ?c15 ?k15 ?a16 ?l16 ?c16 ?k16 ?hn ?ht ?xa_BadCurrency ?xq_BadCurrency ?xk_BadCurrency ?xs_BadCurrency ?xt_BadCurrency ?xv_BadCurrency ?xr_BadCurrency ?xg_BadCurrency ?xh_BadCurrency ?xd_BadCurrency ?xc_BadCurrency ?xm_BadCurrency ?xa_BadDay ?xq_BadDay ?xk_BadDay ?xs_BadDay ?xt_BadDay ?xv_BadDay ?xr_BadDay ?xg_BadDay ?xh_BadDay ?xd_BadDay ?xc_BadDay ?xm_BadDay ?xa_BadKind ?xq_BadKind ?xk_BadKind ?xs_BadKind ?xt_BadKind ?xv_BadKind ?xr_BadKind ?xg_BadKind ?xh_BadKind ?xd_BadKind ?xc_BadKind ?xm_BadKind ?xa_BadName ?xq_BadName ?xk_BadName ?xs_BadName ?xt_BadName ?xv_BadName ?xr_BadName ?xg_BadName ?xh_BadName ?xd_BadName ?xc_BadName ?xm_BadName ?xa_BadPath ?xq_BadPath ?xk_BadPath ?xs_BadPath ?xt_BadPath ?xv_BadPath ?xr_BadPath ?xg_BadPath ?xh_BadPath ?xd_BadPath ?xc_BadPath ?xm_BadPath ?xa_HasBelow ?xq_HasBelow ?xk_HasBelow ?xs_HasBelow ?xt_HasBelow ?xv_HasBelow ?xr_HasBelow ?xg_HasBelow ?xh_HasBelow ?xd_HasBelow ?xc_HasBelow ?xm_HasBelow ?xa_HouseError ?xq_HouseError ?xk_HouseError ?xs_HouseError ?xt_HouseError ?xv_HouseError ?xr_HouseError ?xg_HouseError ?xh_HouseError ?xd_HouseError ?xc_HouseError ?xm_HouseError ?xa_NoAccount ?xq_NoAccount ?xk_NoAccount ?xs_NoAccount ?xt_NoAccount ?xv_NoAccount ?xr_NoAccount ?xg_NoAccount ?xh_NoAccount ?xd_NoAccount ?xc_NoAccount ?xm_NoAccount ?xa_NotOpen ?xq_NotOpen ?xk_NotOpen ?xs_NotOpen ?xt_NotOpen ?xv_NotOpen ?xr_NotOpen ?xg_NotOpen ?xh_NotOpen ?xd_NotOpen ?xc_NotOpen ?xm_NotOpen ?xa_Twice ?xq_Twice ?xk_Twice ?xs_Twice ?xt_Twice ?xv_Twice ?xr_Twice ?xg_Twice ?xh_Twice ?xd_Twice ?xc_Twice ?xm_Twice ?xp_BadPath_BadCurrency ?xp_BadPath_BadDay ?xp_BadPath_BadKind ?xp_BadPath_BadName ?xp_BadPath_HasBelow ?xp_BadPath_HouseError ?xp_BadPath_NoAccount ?xp_BadPath_NotOpen ?xp_BadPath_Twice ?zb_ValueError ?zb_bool ?zb_int ?zb_isinstance ?zb_len ?zb_list ?zb_range ?zb_str ?vc_LETTERS ?vc_MARK ?vc_MOST_LETTERS ?vc_MOST_NAMES
    (case a0 => k_is); (case l0 => k_is); (case c0 => k_is); (case k0 => k_is); (case a1 => k_is); (case l1 => k_is); (case c1 => k_is); (case k1 => k_is); (case a2 => k_is); (case l2 => k_is); (case c2 => k_is); (case k2 => k_is); (case a3 => k_is); (case l3 => k_is); (case c3 => k_is); (case k3 => k_is); (case a4 => k_is); (case l4 => k_is); (case c4 => k_is); (case k4 => k_is); (case a5 => k_is); (case l5 => k_is); (case c5 => k_is); (case k5 => k_is); (case a6 => k_is); (case l6 => k_is); (case c6 => k_is); (case k6 => k_is); (case a7 => k_is); (case l7 => k_is); (case c7 => k_is); (case k7 => k_is); (case a8 => k_is); (case l8 => k_is); (case c8 => k_is); (case k8 => k_is); (case a9 => k_is); (case l9 => k_is); (case c9 => k_is); (case k9 => k_is); (case a10 => k_is); (case l10 => k_is); (case c10 => k_is); (case k10 => k_is); (case a11 => k_is); (case l11 => k_is); (case c11 => k_is); (case k11 => k_is); (case a12 => k_is); (case l12 => k_is); (case c12 => k_is); (case k12 => k_is); (case a13 => k_is); (case l13 => k_is); (case c13 => k_is); (case k13 => k_is); (case a14 => k_is); (case l14 => k_is); (case c14 => k_is); (case k14 => k_is); (case a15 => k_is); (case l15 => k_is); (case c15 => k_is); (case k15 => k_is); (case a16 => k_is); (case l16 => k_is); (case c16 => k_is); (case k16 => k_is); (case hn => k_is); (case ht => k_is); (case xa_BadCurrency => k_is); (case xq_BadCurrency => k_exc); (case xk_BadCurrency => k_is); (case xs_BadCurrency => k_is); (case xt_BadCurrency => k_is); (case xv_BadCurrency => k_is); (case xr_BadCurrency => k_is); (case xg_BadCurrency => k_is); (case xh_BadCurrency => k_is); (case xd_BadCurrency => k_is); (case xc_BadCurrency => k_is); (case xm_BadCurrency => k_is); (case xa_BadDay => k_is); (case xq_BadDay => k_exc); (case xk_BadDay => k_is); (case xs_BadDay => k_is); (case xt_BadDay => k_is); (case xv_BadDay => k_is); (case xr_BadDay => k_is); (case xg_BadDay => k_is); (case xh_BadDay => k_is); (case xd_BadDay => k_is); (case xc_BadDay => k_is); (case xm_BadDay => k_is); (case xa_BadKind => k_is); (case xq_BadKind => k_exc); (case xk_BadKind => k_is); (case xs_BadKind => k_is); (case xt_BadKind => k_is); (case xv_BadKind => k_is); (case xr_BadKind => k_is); (case xg_BadKind => k_is); (case xh_BadKind => k_is); (case xd_BadKind => k_is); (case xc_BadKind => k_is); (case xm_BadKind => k_is); (case xa_BadName => k_is); (case xq_BadName => k_exc); (case xk_BadName => k_is); (case xs_BadName => k_is); (case xt_BadName => k_is); (case xv_BadName => k_is); (case xr_BadName => k_is); (case xg_BadName => k_is); (case xh_BadName => k_is); (case xd_BadName => k_is); (case xc_BadName => k_is); (case xm_BadName => k_is); (case xa_BadPath => k_is); (case xq_BadPath => k_exc); (case xk_BadPath => k_is); (case xs_BadPath => k_is); (case xt_BadPath => k_is); (case xv_BadPath => k_is); (case xr_BadPath => k_is); (case xg_BadPath => k_is); (case xh_BadPath => k_is); (case xd_BadPath => k_is); (case xc_BadPath => k_is); (case xm_BadPath => k_is); (case xa_HasBelow => k_is); (case xq_HasBelow => k_exc); (case xk_HasBelow => k_is); (case xs_HasBelow => k_is); (case xt_HasBelow => k_is); (case xv_HasBelow => k_is); (case xr_HasBelow => k_is); (case xg_HasBelow => k_is); (case xh_HasBelow => k_is); (case xd_HasBelow => k_is); (case xc_HasBelow => k_is); (case xm_HasBelow => k_is); (case xa_HouseError => k_is); (case xq_HouseError => k_exc); (case xk_HouseError => k_is); (case xs_HouseError => k_is); (case xt_HouseError => k_is); (case xv_HouseError => k_is); (case xr_HouseError => k_is); (case xg_HouseError => k_is); (case xh_HouseError => k_is); (case xd_HouseError => k_is); (case xc_HouseError => k_is); (case xm_HouseError => k_is); (case xa_NoAccount => k_is); (case xq_NoAccount => k_exc); (case xk_NoAccount => k_is); (case xs_NoAccount => k_is); (case xt_NoAccount => k_is); (case xv_NoAccount => k_is); (case xr_NoAccount => k_is); (case xg_NoAccount => k_is); (case xh_NoAccount => k_is); (case xd_NoAccount => k_is); (case xc_NoAccount => k_is); (case xm_NoAccount => k_is); (case xa_NotOpen => k_is); (case xq_NotOpen => k_exc); (case xk_NotOpen => k_is); (case xs_NotOpen => k_is); (case xt_NotOpen => k_is); (case xv_NotOpen => k_is); (case xr_NotOpen => k_is); (case xg_NotOpen => k_is); (case xh_NotOpen => k_is); (case xd_NotOpen => k_is); (case xc_NotOpen => k_is); (case xm_NotOpen => k_is); (case xa_Twice => k_is); (case xq_Twice => k_exc); (case xk_Twice => k_is); (case xs_Twice => k_is); (case xt_Twice => k_is); (case xv_Twice => k_is); (case xr_Twice => k_is); (case xg_Twice => k_is); (case xh_Twice => k_is); (case xd_Twice => k_is); (case xc_Twice => k_is); (case xm_Twice => k_is); (case xp_BadPath_BadCurrency => k_is); (case xp_BadPath_BadDay => k_is); (case xp_BadPath_BadKind => k_is); (case xp_BadPath_BadName => k_is); (case xp_BadPath_HasBelow => k_is); (case xp_BadPath_HouseError => k_is); (case xp_BadPath_NoAccount => k_is); (case xp_BadPath_NotOpen => k_is); (case xp_BadPath_Twice => k_is); (case zb_ValueError => k_is); (case zb_bool => k_is); (case zb_int => k_is); (case zb_isinstance => k_is); (case zb_len => k_is); (case zb_list => k_is); (case zb_range => k_is); (case zb_str => k_is); (case vc_LETTERS => k_is); (case vc_MARK => k_is); (case vc_MOST_LETTERS => k_is); (case vc_MOST_NAMES => k_is)

