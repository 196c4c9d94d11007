import PyProof.Rows.All
import Wide.All
import OpenK.AllK
import Wide.FinOn
import HandS.ForMost
import HandS.IsInst
import HandS.Walk
import HandS.WordsExc
import HandS.ExcIs
import HandS.Style
import HandS.TupAny
import HandS.Evl
import HandS.Wide
import PyProof.StrBlock2
import HandS.Replace
import HandS.ExcCtx
import HandS.NoneIn
import HandS.Codes
import HandS.TryOnly
import HandS.Small
import HandS.TupMul
import HandS.Iter
import HandS.SetKeys
import HandS.More
import HandS.SortInts
import KE.GoesMore
import PyProof.Draws
import PyProof.EnumMake
import HandS.HotCalls
import KE.SortData
import KE.DataCmp
import PyProof.WalkInts
import HandS.DictComp
import HandS.Conv
import HandS.Text
import KE.KRevIter
import HandS.Rev
import HandS.SortKw
import HandS.SetFor
import HandS.DictTup
import HandS.StrMore
import PyProof.DictMoreH
import PyProof.MeetsStr3
import HandS.EndBits
import PySem.Challenge.RW_evenhall_k09_quotes_by_plain_rows
set_option Elab.async false
set_option linter.all false
set_option maxRecDepth 100000
set_option maxHeartbeats 2000000
/-! The logical layer: values as trees, mutable objects by number, each construct by one deterministic function. -/
namespace LL
open PySem PySem.Spec PyProof.Rows L2

/-- a value: tuples and lists that nobody changes by what they hold, other lists, dicts and instances by their number -/
inductive LV where
  | non | bl (b : Bool) | int (i : Int) | str (s : Str) | ty (n : String)
  | tup (xs : List LV) | ktp (xs : List LV) | ref (n : Nat) | scr (ns : List Int) | cls (a : Addr)
  | exc (c : Nat) (fs : List LV)
  | lst (xs : List LV)
/-- what stands at a number -/
inductive LO where
  | lst (xs : List LV)
  | dct (kvs : List (Key × LV))
  | dcT (kvs : List (List Key × LV))
  | dck (kvs : List (Key × LV))
  | dcl (kvs : List (List Key × LV))
  | ins (c : Nat) (fs : List LV)
abbrev Sto := List LO
abbrev Sl := List (Option LV)

inductive R where
  | ok (v : LV) (S : Sto)
  | ex (c : Nat) (fs : List LV) (S : Sto)
  | no
@[simp] def R.bind : R → (LV → Sto → R) → R
  | .ok v S, k => k v S
  | .ex c fs S, _ => .ex c fs S
  | .no, _ => .no
/-- several values -/
inductive RL where
  | ok (vs : List LV) (S : Sto)
  | ex (c : Nat) (fs : List LV) (S : Sto)
  | no
@[simp] def RL.bind : RL → (List LV → Sto → R) → R
  | .ok v S, k => k v S
  | .ex c fs S, _ => .ex c fs S
  | .no, _ => .no
/-- a statement -/
inductive RS where
  | nx (ds : Sl) (S : Sto)
  | rt (v : LV) (S : Sto)
  | bk (ds : Sl) (S : Sto)
  | ct (ds : Sl) (S : Sto)
  | ex (c : Nat) (fs : List LV) (ds : Sl) (S : Sto)
  | no
abbrev LE := Sl → Sto → R
abbrev LA := Sl → Sto → RL
abbrev LS := Sl → Sto → RS
abbrev Fn := List LV → Sto → R

/-! ### what represents what -/
mutual
def RV (K : PySem.W.Frag) (m : List Addr) (H : Hp) : LV → V → Prop
  | .non, x => x = .non
  | .bl b, x => x = .bl b
  | .int i, x => x = .int i
  | .str s, x => x = .str s
  | .ty n, x => x = .ty n
  | .tup xs, x => ∃ a vs, x = .ref a ∧ H a = some (.tup vs) ∧ RVs K m H xs vs
  | .ktp xs, x => ∃ a vs, x = .ref a ∧ (∀ H', SqT K H' a vs) ∧ RVs K m H xs vs
  | .ref n, x => ∃ a, x = .ref a ∧ m[n]? = some a
  | .scr ns, x => ∃ a, x = .ref a ∧ ((∃ o, H a = some (.frz o (.lst (ns.map V.int)))) ∨ ∀ H', SqL K H' a (ns.map V.int))
  | .cls a, x => x = .ref a
  | .exc _ _, _ => False
  | .lst xs, x => ∃ a vs, x = .ref a ∧ a ∉ m ∧ H a = some (.lst vs) ∧ RVs K m H xs vs
def RVs (K : PySem.W.Frag) (m : List Addr) (H : Hp) : List LV → List V → Prop
  | [], vs => vs = []
  | x :: xs, vs => ∃ v r, vs = v :: r ∧ RV K m H x v ∧ RVs K m H xs r
end
/-- instances' classes by their codes -/
structure Env1 where
  ca : Nat → Addr
  fl : Nat → List Str
def RO (K : PySem.W.Frag) (T : Env1) (m : List Addr) (H : Hp) (a : Addr) : LO → Prop
  | .lst xs => ∃ vs, H a = some (.lst vs) ∧ RVs K m H xs vs
  | .dct kvs => ∃ ws, H a = some (.dK ws) ∧ ws.map (·.1) = kvs.map (·.1) ∧ RVs K m H (kvs.map (·.2)) (ws.map (·.2))
  | .dcT kvs => ∃ ws, H a = some (.dT ws) ∧ ws.map (·.1) = kvs.map (·.1) ∧ RVs K m H (kvs.map (·.2)) (ws.map (·.2))
  | .dck kvs => ∃ od ws, H a = some (.frz od (.dK ws)) ∧ ws.map (·.1) = kvs.map (·.1) ∧ RVs K m H (kvs.map (·.2)) (ws.map (·.2))
  | .dcl kvs => ∃ od ws, H a = some (.frz od (.dT ws)) ∧ ws.map (·.1) = kvs.map (·.1) ∧ RVs K m H (kvs.map (·.2)) (ws.map (·.2))
  | .ins c fs => ∃ dx ws, H a = some (.ins (T.ca c) dx ws) ∧ ws.map (·.1) = (T.fl c).take fs.length ∧ RVs K m H fs (ws.map (·.2))
structure RelS (K : PySem.W.Frag) (T : Env1) (m : List Addr) (S : Sto) (H : Hp) : Prop where
  len : m.length = S.length
  nd : m.Nodup
  ob : ∀ (n : Nat) (a : Addr) (o : LO), m[n]? = some a → S[n]? = some o → RO K T m H a o
/-- what a value leans on stands -/
structure Kp (m : List Addr) (H : Hp) (m' : List Addr) (H' : Hp) : Prop where
  get : ∀ (n : Nat) (a : Addr), m[n]? = some a → m'[n]? = some a
  tup : ∀ a vs, H a = some (.tup vs) → H' a = some (.tup vs)
  frz : ∀ a o u, H a = some (.frz o (.lst u)) → H' a = some (.frz o (.lst u))
  lst : ∀ a vs, a ∉ m → H a = some (.lst vs) → a ∉ m' ∧ H' a = some (.lst vs)
structure Ext (m : List Addr) (H : Hp) (m' : List Addr) (H' : Hp) : Prop where
  pre : ∃ t, m' = m ++ t
  fr : ∀ a o, a ∉ m → H a = some o → H' a = some o
  new : ∀ a, a ∈ m' → a ∉ m → H a = none
  tup : ∀ a vs, H a = some (.tup vs) → H' a = some (.tup vs)
  frz : ∀ a o u, H a = some (.frz o u) → H' a = some (.frz o u)

section
variable {K : PySem.W.Frag} {T : Env1} {m m' m1 m2 : List Addr} {H H' H1 H2 : Hp} {S S' S1 : Sto} {v : LV} {x : V}
theorem Ext.refl : Ext m H m H := ⟨⟨[], by simp⟩, fun _ _ _ h => h, fun a h n => absurd h n, fun _ _ h => h, fun _ _ _ h => h⟩
theorem Ext.mem (E : Ext m H m' H') {a : Addr} (h : a ∈ m) : a ∈ m' := by
  obtain ⟨t, rfl⟩ := E.pre
  exact List.mem_append_left _ h
theorem Ext.get (E : Ext m H m' H') {n : Nat} {a : Addr} (h : m[n]? = some a) : m'[n]? = some a := by
  obtain ⟨t, rfl⟩ := E.pre
  have hl : n < m.length := (List.getElem?_eq_some_iff.mp h).1
  rw [List.getElem?_append_left hl]
  exact h
theorem Ext.out (E : Ext m H m' H') {a : Addr} {o : HO} (h : a ∉ m) (ho : H a = some o) : a ∉ m' := fun z => by
  rw [E.new a z h] at ho
  cases ho
theorem Ext.trans (E : Ext m H m1 H1) (F : Ext m1 H1 m2 H2) : Ext m H m2 H2 where
  pre := by
    obtain ⟨t, rfl⟩ := E.pre
    obtain ⟨u, rfl⟩ := F.pre
    exact ⟨t ++ u, by simp⟩
  fr := fun a o h ho => F.fr a o (E.out h ho) (E.fr a o h ho)
  new := fun a h n => by
    by_cases h1 : a ∈ m1
    · exact E.new a h1 n
    · have h2 := F.new a h h1
      cases q : H a with
      | none => rfl
      | some o =>
        rw [E.fr a o n q] at h2
        cases h2
  tup := fun a vs h => F.tup a vs (E.tup a vs h)
  frz := fun a o u h => F.frz a o u (E.frz a o u h)
theorem Ext.kp (E : Ext m H m' H') : Kp m H m' H' := ⟨fun _ _ h => E.get h, E.tup, fun a o u h => E.frz a o _ h, fun a vs h ho => ⟨E.out h ho, E.fr a _ h ho⟩⟩
theorem Kp.scr (E : Kp m H m' H') {a : Addr} {vs : List V} (h : (∃ o, H a = some (.frz o (.lst vs))) ∨ ∀ H', SqL K H' a vs) : (∃ o, H' a = some (.frz o (.lst vs))) ∨ ∀ H', SqL K H' a vs := by
  rcases h with ⟨o, h⟩ | h
  · exact .inl ⟨o, E.frz a o _ h⟩
  · exact .inr h
theorem scr_sq {a : Addr} {vs : List V} (h : (∃ o, H a = some (.frz o (.lst vs))) ∨ ∀ H', SqL K H' a vs) : SqL K H a vs := by
  rcases h with ⟨o, h⟩ | h
  · exact .inl (.inr ⟨o, h⟩)
  · exact h H
mutual
theorem RV.kp (E : Kp m H m' H') : ∀ {v : LV} {x : V}, RV K m H v x → RV K m' H' v x
  | .non, _, h => h
  | .bl _, _, h => h
  | .int _, _, h => h
  | .str _, _, h => h
  | .ty _, _, h => h
  | .tup xs, x, h => by
    unfold RV at h ⊢
    obtain ⟨a, vs, e, ht, hs⟩ := h
    exact ⟨a, vs, e, E.tup a vs ht, RVs.kp E hs⟩
  | .ktp xs, x, h => by
    unfold RV at h ⊢
    obtain ⟨a, vs, e, ht, hs⟩ := h
    exact ⟨a, vs, e, ht, RVs.kp E hs⟩
  | .ref n, x, h => by
    unfold RV at h ⊢
    obtain ⟨a, e, hn⟩ := h
    exact ⟨a, e, E.get _ _ hn⟩
  | .scr ns, x, h => by
    unfold RV at h ⊢
    obtain ⟨a, e, h1⟩ := h
    exact ⟨a, e, E.scr h1⟩
  | .cls _, _, h => h
  | .exc _ _, _, h => h
  | .lst xs, x, h => by
    unfold RV at h ⊢
    obtain ⟨a, vs, e, hm, ht, hs⟩ := h
    obtain ⟨h1, h2⟩ := E.lst a vs hm ht
    exact ⟨a, vs, e, h1, h2, RVs.kp E hs⟩
theorem RVs.kp (E : Kp m H m' H') : ∀ {vs : List LV} {xs : List V}, RVs K m H vs xs → RVs K m' H' vs xs
  | [], _, h => h
  | v :: vs, xs, h => by
    unfold RVs at h ⊢
    obtain ⟨y, r, e, h1, h2⟩ := h
    exact ⟨y, r, e, RV.kp E h1, RVs.kp E h2⟩
end
theorem RV.mono (E : Ext m H m' H') (h : RV K m H v x) : RV K m' H' v x := RV.kp E.kp h
theorem RVs.mono {vs : List LV} {xs : List V} (E : Ext m H m' H') (h : RVs K m H vs xs) : RVs K m' H' vs xs := RVs.kp E.kp h
theorem RVs.nil : RVs K m H [] [] := by unfold RVs; rfl
theorem RVs.cons {vs : List LV} {xs : List V} (h : RV K m H v x) (hs : RVs K m H vs xs) : RVs K m H (v :: vs) (x :: xs) := by
  unfold RVs
  exact ⟨x, xs, rfl, h, hs⟩
theorem RVs.len : ∀ {vs : List LV} {xs : List V}, RVs K m H vs xs → vs.length = xs.length
  | [], _, h => by unfold RVs at h; rw [h]; rfl
  | v :: vs, xs, h => by
    unfold RVs at h
    obtain ⟨y, r, rfl, _, h2⟩ := h
    rw [List.length_cons, List.length_cons, RVs.len h2]
theorem RVs.get : ∀ {vs : List LV} {xs : List V} {n : Nat} {v : LV}, RVs K m H vs xs → vs[n]? = some v → ∃ x, xs[n]? = some x ∧ RV K m H v x
  | [], _, _, _, _, e => by simp at e
  | w :: vs, xs, 0, v, h, e => by
    unfold RVs at h
    obtain ⟨y, r, rfl, h1, _⟩ := h
    simp at e
    subst e
    exact ⟨y, rfl, h1⟩
  | w :: vs, xs, n + 1, v, h, e => by
    unfold RVs at h
    obtain ⟨y, r, rfl, _, h2⟩ := h
    obtain ⟨x, q, hx⟩ := RVs.get (n := n) h2 (by simpa using e)
    exact ⟨x, by simpa using q, hx⟩
theorem RVs.getR : ∀ {vs : List LV} {xs : List V} {n : Nat} {x : V}, RVs K m H vs xs → xs[n]? = some x → ∃ v, vs[n]? = some v ∧ RV K m H v x
  | [], _, _, _, h, e => by unfold RVs at h; subst h; simp at e
  | w :: vs, xs, 0, x, h, e => by
    unfold RVs at h
    obtain ⟨y, r, rfl, h1, _⟩ := h
    simp at e
    subst e
    exact ⟨w, rfl, h1⟩
  | w :: vs, xs, n + 1, x, h, e => by
    unfold RVs at h
    obtain ⟨y, r, rfl, _, h2⟩ := h
    obtain ⟨v, q, hv⟩ := RVs.getR (n := n) h2 (by simpa using e)
    exact ⟨v, by simpa using q, hv⟩
theorem RVs.append : ∀ {vs ws : List LV} {xs ys : List V}, RVs K m H vs xs → RVs K m H ws ys → RVs K m H (vs ++ ws) (xs ++ ys)
  | [], _, _, _, h, h' => by unfold RVs at h; subst h; exact h'
  | v :: vs, ws, xs, ys, h, h' => by
    unfold RVs at h
    obtain ⟨y, r, rfl, h1, h2⟩ := h
    exact RVs.cons h1 (RVs.append h2 h')
theorem RVs.drop : ∀ {vs : List LV} {xs : List V} (n : Nat), RVs K m H vs xs → RVs K m H (vs.drop n) (xs.drop n)
  | _, _, 0, h => h
  | [], _, n + 1, h => by unfold RVs at h; subst h; exact RVs.nil
  | v :: vs, xs, n + 1, h => by
    unfold RVs at h
    obtain ⟨y, r, rfl, _, h2⟩ := h
    exact RVs.drop n h2
theorem RVs.take : ∀ {vs : List LV} {xs : List V} (n : Nat), RVs K m H vs xs → RVs K m H (vs.take n) (xs.take n)
  | _, _, 0, h => RVs.nil
  | [], _, n + 1, h => by unfold RVs at h; subst h; exact RVs.nil
  | v :: vs, xs, n + 1, h => by
    unfold RVs at h
    obtain ⟨y, r, rfl, h1, h2⟩ := h
    exact RVs.cons h1 (RVs.take n h2)
theorem RVs.set : ∀ {vs : List LV} {xs : List V} (n : Nat), RVs K m H vs xs → RV K m H v x → RVs K m H (vs.set n v) (xs.set n x)
  | [], _, _, h, _ => by unfold RVs at h; subst h; exact RVs.nil
  | w :: vs, xs, 0, h, hv => by
    unfold RVs at h
    obtain ⟨y, r, rfl, _, h2⟩ := h
    exact RVs.cons hv h2
  | w :: vs, xs, n + 1, h, hv => by
    unfold RVs at h
    obtain ⟨y, r, rfl, h1, h2⟩ := h
    exact RVs.cons h1 (RVs.set n h2 hv)
theorem RO.kp (E : Kp m H m' H') {a : Addr} {o : LO} (e : H' a = H a) (h : RO K T m H a o) : RO K T m' H' a o := by
  cases o with
  | lst xs =>
    obtain ⟨vs, h1, h2⟩ := h
    exact ⟨vs, e.trans h1, h2.kp E⟩
  | dct kvs =>
    obtain ⟨vs, h1, h2, h3⟩ := h
    exact ⟨vs, e.trans h1, h2, h3.kp E⟩
  | dcT kvs =>
    obtain ⟨vs, h1, h2, h3⟩ := h
    exact ⟨vs, e.trans h1, h2, h3.kp E⟩
  | dck kvs =>
    obtain ⟨dx, ws, h1, h2, h3⟩ := h
    exact ⟨dx, ws, e.trans h1, h2, h3.kp E⟩
  | dcl kvs =>
    obtain ⟨dx, ws, h1, h2, h3⟩ := h
    exact ⟨dx, ws, e.trans h1, h2, h3.kp E⟩
  | ins c fs =>
    obtain ⟨dx, ws, h1, h2, h3⟩ := h
    exact ⟨dx, ws, e.trans h1, h2, h3.kp E⟩
theorem RO.mono (E : Ext m H m' H') {a : Addr} {o : LO} (e : H' a = H a) (h : RO K T m H a o) : RO K T m' H' a o := RO.kp E.kp e h
/-- what stands at a tracked number is no tuple -/
theorem RelS.there (r : RelS K T m S H) {a : Addr} (h : a ∈ m) : ∃ o, H a = some o ∧ (∀ xs, o ≠ .tup xs) ∧ (∀ c, o ≠ .own c) := by
  obtain ⟨n, hn⟩ := List.mem_iff_getElem?.mp h
  have hl : n < S.length := by
    rw [← r.len]
    exact (List.getElem?_eq_some_iff.mp hn).1
  have q := r.ob n a S[n] hn (List.getElem?_eq_getElem hl)
  generalize S[n] = o at q
  cases o with
  | lst xs => exact ⟨_, q.choose_spec.1, (fun _ z => nomatch z), (fun _ z => nomatch z)⟩
  | dct xs => exact ⟨_, q.choose_spec.1, (fun _ z => nomatch z), (fun _ z => nomatch z)⟩
  | dcT xs => exact ⟨_, q.choose_spec.1, (fun _ z => nomatch z), (fun _ z => nomatch z)⟩
  | dck fs =>
    obtain ⟨dx, ws, h1, _⟩ := q
    exact ⟨_, h1, (fun _ z => nomatch z), (fun _ z => nomatch z)⟩
  | dcl fs =>
    obtain ⟨dx, ws, h1, _⟩ := q
    exact ⟨_, h1, (fun _ z => nomatch z), (fun _ z => nomatch z)⟩
  | ins c fs =>
    obtain ⟨dx, ws, h1, _⟩ := q
    exact ⟨_, h1, (fun _ z => nomatch z), (fun _ z => nomatch z)⟩
def nfz : HO → Bool
  | .frz _ _ => false
  | _ => true
theorem RelS.out (r : RelS K T m S H) {a : Addr} (h : H a = none) : a ∉ m := fun z => by
  obtain ⟨o, q, _⟩ := r.there z
  rw [h] at q
  cases q
/-- a new object that has no number -/
theorem Ext.side {p : Addr} {o : HO} (hp : H p = none) : Ext m H m (upd H p o) where
  pre := ⟨[], by simp⟩
  fr := fun a u _ ha => by rw [upd_ne (ne_of_none ha hp)]; exact ha
  new := fun a h n => absurd h n
  tup := fun a vs h => by
    rw [upd_ne (ne_of_none h hp)]
    exact h
  frz := fun a b u h => by
    rw [upd_ne (ne_of_none h hp)]
    exact h
theorem RelS.side (r : RelS K T m S H) {p : Addr} {o : HO} (hp : H p = none) : RelS K T m S (upd H p o) where
  len := r.len
  nd := r.nd
  ob := fun n a u hn hu => (r.ob n a u hn hu).mono (Ext.side hp) (by
    have : a ≠ p := fun z => r.out hp (z ▸ List.mem_of_getElem? hn)
    rw [upd_ne this])
/-- a new object with a number -/
theorem Ext.alloc (r : RelS K T m S H) {p : Addr} {o : HO} (hp : H p = none) : Ext m H (m ++ [p]) (upd H p o) where
  pre := ⟨[p], rfl⟩
  fr := fun a u _ ha => by rw [upd_ne (ne_of_none ha hp)]; exact ha
  new := fun a h n => by
    rcases List.mem_append.mp h with h | h
    · exact absurd h n
    · rw [List.mem_singleton.mp h]; exact hp
  tup := fun a vs h => (Ext.side (m := m) (o := o) hp).tup a vs h
  frz := fun a b u h => (Ext.side (m := m) (o := o) hp).frz a b u h
theorem RelS.alloc (r : RelS K T m S H) {p : Addr} {o : HO} {lo : LO} (hp : H p = none) (ho : RO K T (m ++ [p]) (upd H p o) p lo) : RelS K T (m ++ [p]) (S ++ [lo]) (upd H p o) where
  len := by simp [r.len]
  nd := by
    rw [List.nodup_append]
    refine ⟨r.nd, by simp, fun a ha b hb z => ?_⟩
    rw [List.mem_singleton.mp hb] at z
    exact r.out hp (z ▸ ha)
  ob := fun n a u hn hu => by
    by_cases h : n < m.length
    · rw [List.getElem?_append_left h] at hn
      rw [List.getElem?_append_left (by rw [← r.len]; exact h)] at hu
      exact (r.ob n a u hn hu).mono (Ext.alloc r hp) (by
        have : a ≠ p := fun z => r.out hp (z ▸ List.mem_of_getElem? hn)
        rw [upd_ne this])
    · rw [List.getElem?_append_right (by omega)] at hn
      rw [List.getElem?_append_right (by rw [← r.len]; omega)] at hu
      have e : n - m.length = 0 := by
        have := (List.getElem?_eq_some_iff.mp hn).1
        simp at this
        exact this
      rw [e] at hn
      rw [← r.len, e] at hu
      simp at hn hu
      subst hn hu
      exact ho
theorem Ext.write (r : RelS K T m S H) {a : Addr} {o o0 : HO} (ha : a ∈ m) (h0 : H a = some o0) (nf : nfz o0 = true := by rfl) : Ext m H m (upd H a o) where
  pre := ⟨[], by simp⟩
  fr := fun b u n hb => by
    have : b ≠ a := fun z => n (by rw [z]; exact ha)
    rw [upd_ne this]; exact hb
  new := fun b h n => absurd h n
  tup := fun b vs h => by
    obtain ⟨q, hq, n1, _⟩ := r.there ha
    have : b ≠ a := fun z => by
      subst z
      rw [hq] at h
      exact n1 _ (Option.some.inj h)
    rw [upd_ne this]
    exact h
  frz := fun b c u h => by
    have : b ≠ a := fun z => by
      subst z
      rw [h0] at h
      cases h
      cases nf
    rw [upd_ne this]
    exact h
theorem RelS.write (r : RelS K T m S H) {n : Nat} {a : Addr} {o o0 : HO} {lo : LO} (hn : m[n]? = some a) (h0 : H a = some o0) (ho : RO K T m (upd H a o) a lo) (nf : nfz o0 = true := by rfl) : RelS K T m (S.set n lo) (upd H a o) where
  len := by rw [List.length_set, r.len]
  nd := r.nd
  ob := fun k b u hk hu => by
    by_cases e : k = n
    · subst e
      rw [hn] at hk
      cases hk
      have hl : k < S.length := by
        rw [← r.len]
        exact (List.getElem?_eq_some_iff.mp hn).1
      rw [List.getElem?_set_self hl] at hu
      cases hu
      exact ho
    · rw [List.getElem?_set_ne (Ne.symm e)] at hu
      have hb : b ≠ a := fun z => by
        subst z
        obtain ⟨l1, e1⟩ := List.getElem?_eq_some_iff.mp hk
        obtain ⟨l2, e2⟩ := List.getElem?_eq_some_iff.mp hn
        exact e ((List.getElem_inj r.nd).mp (e1.trans e2.symm))
      exact (r.ob k b u hk hu).mono (Ext.write r (List.mem_of_getElem? hn) h0 nf) (upd_ne hb)
theorem RelS.at (r : RelS K T m S H) {n : Nat} {a : Addr} {o : LO} (hn : m[n]? = some a) (hs : S[n]? = some o) : RO K T m H a o := r.ob n a o hn hs
theorem RelS.nil : RelS K T [] [] H := ⟨rfl, List.nodup_nil, fun n a o h => by simp at h⟩
end

/-! ### slots -/
/-- what an exception's name may hold -/
abbrev Xi := Addr → Nat → List LV → Prop
def RVx (K : PySem.W.Frag) (ξ : Xi) (m : List Addr) (H : Hp) : LV → V → Prop
  | .exc c fs, x => ∃ a, x = .ref a ∧ ξ a c fs
  | v, x => RV K m H v x
structure RSl (K : PySem.W.Frag) (ξ : Xi) (m : List Addr) (H : Hp) (ds : Sl) (σ : L2.St) : Prop where
  len : ds.length = σ.length
  at_ : ∀ (i : Nat) (v : LV), ds[i]? = some (some v) → ∃ x, σ[i]? = some (some x) ∧ RVx K ξ m H v x
def isX : LV → Bool
  | .exc _ _ => true
  | _ => false
section
variable {K : PySem.W.Frag} {T : Env1} {ξ : Xi} {m m' m1 m2 : List Addr} {H H' H1 H2 : Hp} {S S' S1 : Sto} {v : LV} {x : V} {ds : Sl} {σ : L2.St}
theorem RVx.of (h : RV K m H v x) : RVx K ξ m H v x := by
  cases v with
  | exc c fs => exact h.elim
  | _ => exact h
theorem RVx.un (h : RVx K ξ m H v x) (n : isX v = false) : RV K m H v x := by
  cases v with
  | exc c fs => cases n
  | _ => exact h
theorem RVx.mono (E : Ext m H m' H') (h : RVx K ξ m H v x) : RVx K ξ m' H' v x := by
  cases v with
  | exc c fs => exact h
  | _ => exact RV.mono E h
theorem RSl.mono (E : Ext m H m' H') (h : RSl K ξ m H ds σ) : RSl K ξ m' H' ds σ := ⟨h.len, fun i v e =>
  let ⟨x, q, r⟩ := h.at_ i v e
  ⟨x, q, r.mono E⟩⟩
theorem RSl.set (h : RSl K ξ m H ds σ) (i : Nat) (r : RVx K ξ m H v x) : RSl K ξ m H (ds.set i (some v)) (σ.set i (some x)) where
  len := by simp [h.len]
  at_ := fun j w e => by
    by_cases hj : j = i
    · subst hj
      by_cases hl : j < ds.length
      · rw [List.getElem?_set_self hl] at e
        cases e
        exact ⟨x, by rw [List.getElem?_set_self (by rw [← h.len]; exact hl)], r⟩
      · rw [List.getElem?_eq_none (by simpa using hl)] at e
        cases e
    · rw [List.getElem?_set_ne (Ne.symm hj)] at e ⊢
      exact h.at_ j w e
theorem RSl.start {vs : List LV} {xs : List V} {N : List Str} (h : RVs K m H vs xs) : RSl K ξ m H (vs.map some ++ List.replicate (N.length - vs.length) none) (L2.start N xs) where
  len := by simp [L2.start, h.len]
  at_ := fun i w e => by
    unfold L2.start
    by_cases hi : i < vs.length
    · rw [List.getElem?_append_left (by simpa using hi), List.getElem?_map] at e
      cases q : vs[i]? with
      | none => rw [q] at e; cases e
      | some u =>
        rw [q] at e
        cases e
        obtain ⟨y, hy, r⟩ := h.get q
        refine ⟨y, ?_, RVx.of r⟩
        rw [List.getElem?_append_left (by rw [List.length_map, ← h.len]; exact hi), List.getElem?_map, hy] <;> rfl
    · rw [List.getElem?_append_right (by simpa using hi), List.getElem?_replicate] at e
      split at e <;> cases e
end

/-! ### what is wanted -/
/-- an exception as the readings have it: its class by its code, its own dict -/
def RX (K : PySem.W.Frag) (T : Env1) (m : List Addr) (H : Hp) (c : Nat) (fs : List LV) (cls : Value) (d : Option Addr) : Prop :=
  cls = .ref (T.ca c) ∧ ((fs = [] ∧ d = none) ∨ ∃ v x dd, fs = [v] ∧ d = some dd ∧ dd ∉ m ∧ H dd = some (.xd [(("currency" : Str), x)]) ∧ RV K m H v x)
def PoE (K : PySem.W.Frag) (T : Env1) (m : List Addr) (H : Hp) (r : R) (Q : VK) (W : XK) : Prop :=
  match r with
  | .ok v S => ∀ m' H' x, Ext m H m' H' → RelS K T m' S H' → RV K m' H' v x → Q x H'
  | .ex c fs S => ∀ m' H' cls d, Ext m H m' H' → RelS K T m' S H' → RX K T m' H' c fs cls d → W cls d H'
  | .no => False
def PoA (K : PySem.W.Frag) (T : Env1) (m : List Addr) (H : Hp) (r : RL) (Q : List V → Hp → Prop) (W : XK) : Prop :=
  match r with
  | .ok vs S => ∀ m' H' xs, Ext m H m' H' → RelS K T m' S H' → RVs K m' H' vs xs → Q xs H'
  | .ex c fs S => ∀ m' H' cls d, Ext m H m' H' → RelS K T m' S H' → RX K T m' H' c fs cls d → W cls d H'
  | .no => False
def PoS (K : PySem.W.Frag) (T : Env1) (ξ : Xi) (m : List Addr) (H : Hp) (r : RS) (D : Ends) (W : WX) : Prop :=
  match r with
  | .nx ds S => ∀ m' H' σ', Ext m H m' H' → RelS K T m' S H' → RSl K ξ m' H' ds σ' → D.nx σ' H'
  | .rt v S => ∀ m' H' x, Ext m H m' H' → RelS K T m' S H' → RV K m' H' v x → D.rt x H'
  | .bk ds S => ∀ m' H' σ', Ext m H m' H' → RelS K T m' S H' → RSl K ξ m' H' ds σ' → D.bk σ' H'
  | .ct ds S => ∀ m' H' σ', Ext m H m' H' → RelS K T m' S H' → RSl K ξ m' H' ds σ' → D.ct σ' H'
  | .ex c fs ds S => ∀ m' H' σ' cls d, Ext m H m' H' → RelS K T m' S H' → RSl K ξ m' H' ds σ' → RX K T m' H' c fs cls d → W cls d σ' H'
  | .no => False
def tL (K : PySem.W.Frag) (T : Env1) (ξ : Xi) (W : WX) (f : LE) : TE := fun σ H Q => ∃ m S ds, RelS K T m S H ∧ RSl K ξ m H ds σ ∧ PoE K T m H (f ds S) Q (fun cls d H' => W cls d σ H')
def tLA (K : PySem.W.Frag) (T : Env1) (ξ : Xi) (W : WX) (f : LA) : TA := fun σ H Q => ∃ m S ds, RelS K T m S H ∧ RSl K ξ m H ds σ ∧ PoA K T m H (f ds S) Q (fun cls d H' => W cls d σ H')
def tLS (K : PySem.W.Frag) (T : Env1) (ξ : Xi) (W : WX) (f : LS) : TS := fun D σ H => ∃ m S ds, RelS K T m S H ∧ RSl K ξ m H ds σ ∧ PoS K T ξ m H (f ds S) D W
/-- a def's promise -/
def spL (K : PySem.W.Frag) (T : Env1) (n : Nat) (g : Fn) : Sp := fun vs H Q E => ∃ m S xs, RelS K T m S H ∧ RVs K m H xs vs ∧ xs.length = n ∧ PoE K T m H (g xs S) Q E

section
variable {K : PySem.W.Frag} {T : Env1} {ξ : Xi} {m m' m1 m2 : List Addr} {H H' H1 H2 : Hp} {S S' S1 : Sto} {v : LV} {x : V} {ds : Sl} {σ : L2.St} {Q : VK} {W : XK} {WS : WX}
theorem PoE.mono {r : R} (E : Ext m H m1 H1) (h : PoE K T m H r Q W) : PoE K T m1 H1 r Q W := by
  cases r with
  | ok v S => exact fun m' H' x E' => h m' H' x (E.trans E')
  | ex c fs S => exact fun m' H' cls d E' => h m' H' cls d (E.trans E')
  | no => exact h
theorem PoA.mono {r : RL} {Q : List V → Hp → Prop} (E : Ext m H m1 H1) (h : PoA K T m H r Q W) : PoA K T m1 H1 r Q W := by
  cases r with
  | ok v S => exact fun m' H' x E' => h m' H' x (E.trans E')
  | ex c fs S => exact fun m' H' cls d E' => h m' H' cls d (E.trans E')
  | no => exact h
theorem PoS.mono {r : RS} {D : Ends} (E : Ext m H m1 H1) (h : PoS K T ξ m H r D WS) : PoS K T ξ m1 H1 r D WS := by
  cases r with
  | nx ds S => exact fun m' H' x E' => h m' H' x (E.trans E')
  | rt ds S => exact fun m' H' x E' => h m' H' x (E.trans E')
  | bk ds S => exact fun m' H' x E' => h m' H' x (E.trans E')
  | ct ds S => exact fun m' H' x E' => h m' H' x (E.trans E')
  | ex c fs ds S => exact fun m' H' σ' cls d E' => h m' H' σ' cls d (E.trans E')
  | no => exact h
/-- a value here and now -/
theorem PoE.here (h : PoE K T m H (.ok v S) Q W) (r : RelS K T m S H) (rv : RV K m H v x) : Q x H := h m H x Ext.refl r rv
/-- THE BIND: what goes on with a value -/
theorem PoE.bindK {r : R} {k : LV → Sto → R} (h : PoE K T m H (r.bind k) Q W) {Q2 : VK}
    (hq : ∀ v S1 m1 H1 x, Ext m H m1 H1 → RelS K T m1 S1 H1 → RV K m1 H1 v x → PoE K T m1 H1 (k v S1) Q W → Q2 x H1) : PoE K T m H r Q2 W := by
  cases r with
  | ok v S1 => exact fun m1 H1 x E r1 rv => hq v S1 m1 H1 x E r1 rv (PoE.mono E h)
  | ex c fs S1 => exact h
  | no => exact h
theorem tL.bind {f : LE} {k : LV → Sto → R} (r : RelS K T m S H) (rs : RSl K ξ m H ds σ) (h : PoE K T m H ((f ds S).bind k) Q (fun cls d H' => WS cls d σ H')) {Q2 : VK}
    (hq : ∀ v S1 m1 H1 x, Ext m H m1 H1 → RelS K T m1 S1 H1 → RSl K ξ m1 H1 ds σ → RV K m1 H1 v x → PoE K T m1 H1 (k v S1) Q (fun cls d H' => WS cls d σ H') → Q2 x H1) : tL K T ξ WS f σ H Q2 :=
  ⟨m, S, ds, r, rs, PoE.bindK h fun v S1 m1 H1 x E r1 rv h1 => hq v S1 m1 H1 x E r1 (rs.mono E) rv h1⟩
theorem tLA.bind {f : LA} {k : List LV → Sto → R} (r : RelS K T m S H) (rs : RSl K ξ m H ds σ) (h : PoE K T m H ((f ds S).bind k) Q (fun cls d H' => WS cls d σ H')) {Q2 : List V → Hp → Prop}
    (hq : ∀ v S1 m1 H1 x, Ext m H m1 H1 → RelS K T m1 S1 H1 → RSl K ξ m1 H1 ds σ → RVs K m1 H1 v x → PoE K T m1 H1 (k v S1) Q (fun cls d H' => WS cls d σ H') → Q2 x H1) : tLA K T ξ WS f σ H Q2 := by
  refine ⟨m, S, ds, r, rs, ?_⟩
  cases e : f ds S with
  | ok v S1 =>
    rw [e] at h
    exact fun m1 H1 x E r1 rv => hq v S1 m1 H1 x E r1 (rs.mono E) rv (PoE.mono E h)
  | ex c fs S1 =>
    rw [e] at h
    exact h
  | no =>
    rw [e] at h
    exact h
end
end LL


set_option Elab.async false
set_option linter.all false
set_option maxRecDepth 100000
set_option maxHeartbeats 2000000
/-! The logical layer: expressions. -/
namespace LL
open PySem PySem.Spec PyProof.Rows L2

section
variable {X : Cx} {T : Env1} {ξ : Xi} {W : WX} {e a b c : Expr} {pos : Pos} {fa fb fc : LE}
theorem pe_imp {t t' : TE} (h : PE X e t) (i : ∀ σ H Q, t' σ H Q → t σ H Q) : PE X e t' := ⟨fun pins s σ H Q I q => h.run pins s σ H Q I (i σ H Q q)⟩
theorem pt_imp {t t' : TT} (h : PT X e t) (i : ∀ σ H Q, t' σ H Q → t σ H Q) : PT X e t' := ⟨fun pins s σ H Q I q => h.run pins s σ H Q I (i σ H Q q)⟩
theorem pw_imp {t t' : TT} (h : PW X e t) (i : ∀ σ H Q, t' σ H Q → t σ H Q) : PW X e t' := ⟨fun wh pins s σ H Q I q => h.run wh pins s σ H Q I (i σ H Q q)⟩
theorem pa_imp {es : List Expr} {t t' : TA} (h : PA X es t) (i : ∀ σ H Q, t' σ H Q → t σ H Q) : PA X es t' := ⟨fun p pins s σ H Q I q => h.run p pins s σ H Q I (i σ H Q q)⟩

/-! ### names, constants -/
def lVar (i : Nat) : LE := fun ds S => match ds[i]? with
  | some (some v) => if isX v = true then .no else .ok v S
  | _ => .no
def lC (v : LV) : LE := fun _ S => .ok v S
theorem pl_var (i : Nat) {x : Str} (hN : X.N[i]? = some x := by rfl) (hv : Vis X.env.scope x := by first | exact Or.inl rfl | exact Or.inr (Or.inl rfl) | exact Or.inr (Or.inr rfl)) (hd : (x == ("__debug__" : Str)) = false := by decide)
    (hcd : (x == ("__classdict__" : Str)) = false := by decide) : PE X (.Name x pos) (tL X.K T ξ W (lVar i)) :=
  pe_imp (pe_var hN hv hd hcd) fun σ H Q ⟨m, S, ds, r, rs, h⟩ => by
    unfold lVar at h
    split at h
    · rename_i v hi
      split at h
      · exact h.elim
      · rename_i nx
        obtain ⟨x, hx, rv⟩ := rs.at_ i v hi
        exact ⟨x, hx, h.here r (rv.un (by simpa using nx))⟩
    · exact h.elim
theorem pl_c {v : LV} {x : V} (h : PE X e (tC x)) (rv : ∀ m H, RV X.K m H v x) : PE X e (tL X.K T ξ W (lC v)) :=
  pe_imp h fun σ H Q ⟨m, S, ds, r, rs, h⟩ => h.here r (rv m H)
theorem pl_int {i : Int} {j} : PE X (.Constant (.int i) j pos) (tL X.K T ξ W (lC (.int i))) := pl_c pe_int fun _ _ => rfl
theorem pl_bl {i : Bool} {j} : PE X (.Constant (.bool i) j pos) (tL X.K T ξ W (lC (.bl i))) := pl_c pe_bl fun _ _ => rfl
theorem pl_non {j} : PE X (.Constant .none j pos) (tL X.K T ξ W (lC .non)) := pl_c pe_non fun _ _ => rfl
theorem pl_str {x : Str} {j} : PE X (.Constant (.str x) j pos) (tL X.K T ξ W (lC (.str x))) := pl_c pe_str fun _ _ => rfl
/-- a module's constant -/
theorem pl_glob {x : Str} {v : LV} {y : V} {u : Value} (hg : Gl X x) (hm : X.mg x = some u) (r : RelV y u) (rv : ∀ m H, RV X.K m H v y) (hd : (x == ("__debug__" : Str)) = false := by decide) : PE X (.Name x pos) (tL X.K T ξ W (lC v)) :=
  pl_c (pe_glob hg hm r hd) rv
/-- a built-in class as a value -/
theorem pl_ty {x : Str} {n : String} (hg : Gl X x) (hm : X.mg x = none) (hv : bootBuiltins x = some (.type n)) (hn : x ≠ "__name__" := by decide) (hd : (x == ("__debug__" : Str)) = false := by decide) : PE X (.Name x pos) (tL X.K T ξ W (lC (.ty n))) :=
  pl_c (pe_bltn (v := .ty n) hg hm hv rfl hn hd) fun _ _ => rfl

/-! ### two operands -/
abbrev Op2 := LV → LV → Sto → R
def OpL (K : PySem.W.Frag) (T : Env1) (r : R2) (o : Op2) : Prop := ∀ m S H v w x y Q W, RelS K T m S H → RV K m H v x → RV K m H w y → PoE K T m H (o v w S) Q W → r x y H Q
def lOp (o : Op2) (fa fb : LE) : LE := fun ds S => (fa ds S).bind fun v S1 => (fb ds S1).bind fun w S2 => o v w S2
theorem tOp_of {r : R2} {o : Op2} (hl : OpL X.K T r o) : ∀ σ H Q, tL X.K T ξ W (lOp o fa fb) σ H Q → tOp r (tL X.K T ξ W fa) (tL X.K T ξ W fb) σ H Q :=
  fun σ H Q ⟨m, S, ds, r0, rs, h⟩ => tL.bind r0 rs h fun v S1 m1 H1 x E r1 rs1 rv h1 => tL.bind r1 rs1 h1 fun w S2 m2 H2 y E2 r2 rs2 rw h2 => hl _ _ _ _ _ _ _ _ _ r2 (rv.mono E2) rw h2
theorem pl_bin {op : Operator} {r : R2} {o : Op2} (ho : OpR X (binaryOp op) r) (hl : OpL X.K T r o) (ha : PE X a (tL X.K T ξ W fa)) (hb : PE X b (tL X.K T ξ W fb)) : PE X (.BinOp a op b pos) (tL X.K T ξ W (lOp o fa fb)) :=
  pe_imp (pe_op ho ha hb) (tOp_of hl)
theorem pl_cmp {op : CmpOp} {r : R2} {o : Op2} (ho : OpR X (compareOp op) r) (hl : OpL X.K T r o) (ha : PE X a (tL X.K T ξ W fa)) (hb : PE X b (tL X.K T ξ W fb)) (hm : behindInMarks op b = false := by first | exact nomark _ | rfl) :
    PE X (.Compare a [op] [b] pos) (tL X.K T ξ W (lOp o fa fb)) := pe_imp (pe_cmpR ho ha hb hm) (tOp_of hl)
theorem tt_cmp {op : CmpOp} {r : R2} {o : Op2} (ho : OpR X (compareOp op) r) (hl : OpL X.K T r o) (ha : PE X a (tL X.K T ξ W fa)) (hb : PE X b (tL X.K T ξ W fb)) (hm : behindInMarks op b = false := by first | exact nomark _ | rfl) :
    PT X (.Compare a [op] [b] pos) (tTest (tL X.K T ξ W (lOp o fa fb))) := pt_imp (pt_cmpR ho ha hb hm) fun σ H Q h => tOp_of hl σ H _ h
/-- a < b < c -/
def chK (r : LV → Sto → R) : LV → Sto → R
  | .bl true, S => r (.bl true) S
  | .bl false, S => .ok (.bl false) S
  | _, _ => .no
def lChain (o o' : Op2) (fa fb fc : LE) : LE := fun ds S => (fa ds S).bind fun v S1 => (fb ds S1).bind fun w S2 => (o v w S2).bind (chK fun _ S3 => (fc ds S3).bind fun u S4 => o' w u S4)
theorem OpL.bindK {K : PySem.W.Frag} {m : List Addr} {S : Sto} {H : Hp} {r : R2} {o : Op2} (hl : OpL K T r o) {v w : LV} {x y : V} {Q : VK} {W : XK} {k : LV → Sto → R} (r0 : RelS K T m S H) (rv : RV K m H v x) (rw : RV K m H w y) (h : PoE K T m H ((o v w S).bind k) Q W) {Q2 : VK}
    (hq : ∀ v S1 m1 H1 x, Ext m H m1 H1 → RelS K T m1 S1 H1 → RV K m1 H1 v x → PoE K T m1 H1 (k v S1) Q W → Q2 x H1) : r x y H Q2 := hl _ _ _ _ _ _ _ _ _ r0 rv rw (PoE.bindK h hq)
theorem tChain_of {r r' : R2} {o o' : Op2} (hl : OpL X.K T r o) (hl' : OpL X.K T r' o') : ∀ σ H Q, tL X.K T ξ W (lChain o o' fa fb fc) σ H Q → tChain r r' (tL X.K T ξ W fa) (tL X.K T ξ W fb) (tL X.K T ξ W fc) σ H Q :=
  fun σ H Q ⟨m, S, ds, r0, rs, h⟩ => tL.bind r0 rs h fun v S1 m1 H1 x E r1 rs1 rv h1 => tL.bind r1 rs1 h1 fun w S2 m2 H2 y E2 r2 rs2 rw h2 => hl.bindK r2 (rv.mono E2) rw h2 fun z S3 m3 H3 zx E3 r3 rz h3 => by
    cases z with
    | bl k =>
      refine ⟨k, rz, ?_⟩
      cases k with
      | true =>
        show tL X.K T ξ W fc σ H3 _
        exact tL.bind r3 (rs2.mono E3) h3 fun u S4 m4 H4 ux E4 r4 rs4 ru h4 => hl' _ _ _ _ _ _ _ _ _ r4 ((rw.mono E3).mono E4) ru h4
      | false => exact h3.here r3 rfl
    | _ => exact h3.elim
theorem pl_chain {op op' : CmpOp} {r r' : R2} {o o' : Op2} (ho : OpR X (compareOp op) r) (hl : OpL X.K T r o) (ho' : OpR X (compareOp op') r') (hl' : OpL X.K T r' o') (ha : PE X a (tL X.K T ξ W fa)) (hb : PE X b (tL X.K T ξ W fb)) (hc : PE X c (tL X.K T ξ W fc))
    (hm : lastMarks [op, op'] [b, c] = false := by with_unfolding_all rfl) : PE X (.Compare a [op, op'] [b, c] pos) (tL X.K T ξ W (lChain o o' fa fb fc)) := pe_imp (pe_chain ho ho' ha hb hc hm) (tChain_of hl hl')
theorem tt_chain {op op' : CmpOp} {r r' : R2} {o o' : Op2} (ho : OpR X (compareOp op) r) (hl : OpL X.K T r o) (ho' : OpR X (compareOp op') r') (hl' : OpL X.K T r' o') (ha : PE X a (tL X.K T ξ W fa)) (hb : PE X b (tL X.K T ξ W fb)) (hc : PE X c (tL X.K T ξ W fc))
    (hm : lastMarks [op, op'] [b, c] = false := by with_unfolding_all rfl) : PT X (.Compare a [op, op'] [b, c] pos) (tTest (tL X.K T ξ W (lChain o o' fa fb fc))) := pt_imp (pt_chain ho ho' ha hb hc hm) fun σ H Q h => tChain_of hl hl' σ H _ h

/-! ### one operand -/
abbrev Op1 := LV → Sto → R
def UnL (K : PySem.W.Frag) (T : Env1) (r : V → Hp → VK → Prop) (o : Op1) : Prop := ∀ m S H v x Q W, RelS K T m S H → RV K m H v x → PoE K T m H (o v S) Q W → r x H Q
def lUn (o : Op1) (fa : LE) : LE := fun ds S => (fa ds S).bind o
theorem pl_un {op : UnaryOp} {r : V → Hp → VK → Prop} {o : Op1} (ho : UnR X (unaryOp op) r) (hl : UnL X.K T r o) (ha : PE X a (tL X.K T ξ W fa)) : PE X (.UnaryOp op a pos) (tL X.K T ξ W (lUn o fa)) :=
  pe_imp (pe_un ho ha) fun σ H Q ⟨m, S, ds, r0, rs, h⟩ => tL.bind r0 rs h fun v S1 m1 H1 x E r1 rs1 rv h1 => hl _ _ _ _ _ _ _ r1 rv h1
def negL : Op1
  | .int i, S => .ok (.int (-i)) S
  | _, _ => .no
theorem ul_neg {K : PySem.W.Frag} : UnL K T (rU fun i => .int (-i)) negL := fun m S H v x Q W r rv h => by
  cases v with
  | int i => exact ⟨i, rv, h.here r rfl⟩
  | _ => exact h.elim
theorem pl_neg (ha : PE X a (tL X.K T ξ W fa)) : PE X (.UnaryOp .USub a pos) (tL X.K T ξ W (lUn negL fa)) := pl_un un_neg ul_neg ha

/-! ### and, or, not, if -/
def andK (r : Sto → R) : LV → Sto → R
  | .bl true, S => r S
  | .bl false, S => .ok (.bl false) S
  | _, _ => .no
def orK (r : Sto → R) : LV → Sto → R
  | .bl true, S => .ok (.bl true) S
  | .bl false, S => r S
  | _, _ => .no
def notK : LV → Sto → R
  | .bl b, S => .ok (.bl !b) S
  | _, _ => .no
def iteK (r r' : Sto → R) : LV → Sto → R
  | .bl true, S => r S
  | .bl false, S => r' S
  | _, _ => .no
def lAnd (fa fb : LE) : LE := fun ds S => (fa ds S).bind (andK fun S1 => fb ds S1)
def lOr (fa fb : LE) : LE := fun ds S => (fa ds S).bind (orK fun S1 => fb ds S1)
def lNot (fa : LE) : LE := fun ds S => (fa ds S).bind notK
def lIte (fc fa fb : LE) : LE := fun ds S => (fc ds S).bind (iteK (fun S1 => fa ds S1) fun S1 => fb ds S1)
variable {rest : List Expr}
theorem pl_one {op} (h : PE X a (tL X.K T ξ W fa)) : PE X (.BoolOp op [a] pos) (tL X.K T ξ W fa) := pe_one h
theorem pl_and (ha : PE X a (tL X.K T ξ W fa)) (hb : PE X (.BoolOp .And (b :: rest) pos) (tL X.K T ξ W fb)) : PE X (.BoolOp .And (a :: b :: rest) pos) (tL X.K T ξ W (lAnd fa fb)) :=
  pe_imp (pe_and ha hb) fun σ H Q ⟨m, S, ds, r0, rs, h⟩ => tL.bind r0 rs h fun v S1 m1 H1 x E r1 rs1 rv h1 => by
    cases v with
    | bl k =>
      refine ⟨k, rv, ?_⟩
      cases k with
      | true => exact ⟨_, _, _, r1, rs1, h1⟩
      | false => exact h1.here r1 rfl
    | _ => exact h1.elim
theorem pl_or (ha : PE X a (tL X.K T ξ W fa)) (hb : PE X (.BoolOp .Or (b :: rest) pos) (tL X.K T ξ W fb)) : PE X (.BoolOp .Or (a :: b :: rest) pos) (tL X.K T ξ W (lOr fa fb)) :=
  pe_imp (pe_or ha hb) fun σ H Q ⟨m, S, ds, r0, rs, h⟩ => tL.bind r0 rs h fun v S1 m1 H1 x E r1 rs1 rv h1 => by
    cases v with
    | bl k =>
      refine ⟨k, rv, ?_⟩
      cases k with
      | true => exact h1.here r1 rfl
      | false => exact ⟨_, _, _, r1, rs1, h1⟩
    | _ => exact h1.elim
theorem pl_not (ha : PE X a (tL X.K T ξ W fa)) : PE X (.UnaryOp .Not a pos) (tL X.K T ξ W (lNot fa)) :=
  pe_imp (pe_not ha) fun σ H Q ⟨m, S, ds, r0, rs, h⟩ => tL.bind r0 rs h fun v S1 m1 H1 x E r1 rs1 rv h1 => by
    cases v with
    | bl k => exact ⟨k, rv, h1.here r1 rfl⟩
    | _ => exact h1.elim
/-- a value that is True or False, as a test -/
theorem tt_val (h : PE X e (tL X.K T ξ W fa)) (he : ∀ whole, isTrue e X.env whole = (do let v ← whole; standAt e.pos; holding [v] (truthy v)) := by intro _; rfl) : PT X e (tTest (tL X.K T ξ W fa)) := pt_val h he
theorem tw_and1 (ha : PT X a (tTest (tL X.K T ξ W fa))) : PW X (.BoolOp .And [a] pos) (tTest (tL X.K T ξ W fa)) := pw_and1 ha
theorem tw_or1 (ha : PT X a (tTest (tL X.K T ξ W fa))) : PW X (.BoolOp .Or [a] pos) (tTest (tL X.K T ξ W fa)) := pw_or1 ha
theorem tw_and (ha : PT X a (tTest (tL X.K T ξ W fa))) (hb : PW X (.BoolOp .And (b :: rest) pos) (tTest (tL X.K T ξ W fb))) : PW X (.BoolOp .And (a :: b :: rest) pos) (tTest (tL X.K T ξ W (lAnd fa fb))) :=
  pw_imp (pw_and ha hb) fun σ H Q ⟨m, S, ds, r0, rs, h⟩ => tL.bind r0 rs h fun v S1 m1 H1 x E r1 rs1 rv h1 => by
    cases v with
    | bl k =>
      refine ⟨k, rv, ?_⟩
      cases k with
      | true => exact ⟨_, _, _, r1, rs1, h1⟩
      | false =>
        obtain ⟨k, e, q⟩ := h1.here r1 rfl
        cases e
        exact q
    | _ => exact h1.elim
theorem tw_or (ha : PT X a (tTest (tL X.K T ξ W fa))) (hb : PW X (.BoolOp .Or (b :: rest) pos) (tTest (tL X.K T ξ W fb))) : PW X (.BoolOp .Or (a :: b :: rest) pos) (tTest (tL X.K T ξ W (lOr fa fb))) :=
  pw_imp (pw_or ha hb) fun σ H Q ⟨m, S, ds, r0, rs, h⟩ => tL.bind r0 rs h fun v S1 m1 H1 x E r1 rs1 rv h1 => by
    cases v with
    | bl k =>
      refine ⟨k, rv, ?_⟩
      cases k with
      | true =>
        obtain ⟨k, e, q⟩ := h1.here r1 rfl
        cases e
        exact q
      | false => exact ⟨_, _, _, r1, rs1, h1⟩
    | _ => exact h1.elim
theorem tt_w (h : PW X e (tTest (tL X.K T ξ W fa))) : PT X e (tTest (tL X.K T ξ W fa)) := h.pt
theorem tt_not (ha : PT X a (tTest (tL X.K T ξ W fa))) : PT X (.UnaryOp .Not a pos) (tTest (tL X.K T ξ W (lNot fa))) :=
  pt_imp (pt_not ha) fun σ H Q ⟨m, S, ds, r0, rs, h⟩ => tL.bind r0 rs h fun v S1 m1 H1 x E r1 rs1 rv h1 => by
    cases v with
    | bl k =>
      obtain ⟨k', e, q⟩ := h1.here r1 rfl
      cases e
      exact ⟨k, rv, q⟩
    | _ => exact h1.elim
theorem pl_ite (hc : PT X c (tTest (tL X.K T ξ W fc))) (ha : PE X a (tL X.K T ξ W fa)) (hb : PE X b (tL X.K T ξ W fb)) : PE X (.IfExp c a b pos) (tL X.K T ξ W (lIte fc fa fb)) :=
  pe_imp (pe_ifExp hc ha hb) fun σ H Q ⟨m, S, ds, r0, rs, h⟩ => tL.bind r0 rs h fun v S1 m1 H1 x E r1 rs1 rv h1 => by
    cases v with
    | bl k =>
      refine ⟨k, rv, ?_⟩
      cases k with
      | true => exact ⟨_, _, _, r1, rs1, h1⟩
      | false => exact ⟨_, _, _, r1, rs1, h1⟩
    | _ => exact h1.elim

/-! ### arguments -/
def lNil : LA := fun _ S => .ok [] S
def consK (v : LV) : RL → RL
  | .ok vs S => .ok (v :: vs) S
  | .ex c fs S => .ex c fs S
  | .no => .no
def lCons (fa : LE) (fr : LA) : LA := fun ds S => match fa ds S with
  | .ok v S1 => consK v (fr ds S1)
  | .ex c fs S1 => .ex c fs S1
  | .no => .no
theorem pl_nil : PA X [] (tLA X.K T ξ W lNil) := pa_imp pa_nil fun σ H Q ⟨m, S, ds, r0, rs, h⟩ => h m H [] Ext.refl r0 RVs.nil
theorem pl_cons {es : List Expr} {fr : LA} (ha : PE X e (tL X.K T ξ W fa)) (hr : PA X es (tLA X.K T ξ W fr)) (hs : starEach (e :: es) X.env = (false, eval e X.env) :: starEach es X.env := by rfl) : PA X (e :: es) (tLA X.K T ξ W (lCons fa fr)) :=
  pa_imp (pa_cons ha hr hs) fun σ H Q ⟨m, S, ds, r0, rs, h⟩ => by
    refine ⟨m, S, ds, r0, rs, ?_⟩
    unfold lCons at h
    cases e : fa ds S with
    | ok v S1 =>
      rw [e] at h
      intro m1 H1 x E r1 rv
      refine ⟨m1, S1, ds, r1, rs.mono E, ?_⟩
      have h1 := PoA.mono E h
      cases e2 : fr ds S1 with
      | ok vs S2 =>
        simp only [e2, consK] at h1
        exact fun m2 H2 xs E2 r2 rv2 => h1 m2 H2 _ E2 r2 (RVs.cons (rv.mono E2) rv2)
      | ex c fs S2 =>
        simp only [e2, consK] at h1
        exact h1
      | no =>
        simp only [e2, consK] at h1
        exact h1
    | ex c fs S1 =>
      rw [e] at h
      exact h
    | no =>
      rw [e] at h
      exact h

/-! ### tuples, lists -/
def small (n : Nat) : Bool := decide (n ≤ 16777216)
theorem small_ok {n : Nat} (h : small n = true) : n ≤ sizeLine := by
  rw [sizeLine_eq]
  exact of_decide_eq_true h
def mkTup (vs : List LV) (S : Sto) : R := if small vs.length = true then .ok (.tup vs) S else .no
/-- a new list: with a number (t), or one that nobody changes -/
def newL (t : Bool) (vs : List LV) (S : Sto) : R := if t = true then .ok (.ref S.length) (S ++ [.lst vs]) else .ok (.lst vs) S
def mkLst (t : Bool) (vs : List LV) (S : Sto) : R := if small vs.length = true then newL t vs S else .no
def lTup (fa : LA) : LE := fun ds S => (fa ds S).bind mkTup
def lLst (fa : LA) : LE := fun ds S => (fa ds S).bind (mkLst false)
def lLsT (fa : LA) : LE := fun ds S => (fa ds S).bind (mkLst true)
/-- a new tuple; a new list -/
theorem fin_tup {K : PySem.W.Frag} {m : List Addr} {S : Sto} {H : Hp} {vs : List LV} {xs : List V} {Q : VK} {W : XK} (r : RelS K T m S H) (rv : RVs K m H vs xs) (h : PoE K T m H (.ok (.tup vs) S) Q W) : ∀ p, H p = none → Q (.ref p) (upd H p (.tup xs)) := fun p hp => by
  have E : Ext m H m (upd H p (.tup xs)) := Ext.side hp
  refine h m _ _ E (r.side hp) ?_
  unfold RV
  exact ⟨p, xs, rfl, upd_same, rv.mono E⟩
theorem fin_lst {K : PySem.W.Frag} {m : List Addr} {S : Sto} {H : Hp} {vs : List LV} {xs : List V} {Q : VK} {W : XK} (r : RelS K T m S H) (rv : RVs K m H vs xs) (h : PoE K T m H (.ok (.ref S.length) (S ++ [.lst vs])) Q W) : ∀ p, H p = none → Q (.ref p) (upd H p (.lst xs)) := fun p hp => by
  have E : Ext m H (m ++ [p]) (upd H p (.lst xs)) := Ext.alloc r hp
  refine h _ _ _ E (r.alloc hp ⟨xs, upd_same, rv.mono E⟩) ?_
  unfold RV
  exact ⟨p, rfl, by rw [← r.len, List.getElem?_append_right (Nat.le_refl _), Nat.sub_self] <;> rfl⟩
theorem fin_frz {K : PySem.W.Frag} {m : List Addr} {S : Sto} {H : Hp} {vs : List LV} {xs : List V} {Q : VK} {W : XK} (r : RelS K T m S H) (rv : RVs K m H vs xs) (h : PoE K T m H (.ok (.lst vs) S) Q W) : ∀ p, H p = none → Q (.ref p) (upd H p (.lst xs)) := fun p hp => by
  have E : Ext m H m (upd H p (.lst xs)) := Ext.side hp
  refine h m _ _ E (r.side hp) ?_
  unfold RV
  exact ⟨p, xs, rfl, r.out hp, upd_same, rv.mono E⟩
theorem fin_new {K : PySem.W.Frag} {m : List Addr} {S : Sto} {H : Hp} {t : Bool} {vs : List LV} {xs : List V} {Q : VK} {W : XK} (r : RelS K T m S H) (rv : RVs K m H vs xs) (h : PoE K T m H (newL t vs S) Q W) : ∀ p, H p = none → Q (.ref p) (upd H p (.lst xs)) := by
  cases t with
  | true => exact fin_lst r rv h
  | false => exact fin_frz r rv h
theorem pl_tup {es : List Expr} {fr : LA} {x1} (ha : PA X es (tLA X.K T ξ W fr)) : PE X (.Tuple es x1 pos) (tL X.K T ξ W (lTup fr)) :=
  pe_imp (pe_tup ha) fun σ H Q ⟨m, S, ds, r0, rs, h⟩ => tLA.bind r0 rs h fun vs S1 m1 H1 xs E r1 rs1 rv h1 => by
    unfold mkTup at h1
    split at h1
    · rename_i hz
      exact ⟨by rw [← rv.len]; exact small_ok hz, fin_tup r1 rv h1⟩
    · exact h1.elim
theorem lst_read {es : List Expr} {fr : LA} {t : Bool} (ha : PA X es (tLA X.K T ξ W fr)) : PE X (.List es pos) (tL X.K T ξ W (fun ds S => (fr ds S).bind (mkLst t))) :=
  pe_imp (pe_lst ha) fun σ H Q ⟨m, S, ds, r0, rs, h⟩ => tLA.bind r0 rs h fun vs S1 m1 H1 xs E r1 rs1 rv h1 => by
    unfold mkLst at h1
    split at h1
    · rename_i hz
      exact ⟨by rw [← rv.len]; exact small_ok hz, fin_new r1 rv h1⟩
    · exact h1.elim
theorem pl_lst {es : List Expr} {fr : LA} (ha : PA X es (tLA X.K T ξ W fr)) : PE X (.List es pos) (tL X.K T ξ W (lLst fr)) := lst_read ha
theorem pl_lsT {es : List Expr} {fr : LA} (ha : PA X es (tLA X.K T ξ W fr)) : PE X (.List es pos) (tL X.K T ξ W (lLsT fr)) := lst_read ha
end
end LL


set_option Elab.async false
set_option linter.all false
set_option maxRecDepth 100000
set_option maxHeartbeats 2000000
/-! The logical layer: what the operators do. -/
namespace LL
open PySem PySem.Spec PyProof.Rows L2

/-! ### numbers -/
def bigB : Int := 10 ^ 70
def okMul (i j : Int) : Bool := (decide (-(2 ^ 64) < i) && decide (i < 2 ^ 64)) || (decide (-(2 ^ 64) < j) && decide (j < 2 ^ 64)) || (decide (-bigB ≤ i) && decide (i ≤ bigB) && decide (-bigB ≤ j) && decide (j ≤ bigB))
def okDiv (j : Int) : Bool := decide (0 < j) && decide (j ≤ bigB)
def okPow (i j : Int) : Bool := decide (0 ≤ j) && decide (j ≤ 1000000) && decide (i.natAbs < 2 ^ 64)
theorem bigB_lt {i : Int} (h : -bigB ≤ i) (h2 : i ≤ bigB) : i.natAbs < 2 ^ 240 := by
  unfold bigB at h h2
  have e : ((10 : Int) ^ 70).natAbs < 2 ^ 240 := by decide
  have : i.natAbs ≤ ((10 : Int) ^ 70).natAbs := by omega
  omega
section
variable {K : PySem.W.Frag} {T : Env1}
/-- what a list holds -/
def lsO (v : LV) (S : Sto) : Option (List LV) := match v with
  | .lst xs => some xs
  | .ref n => match S[n]? with
    | some (.lst xs) => some xs
    | _ => none
  | _ => none
def addG (t : Bool) (v w : LV) (S : Sto) : R := match v, w with
  | .int i, .int j => .ok (.int (i + j)) S
  | .str a, .str b => if small (a.length + b.length) = true then .ok (.str (a ++ b)) S else .no
  | .tup xs, .tup ys => if small (xs.length + ys.length) = true then .ok (.tup (xs ++ ys)) S else .no
  | v, w => match lsO v S, lsO w S with
    | some xs, some ys => if small (xs.length + ys.length) = true then newL t (xs ++ ys) S else .no
    | _, _ => .no
abbrev addL : Op2 := addG false
abbrev addT : Op2 := addG true
def rAddU (K : PySem.W.Frag) : R2 := fun x y H Q => (rI0 (fun i j => .int (i + j)) x y H Q ∨ (∃ i j, x = .str i ∧ y = .str j ∧ i.length + j.length ≤ sizeLine ∧ Q (.str (i ++ j)) H)) ∨ (rCatA K x y H Q ∨ rCat x y H Q)
theorem op_addU {X : Cx} : OpR X (binaryOp .Add) (rAddU X.K) := OpR.or (OpR.or op_add op_add_str) (OpR.or op_catA op_cat)
theorem RV.lst {m : List Addr} {S : Sto} {H : Hp} {n : Nat} {x : V} {xs : List LV} (r : RelS K T m S H) (rv : RV K m H (.ref n) x) (e : S[n]? = some (.lst xs)) : ∃ a vs, x = .ref a ∧ m[n]? = some a ∧ H a = some (.lst vs) ∧ RVs K m H xs vs := by
  unfold RV at rv
  obtain ⟨a, ex, hn⟩ := rv
  obtain ⟨vs, h1, h2⟩ := r.at hn e
  exact ⟨a, vs, ex, hn, h1, h2⟩
theorem RV.lstE {m : List Addr} {H : Hp} {x : V} {xs : List LV} (rv : RV K m H (.lst xs) x) : ∃ a vs, x = .ref a ∧ a ∉ m ∧ H a = some (.lst vs) ∧ RVs K m H xs vs := by
  unfold RV at rv
  exact rv
theorem lsO_ok {m : List Addr} {S : Sto} {H : Hp} {v : LV} {x : V} {xs : List LV} (r : RelS K T m S H) (rv : RV K m H v x) (e : lsO v S = some xs) : ∃ a vs, x = .ref a ∧ H a = some (.lst vs) ∧ RVs K m H xs vs := by
  unfold lsO at e
  split at e
  · cases e
    obtain ⟨a, vs, e, _, h, hs⟩ := rv.lstE
    exact ⟨a, vs, e, h, hs⟩
  · split at e
    · rename_i hn
      cases e
      obtain ⟨a, vs, e, _, h, hs⟩ := rv.lst r hn
      exact ⟨a, vs, e, h, hs⟩
    · cases e
  · cases e
theorem RV.tupE {m : List Addr} {H : Hp} {x : V} {xs : List LV} (rv : RV K m H (.tup xs) x) : ∃ a vs, x = .ref a ∧ H a = some (.tup vs) ∧ RVs K m H xs vs := by
  unfold RV at rv
  exact rv
theorem RVs.nilE {m : List Addr} {H : Hp} {vs : List V} (h : RVs K m H [] vs) : vs = [] := by
  unfold RVs at h
  exact h
theorem RVs.isNil {m : List Addr} {H : Hp} {xs : List LV} {vs : List V} (h : RVs K m H xs vs) : vs = [] ↔ xs = [] := by
  have e := h.len
  constructor
  · intro z; rw [z] at e; exact List.eq_nil_of_length_eq_zero e
  · intro z; rw [z] at e; exact List.eq_nil_of_length_eq_zero e.symm
theorem ol_add {t : Bool} : OpL K T (rAddU K) (addG t) := fun m S H v w x y Q W r rv rw h => by
  unfold addG at h
  split at h
  · exact .inl (.inl ⟨_, _, rv, rw, h.here r rfl⟩)
  · split at h
    · rename_i hz
      exact .inl (.inr ⟨_, _, rv, rw, small_ok hz, h.here r rfl⟩)
    · exact h.elim
  · split at h
    · rename_i xs ys hz
      obtain ⟨a, vs, rfl, ha, hs⟩ := rv.tupE
      obtain ⟨b, ws, rfl, hb, ht⟩ := rw.tupE
      refine .inr (.inl ⟨a, b, vs, ws, rfl, rfl, SqT.of ha, SqT.of hb, by rw [← hs.len, ← ht.len]; exact small_ok hz, fun e => ?_, fun _ e => ?_, fun _ _ => fin_tup r (hs.append ht) h⟩)
      · have : xs = [] := hs.isNil.mp e
        subst this
        exact h.here r (by unfold RV; exact ⟨b, ws, rfl, hb, ht⟩)
      · have : ys = [] := ht.isNil.mp e
        subst this
        exact h.here r (by unfold RV; exact ⟨a, vs, rfl, ha, by rw [List.append_nil]; exact hs⟩)
    · exact h.elim
  · split at h
    · rename_i xs ys e1 e2
      split at h
      · rename_i hz
        obtain ⟨a, vs, rfl, ha, hs⟩ := lsO_ok r rv e1
        obtain ⟨b, ws, rfl, hb, ht⟩ := lsO_ok r rw e2
        exact .inr (.inr ⟨a, b, vs, ws, rfl, rfl, ha, hb, by rw [← hs.len, ← ht.len]; exact small_ok hz, fin_new r (hs.append ht) h⟩)
      · exact h.elim
    · exact h.elim
def subL : Op2
  | .int i, .int j, S => .ok (.int (i - j)) S
  | _, _, _ => .no
theorem ol_sub : OpL K T (rI0 fun i j => .int (i - j)) subL := fun m S H v w x y Q W r rv rw h => by
  unfold subL at h
  split at h
  · exact ⟨_, _, rv, rw, h.here r rfl⟩
  · exact h.elim
def okRep (n : Nat) (k : Int) : Bool := decide (-1000 ≤ k) && decide (k ≤ 100000) && decide (n * k.toNat ≤ 100000)
def mulG (t : Bool) (v w : LV) (S : Sto) : R := match v, w with
  | .int i, .int j => if okMul i j = true then .ok (.int (i * j)) S else .no
  | .str a, .int k => if okRep a.length k = true then .ok (.str (Txt.mul a k)) S else .no
  | v, .int k => match lsO v S with
    | some xs => if okRep xs.length k = true then newL t (List.replicate k.toNat xs).flatten S else .no
    | none => .no
  | _, _ => .no
abbrev mulL : Op2 := mulG false
abbrev mulT : Op2 := mulG true
def rMulU : R2 := fun x y H Q => (rI CMul (fun i j => .int (i * j)) x y H Q ∨ rI CMulW (fun i j => .int (i * j)) x y H Q) ∨ ((∃ a k, x = .str a ∧ y = .int k ∧ MulOk a k ∧ Q (.str (Txt.mul a k)) H) ∨ rRep x y H Q)
theorem op_mul_str {X : Cx} : OpR X (binaryOp .Mult) (fun x y H Q => ∃ a k, x = .str a ∧ y = .int k ∧ MulOk a k ∧ Q (.str (Txt.mul a k)) H) := by
  intro pins s σ H x y v u Q I rx ry h
  obtain ⟨a, k, rfl, rfl, hk, q⟩ := h
  obtain ⟨t, rfl⟩ := rx
  obtain ⟨t', rfl⟩ := ry
  exact SB.mul hk fun t2 k2 => ⟨.str _, H, I.tok _, ⟨_, rfl⟩, q⟩
theorem op_mulU {X : Cx} : OpR X (binaryOp .Mult) rMulU := OpR.or (OpR.or op_mul op_mulW) (OpR.or op_mul_str op_rep)
theorem mulOk_of {a : Str} {k : Int} (h : okRep a.length k = true) : MulOk a k := by
  simp only [okRep, Bool.and_eq_true, decide_eq_true_eq] at h
  obtain ⟨⟨h1, h2⟩, h3⟩ := h
  refine ⟨by rw [Bool.or_eq_false_iff]; exact ⟨decide_eq_false (by omega), decide_eq_false (by omega)⟩, fun h4 h5 => ?_, fun h4 h5 => ?_⟩
  · have hk : 0 < k := by omega
    have e : k = (k.toNat : Int) := by omega
    have hl : (a.length : Int) * k ≤ 100000 := by
      rw [e]
      have h7 : ((a.length * k.toNat : Nat) : Int) ≤ 100000 := Int.ofNat_le.mpr h3
      rw [Int.natCast_mul] at h7
      exact h7
    intro hgt
    have : (2 ^ 63 - 1 : Int) / k < a.length := hgt
    have h6 := Int.lt_mul_of_ediv_lt hk this
    omega
  · unfold Builtin.Str.tooLong
    refine decide_eq_false ?_
    rw [sizeLine_eq]
    omega
theorem ol_mul {t : Bool} : OpL K T rMulU (mulG t) := fun m S H v w x y Q W r rv rw h => by
  unfold mulG at h
  split at h
  · rename_i i j
    split at h
    · rename_i hz
      have q := h.here r (x := .int (i * j)) rfl
      simp only [okMul, Bool.or_eq_true, Bool.and_eq_true, decide_eq_true_eq] at hz
      rcases hz with (hz | hz) | hz
      · exact .inl (.inl ⟨i, j, rv, rw, .inl hz, q⟩)
      · exact .inl (.inl ⟨i, j, rv, rw, .inr hz, q⟩)
      · obtain ⟨⟨⟨a1, a2⟩, a3⟩, a4⟩ := hz
        exact .inl (.inr ⟨i, j, rv, rw, wide_mul (bigB_lt a1 a2) (bigB_lt a3 a4) (by decide) (by decide) (by decide), q⟩)
    · exact h.elim
  · split at h
    · rename_i hz
      exact .inr (.inl ⟨_, _, rv, rw, mulOk_of hz, h.here r rfl⟩)
    · exact h.elim
  · rename_i k _ _
    split at h
    · rename_i xs e1
      split at h
      · rename_i hz
        simp only [okRep, Bool.and_eq_true, decide_eq_true_eq] at hz
        obtain ⟨⟨h1, h2⟩, h3⟩ := hz
        obtain ⟨a, vs, rfl, ha, hs⟩ := lsO_ok r rv e1
        refine .inr (.inr ⟨a, k, vs, rfl, rw, ha, by omega, by omega, by rw [← hs.len, sizeLine_eq]; omega, ?_⟩)
        refine fin_new r ?_ h
        generalize k.toNat = j
        induction j with
        | zero => exact RVs.nil
        | succ j ih =>
          rw [List.replicate_succ, List.replicate_succ, List.flatten_cons, List.flatten_cons]
          exact hs.append ih
      · exact h.elim
    · exact h.elim
  · exact h.elim
def divL : Op2
  | .int i, .int j, S => if okDiv j = true then .ok (.int (i / j)) S else .no
  | _, _, _ => .no
theorem ol_div : OpL K T (rI CDivW fun i j => .int (i / j)) divL := fun m S H v w x y Q W r rv rw h => by
  unfold divL at h
  split at h
  · split at h
    · rename_i hz
      simp only [okDiv, Bool.and_eq_true, decide_eq_true_eq] at hz
      exact ⟨_, _, rv, rw, wide_div hz.1 (bigB_lt (by unfold bigB; omega) hz.2) (by decide) (by decide), h.here r rfl⟩
    · exact h.elim
  · exact h.elim
def modL : Op2
  | .int i, .int j, S => if 0 < j then .ok (.int (i % j)) S else .no
  | _, _, _ => .no
theorem ol_mod : OpL K T (rI (fun _ j => 0 < j) fun i j => .int (i % j)) modL := fun m S H v w x y Q W r rv rw h => by
  unfold modL at h
  split at h
  · split at h
    · rename_i hz
      exact ⟨_, _, rv, rw, hz, h.here r rfl⟩
    · exact h.elim
  · exact h.elim
def powL : Op2
  | .int i, .int j, S => if okPow i j = true then .ok (.int (i ^ j.toNat)) S else .no
  | _, _, _ => .no
theorem ol_pow : OpL K T (rI CPow fun i j => .int (i ^ j.toNat)) powL := fun m S H v w x y Q W r rv rw h => by
  unfold powL at h
  split at h
  · split at h
    · rename_i hz
      simp only [okPow, Bool.and_eq_true, decide_eq_true_eq] at hz
      exact ⟨_, _, rv, rw, ⟨hz.1.1, hz.1.2, hz.2⟩, h.here r rfl⟩
    · exact h.elim
  · exact h.elim

/-! ### order -/
def sLt (a b : Str) : Bool := decide (a.cps.toList < b.cps.toList)
def ltL : Op2
  | .int i, .int j, S => .ok (.bl (decide (i < j))) S
  | .str a, .str b, S => .ok (.bl (sLt a b)) S
  | _, _, _ => .no
def leL : Op2
  | .int i, .int j, S => .ok (.bl (decide (i ≤ j))) S
  | .str a, .str b, S => .ok (.bl (!sLt b a)) S
  | _, _, _ => .no
def gtL : Op2
  | .int i, .int j, S => .ok (.bl (decide (j < i))) S
  | .str a, .str b, S => .ok (.bl (sLt b a)) S
  | _, _, _ => .no
def geL : Op2
  | .int i, .int j, S => .ok (.bl (decide (j ≤ i))) S
  | .str a, .str b, S => .ok (.bl (!sLt a b)) S
  | _, _, _ => .no
def rLtU : R2 := fun x y H Q => rI0 (fun i j => .bl (decide (i < j))) x y H Q ∨ ∃ i j, x = .str i ∧ y = .str j ∧ Q (.bl (decide (i.cps.toList < j.cps.toList))) H
def rLeU : R2 := fun x y H Q => rI0 (fun i j => .bl (decide (i ≤ j))) x y H Q ∨ ∃ i j, x = .str i ∧ y = .str j ∧ Q (.bl (!decide (j.cps.toList < i.cps.toList))) H
def rGtU : R2 := fun x y H Q => rI0 (fun i j => .bl (decide (j < i))) x y H Q ∨ ∃ i j, x = .str i ∧ y = .str j ∧ Q (.bl (decide (j.cps.toList < i.cps.toList))) H
def rGeU : R2 := fun x y H Q => rI0 (fun i j => .bl (decide (j ≤ i))) x y H Q ∨ ∃ i j, x = .str i ∧ y = .str j ∧ Q (.bl (!decide (i.cps.toList < j.cps.toList))) H
theorem op_ltU {X : Cx} : OpR X (compareOp .Lt) rLtU := OpR.or op_lt op_lt_str
theorem op_leU {X : Cx} : OpR X (compareOp .LtE) rLeU := OpR.or op_le op_le_str
theorem op_gtU {X : Cx} : OpR X (compareOp .Gt) rGtU := OpR.or op_gt op_gt_str
theorem op_geU {X : Cx} : OpR X (compareOp .GtE) rGeU := OpR.or op_ge op_ge_str
theorem ol_lt : OpL K T rLtU ltL := fun m S H v w x y Q W r rv rw h => by
  unfold ltL at h
  split at h
  · exact .inl ⟨_, _, rv, rw, h.here r rfl⟩
  · exact .inr ⟨_, _, rv, rw, h.here r rfl⟩
  · exact h.elim
theorem ol_le : OpL K T rLeU leL := fun m S H v w x y Q W r rv rw h => by
  unfold leL at h
  split at h
  · exact .inl ⟨_, _, rv, rw, h.here r rfl⟩
  · exact .inr ⟨_, _, rv, rw, h.here r rfl⟩
  · exact h.elim
theorem ol_gt : OpL K T rGtU gtL := fun m S H v w x y Q W r rv rw h => by
  unfold gtL at h
  split at h
  · exact .inl ⟨_, _, rv, rw, h.here r rfl⟩
  · exact .inr ⟨_, _, rv, rw, h.here r rfl⟩
  · exact h.elim
theorem ol_ge : OpL K T rGeU geL := fun m S H v w x y Q W r rv rw h => by
  unfold geL at h
  split at h
  · exact .inl ⟨_, _, rv, rw, h.here r rfl⟩
  · exact .inr ⟨_, _, rv, rw, h.here r rfl⟩
  · exact h.elim

/-! ### == -/
def seqO {α : Type} : List (Option α) → Option (List α)
  | [] => some []
  | none :: _ => none
  | some a :: r => match seqO r with
    | some l => some (a :: l)
    | none => none
/-- a value as data -/
def dat (S : Sto) : Nat → LV → Option PyData
  | _, .non => some .none
  | _, .bl b => some (.bool b)
  | _, .int i => some (.int i)
  | _, .str s => some (.str s)
  | f + 1, .tup xs => match seqO (xs.map (dat S f)) with
    | some ds => some (.tuple ds)
    | none => none
  | _ + 1, .scr ns => some (.list (ns.map .int))
  | f + 1, .lst xs => match seqO (xs.map (dat S f)) with
    | some ds => some (.list ds)
    | none => none
  | f + 1, .ref n => match S[n]? with
    | some (.lst xs) => match seqO (xs.map (dat S f)) with
      | some ds => some (.list ds)
      | none => none
    | _ => none
  | _, _ => none
def eqS : LV → LV → Option Bool
  | .int i, .int j => some (decide (i = j))
  | .str i, .str j => some (decide (i = j))
  | .bl i, .bl j => some (decide (i = j))
  | .non, .non => some true
  | .non, .int _ => some false | .int _, .non => some false | .non, .bl _ => some false | .bl _, .non => some false | .non, .str _ => some false | .str _, .non => some false
  | .int _, .str _ => some false | .str _, .int _ => some false | .bl _, .str _ => some false | .str _, .bl _ => some false
  | _, _ => none
def eqV2 (v w : LV) (S : Sto) : Option Bool := match eqS v w with
  | some b => some b
  | none => match dat S 60 v, dat S 60 w with
    | some d, some e => if (SeqAt.shaped d && SeqAt.shaped e) = true then some (PyData.eqv d e) else none
    | _, _ => none
def eqL : Op2 := fun v w S => match eqV2 v w S with
  | some b => .ok (.bl b) S
  | none => .no
def neL : Op2 := fun v w S => match eqV2 v w S with
  | some b => .ok (.bl !b) S
  | none => .no
theorem Dp.intsAll {H : Hp} : ∀ ns : List Int, DpAll K H (ns.map V.int) (ns.map PyData.int)
  | [] => .nil
  | n :: ns => .cons (.int n) (Dp.intsAll ns)
theorem dp_all {m : List Addr} {S : Sto} {H : Hp} {f : Nat} (ih : ∀ v d x, dat S f v = some d → RV K m H v x → Dp K H x d) : ∀ (vs : List LV) (ds : List PyData) (xs : List V), seqO (vs.map (dat S f)) = some ds → RVs K m H vs xs → DpAll K H xs ds
  | [], ds, xs, e, h => by
    cases e
    rw [h.nilE]
    exact .nil
  | v :: vs, ds, xs, e, h => by
    unfold RVs at h
    obtain ⟨x, r, rfl, h1, h2⟩ := h
    rw [List.map_cons] at e
    cases q : dat S f v with
    | none => rw [q] at e; cases e
    | some d =>
      rw [q] at e
      unfold seqO at e
      split at e
      · rename_i l hl
        cases e
        exact .cons (ih v d x q h1) (dp_all ih vs l r hl h2)
      · cases e
theorem dat_dp {m : List Addr} {S : Sto} {H : Hp} (r : RelS K T m S H) : ∀ (f : Nat) (v : LV) (d : PyData) (x : V), dat S f v = some d → RV K m H v x → Dp K H x d := by
  intro f
  induction f with
  | zero =>
    intro v d x e rv
    cases v with
    | non => cases e; cases (show x = .non from rv); exact .non
    | bl b => cases e; cases (show x = .bl b from rv); exact .bl b
    | int i => cases e; cases (show x = .int i from rv); exact .int i
    | str i => cases e; cases (show x = .str i from rv); exact .str i
    | _ => cases e
  | succ f ih =>
    intro v d x e rv
    cases v with
    | non => cases e; cases (show x = .non from rv); exact .non
    | bl b => cases e; cases (show x = .bl b from rv); exact .bl b
    | int i => cases e; cases (show x = .int i from rv); exact .int i
    | str i => cases e; cases (show x = .str i from rv); exact .str i
    | tup xs =>
      unfold dat at e
      split at e
      · rename_i ds hds
        cases e
        obtain ⟨a, vs, rfl, ht, hs⟩ := rv.tupE
        exact .tup (SqT.of ht) (dp_all ih xs ds vs hds hs)
      · cases e
    | scr ns =>
      cases e
      unfold RV at rv
      obtain ⟨a, rfl, h1⟩ := rv
      exact .lst (scr_sq h1) (Dp.intsAll ns)
    | lst xs =>
      unfold dat at e
      split at e
      · rename_i ds hds
        cases e
        obtain ⟨a, vs, rfl, _, ht, hs⟩ := rv.lstE
        exact .lst (SqL.of ht) (dp_all ih xs ds vs hds hs)
      · cases e
    | ref n =>
      unfold dat at e
      split at e
      · rename_i xs hn
        split at e
        · rename_i ds hds
          cases e
          obtain ⟨a, vs, rfl, _, ha, hs⟩ := rv.lst r hn
          exact .lst (SqL.of ha) (dp_all ih xs ds vs hds hs)
        · cases e
      · cases e
    | _ => cases e
theorem eqS_ok {m : List Addr} {H : Hp} {v w : LV} {x y : V} {b : Bool} (e : eqS v w = some b) (rv : RV K m H v x) (rw : RV K m H w y) : scal x y = true ∧ decide (x = y) = b := by
  unfold eqS at e
  split at e <;> first
    | (cases e
       unfold RV at rv rw
       subst rv rw
       exact ⟨rfl, by simp⟩)
    | cases e
def rEqU (K : PySem.W.Frag) : R2 := fun x y H Q => rEq x y H Q ∨ rEqD K x y H Q
def rNeU (K : PySem.W.Frag) : R2 := fun x y H Q => rNe x y H Q ∨ rNeD K x y H Q
theorem op_eqU {X : Cx} (hu : X.A.units + 64 < cLine) : OpR X (compareOp .Eq) (rEqU X.K) := OpR.or op_eq (op_eqD hu)
theorem op_neU {X : Cx} (hu : X.A.units + 64 < cLine) : OpR X (compareOp .NotEq) (rNeU X.K) := OpR.or op_ne (op_neD hu)
theorem ol_eq : OpL K T (rEqU K) eqL := fun m S H v w x y Q W r rv rw h => by
  unfold eqL at h
  split at h
  · rename_i b hb
    have q := h.here r (x := .bl b) rfl
    unfold eqV2 at hb
    split at hb
    · rename_i b' hs
      cases hb
      obtain ⟨h1, h2⟩ := eqS_ok hs rv rw
      exact .inl ⟨h1, by rw [h2]; exact q⟩
    · split at hb
      · rename_i d e hd he
        split at hb
        · rename_i hz
          cases hb
          rw [Bool.and_eq_true] at hz
          exact .inr ⟨d, e, dat_dp r 60 v d x hd rv, dat_dp r 60 w e y he rw, hz.1, hz.2, q⟩
        · cases hb
      · cases hb
  · exact h.elim
theorem ol_ne : OpL K T (rNeU K) neL := fun m S H v w x y Q W r rv rw h => by
  unfold neL at h
  split at h
  · rename_i b hb
    have q := h.here r (x := .bl !b) rfl
    unfold eqV2 at hb
    split at hb
    · rename_i b' hs
      cases hb
      obtain ⟨h1, h2⟩ := eqS_ok hs rv rw
      exact .inl ⟨h1, by rw [h2]; exact q⟩
    · split at hb
      · rename_i d e hd he
        split at hb
        · rename_i hz
          cases hb
          rw [Bool.and_eq_true] at hz
          exact .inr ⟨d, e, dat_dp r 60 v d x hd rv, dat_dp r 60 w e y he rw, hz.1, hz.2, q⟩
        · cases hb
      · cases hb
  · exact h.elim

/-! ### is, in -/
def isN : LV → Bool
  | .non => true
  | _ => false
theorem isN_ok {m : List Addr} {H : Hp} {v : LV} {x : V} (rv : RV K m H v x) : decide (x = V.non) = isN v := by
  cases v with
  | non => cases (show x = .non from rv); rfl
  | bl b => cases (show x = .bl b from rv); rfl
  | int b => cases (show x = .int b from rv); rfl
  | str b => cases (show x = .str b from rv); rfl
  | ty b => cases (show x = .ty b from rv); rfl
  | cls b => cases (show x = .ref b from rv); rfl
  | tup xs => obtain ⟨a, vs, rfl, _⟩ := rv.tupE; rfl
  | ktp xs => unfold RV at rv; obtain ⟨a, vs, rfl, _⟩ := rv; rfl
  | ref n => unfold RV at rv; obtain ⟨a, rfl, _⟩ := rv; rfl
  | scr n => unfold RV at rv; obtain ⟨a, rfl, _⟩ := rv; rfl
  | exc c fs => exact rv.elim
  | lst xs => obtain ⟨a, vs, rfl, _⟩ := rv.lstE; rfl
def isL : Op2
  | v, .non, S => .ok (.bl (isN v)) S
  | .bl a, .bl b, S => .ok (.bl (decide (a = b))) S
  | _, _, _ => .no
def isnotL : Op2
  | v, .non, S => .ok (.bl (!isN v)) S
  | .bl a, .bl b, S => .ok (.bl (!decide (a = b))) S
  | _, _, _ => .no
def rIsN1 : R2 := fun x y H Q => y = .non ∧ Q (.bl (decide (x = .non))) H
def rNotN1 : R2 := fun x y H Q => y = .non ∧ Q (.bl (!decide (x = .non))) H
def rIsU : R2 := fun x y H Q => rIsN1 x y H Q ∨ rIsB x y H Q
def rIsnU : R2 := fun x y H Q => rNotN1 x y H Q ∨ rNotB x y H Q
theorem op_isU {X : Cx} : OpR X (compareOp .Is) rIsU := OpR.or op_isN op_isBl
theorem op_isnU {X : Cx} : OpR X (compareOp .IsNot) rIsnU := OpR.or op_notN op_notBl
theorem ol_is : OpL K T rIsU isL := fun m S H v w x y Q W r rv rw h => by
  unfold isL at h
  split at h
  · exact .inl ⟨rw, by rw [isN_ok rv]; exact h.here r rfl⟩
  · exact .inr ⟨_, _, rv, rw, h.here r rfl⟩
  · exact h.elim
theorem ol_isn : OpL K T rIsnU isnotL := fun m S H v w x y Q W r rv rw h => by
  unfold isnotL at h
  split at h
  · exact .inl ⟨rw, by rw [isN_ok rv]; exact h.here r rfl⟩
  · exact .inr ⟨_, _, rv, rw, h.here r rfl⟩
  · exact h.elim
def flatL : LV → Bool
  | .non => true | .bl _ => true | .int _ => true | .str _ => true
  | _ => false
def fv : LV → V
  | .bl b => .bl b | .int i => .int i | .str s => .str s
  | _ => .non
theorem fv_ok {m : List Addr} {H : Hp} {v : LV} {x : V} (f : flatL v = true) (rv : RV K m H v x) : x = fv v ∧ flatV x = true := by
  cases v with
  | non => cases (show x = .non from rv); exact ⟨rfl, rfl⟩
  | bl b => cases (show x = .bl b from rv); exact ⟨rfl, rfl⟩
  | int b => cases (show x = .int b from rv); exact ⟨rfl, rfl⟩
  | str b => cases (show x = .str b from rv); exact ⟨rfl, rfl⟩
  | _ => cases f
theorem fvs_ok {m : List Addr} {H : Hp} : ∀ {vs : List LV} {xs : List V}, vs.all flatL = true → RVs K m H vs xs → xs = vs.map fv ∧ xs.all flatV = true
  | [], xs, _, h => by rw [h.nilE]; exact ⟨rfl, rfl⟩
  | v :: vs, xs, f, h => by
    unfold RVs at h
    obtain ⟨x, r, rfl, h1, h2⟩ := h
    rw [List.all_cons, Bool.and_eq_true] at f
    obtain ⟨e1, q1⟩ := fv_ok f.1 h1
    obtain ⟨e2, q2⟩ := fvs_ok f.2 h2
    exact ⟨by rw [List.map_cons, e1, e2], by rw [List.all_cons, q1, q2]; rfl⟩
/-- the key that a value is -/
def keyL : LV → Option Key
  | .int i => some (.inl i)
  | .str s => some (.inr s)
  | _ => none
def keysL (vs : List LV) : Option (List Key) := seqO (vs.map keyL)
theorem keyL_ok {m : List Addr} {H : Hp} {v : LV} {x : V} {k : Key} (e : keyL v = some k) (rv : RV K m H v x) : x = kV k := by
  cases v with
  | int i => cases e; exact rv
  | str i => cases e; exact rv
  | _ => cases e
theorem keysL_ok {m : List Addr} {H : Hp} : ∀ {vs : List LV} {xs : List V} {ks : List Key}, keysL vs = some ks → RVs K m H vs xs → xs = ks.map kV
  | [], xs, ks, e, h => by
    cases e
    rw [h.nilE]
    rfl
  | v :: vs, xs, ks, e, h => by
    unfold RVs at h
    obtain ⟨x, r, rfl, h1, h2⟩ := h
    unfold keysL at e
    rw [List.map_cons] at e
    cases q : keyL v with
    | none => rw [q] at e; cases e
    | some k =>
      rw [q] at e
      unfold seqO at e
      split at e
      · rename_i l hl
        cases e
        rw [List.map_cons, keyL_ok q h1, keysL_ok (ks := l) hl h2]
      · cases e
/-- what a dict of values tells of a key -/
def getK {κ : Type} [DecidableEq κ] (kvs : List (κ × LV)) (k : κ) : Option LV := (kvs.find? fun kv => decide (kv.1 = k)).map (·.2)
theorem getK_rel {κ : Type} [DecidableEq κ] {m : List Addr} {H : Hp} : ∀ {kvs : List (κ × LV)} {ws : List (κ × V)} (k : κ), ws.map (·.1) = kvs.map (·.1) → RVs K m H (kvs.map (·.2)) (ws.map (·.2)) →
    (getK kvs k = none ∧ valV ws k = none) ∨ ∃ v x, getK kvs k = some v ∧ valV ws k = some x ∧ RV K m H v x
  | [], ws, k, e, h => by
    have : ws = [] := by simpa using e
    subst this
    exact .inl ⟨rfl, rfl⟩
  | (k1, v) :: kvs, [], k, e, h => by simp at e
  | (k1, v) :: kvs, (k2, x) :: ws, k, e, h => by
    simp only [List.map_cons, List.cons.injEq] at e
    obtain ⟨e1, e2⟩ := e
    subst e1
    simp only [List.map_cons] at h
    unfold RVs at h
    obtain ⟨y, r, q, h1, h2⟩ := h
    simp only [List.cons.injEq] at q
    obtain ⟨rfl, rfl⟩ := q
    by_cases c : k2 = k
    · refine .inr ⟨v, x, ?_, valV_pos c, h1⟩
      unfold getK
      rw [List.find?_cons_of_pos (by simpa using c)]
      rfl
    · rw [valV_neg c]
      have : getK ((k2, v) :: kvs) k = getK kvs k := by
        unfold getK
        rw [List.find?_cons_of_neg (by simpa using c)]
      rw [this]
      exact getK_rel k e2 h2
/-- whether a key is in a dict -/
def dKs : LO → Option (List (Key × LV))
  | .dct kvs => some kvs
  | .dck kvs => some kvs
  | _ => none
def dTs : LO → Option (List (List Key × LV))
  | .dcT kvs => some kvs
  | .dcl kvs => some kvs
  | _ => none
/-- what a dict tells of a key -/
def getOv (v : LV) (S : Sto) (n : Nat) : Option (Option LV) := match S[n]? with
  | some o => match dKs o with
    | some kvs => (keyL v).map fun k => getK kvs k
    | none => match dTs o with
      | some kvs => match v with
        | .tup xs => (keysL xs).map fun k => getK kvs k
        | _ => none
      | none => none
  | none => none
def inD (v : LV) (S : Sto) (n : Nat) : Option Bool := match S[n]? with
  | some (.lst xs) => if (flatL v && xs.all flatL) = true then some (inV (fv v) (xs.map fv)) else none
  | _ => (getOv v S n).map (·.isSome)
def inT (a z : Str) : Bool := if a.cps.size = 1 then decide (a.cps.getD 0 0 ∈ z.cps.toList) else !(Builtin.Str.occurrences z a 0 z.length 1).isEmpty
def inO (v w : LV) (S : Sto) : Option Bool := match w with
  | .str z => match v with
    | .str a => some (inT a z)
    | _ => none
  | .tup xs => if (flatL v && xs.all flatL) = true then some (inV (fv v) (xs.map fv)) else none
  | .ktp xs => if (flatL v && xs.all flatL) = true then some (inV (fv v) (xs.map fv)) else none
  | .scr ns => if flatL v = true then some (inV (fv v) (ns.map V.int)) else none
  | .lst xs => if (flatL v && xs.all flatL) = true then some (inV (fv v) (xs.map fv)) else none
  | .ref n => inD v S n
  | _ => none
def inL : Op2 := fun v w S => match inO v w S with
  | some b => .ok (.bl b) S
  | none => .no
def notinL : Op2 := fun v w S => match inO v w S with
  | some b => .ok (.bl !b) S
  | none => .no
def rInD2 (neg : Bool) : R2 := fun x y H Q => ∃ a ov, y = .ref a ∧ DGet H a x ov ∧ Q (.bl (if neg then !ov.isSome else ov.isSome)) H
theorem op_inD2 {X : Cx} (hu : X.A.units + 64 < cLine) : OpR X (compareOp .In) (rInD2 false) := by
  intro pins s σ H x y v u Q I rx ry h
  obtain ⟨a, ov, rfl, g, q⟩ := h
  obtain rfl : u = Value.ref a := ry
  exact d_in (Nat.lt_of_le_of_lt (Nat.add_le_add_left (by decide : 1 ≤ 64) _) hu) I g rx fun s3 I3 => ⟨.bl ov.isSome, H, I3, rfl, q⟩
theorem op_notinD2 {X : Cx} (hu : X.A.units + 64 < cLine) : OpR X (compareOp .NotIn) (rInD2 true) := by
  intro pins s σ H x y v u Q I rx ry h
  obtain ⟨a, ov, rfl, g, q⟩ := h
  obtain rfl : u = Value.ref a := ry
  exact d_notIn (Nat.lt_of_le_of_lt (Nat.add_le_add_left (by decide : 1 ≤ 64) _) hu) I g rx fun s3 I3 => ⟨.bl (!ov.isSome), H, I3, rfl, q⟩
def rInU (K : PySem.W.Frag) : R2 := fun x y H Q => ((∃ (c : Nat) (z : Str), x = .str ⟨#[c]⟩ ∧ y = .str z ∧ Q (.bl (decide (c ∈ z.cps.toList))) H) ∨ ∃ i j, x = .str i ∧ y = .str j ∧ Q (.bl (!(Builtin.Str.occurrences j i 0 j.length 1).isEmpty)) H) ∨ (rIn K false x y H Q ∨ rInD2 false x y H Q)
def rNinU (K : PySem.W.Frag) : R2 := fun x y H Q => ((∃ (c : Nat) (z : Str), x = .str ⟨#[c]⟩ ∧ y = .str z ∧ Q (.bl (!decide (c ∈ z.cps.toList))) H) ∨ ∃ i j, x = .str i ∧ y = .str j ∧ Q (.bl (!(!(Builtin.Str.occurrences j i 0 j.length 1).isEmpty))) H) ∨ (rIn K true x y H Q ∨ rInD2 true x y H Q)
theorem op_inU {X : Cx} (hr : X.A.units + 64 < cLine) : OpR X (compareOp .In) (rInU X.K) := OpR.or (OpR.or op_in_sign op_in_str) (OpR.or op_in_seq (op_inD2 hr))
theorem op_ninU {X : Cx} (hr : X.A.units + 64 < cLine) : OpR X (compareOp .NotIn) (rNinU X.K) := OpR.or (OpR.or op_notIn_sign op_notIn_str) (OpR.or op_notIn_seq (op_notinD2 hr))
theorem getOv_ok {m : List Addr} {S : Sto} {H : Hp} {v : LV} {x y : V} {n : Nat} {o : Option LV} (r : RelS K T m S H) (e : getOv v S n = some o) (rv : RV K m H v x) (rw : RV K m H (.ref n) y) :
    ∃ a ov, y = .ref a ∧ DGet H a x ov ∧ ((o = none ∧ ov = none) ∨ ∃ u z, o = some u ∧ ov = some z ∧ RV K m H u z) := by
  unfold getOv at e
  split at e
  · rename_i ob hn
    unfold RV at rw
    obtain ⟨a, rfl, hm⟩ := rw
    have q := r.at hm hn
    split at e
    · rename_i kvs hk
      have hw : ∃ ws, Rd H a (.dK ws) ∧ ws.map (·.1) = kvs.map (·.1) ∧ RVs K m H (kvs.map (·.2)) (ws.map (·.2)) := by
        cases ob with
        | dct kvs' => cases hk; obtain ⟨ws, h1, h2⟩ := q; exact ⟨ws, .inl h1, h2⟩
        | dck kvs' => cases hk; obtain ⟨od, ws, h1, h2⟩ := q; exact ⟨ws, .inr ⟨od, h1⟩, h2⟩
        | _ => cases hk
      obtain ⟨ws, h1, h2, h3⟩ := hw
      cases qk : keyL v with
      | none => rw [qk] at e; cases e
      | some k =>
        rw [qk] at e
        cases e
        have ex := keyL_ok qk rv
        subst ex
        exact ⟨a, valV ws k, rfl, .inl ⟨ws, k, h1, rfl, rfl⟩, getK_rel k h2 h3⟩
    · split at e
      · rename_i kvs hk
        have hw : ∃ ws, Rd H a (.dT ws) ∧ ws.map (·.1) = kvs.map (·.1) ∧ RVs K m H (kvs.map (·.2)) (ws.map (·.2)) := by
          cases ob with
          | dcT kvs' => cases hk; obtain ⟨ws, h1, h2⟩ := q; exact ⟨ws, .inl h1, h2⟩
          | dcl kvs' => cases hk; obtain ⟨od, ws, h1, h2⟩ := q; exact ⟨ws, .inr ⟨od, h1⟩, h2⟩
          | _ => cases hk
        obtain ⟨ws, h1, h2, h3⟩ := hw
        split at e
        · rename_i xs
          cases qk : keysL xs with
          | none => rw [qk] at e; cases e
          | some k =>
            rw [qk] at e
            cases e
            obtain ⟨c, vs, rfl, ht, hs⟩ := rv.tupE
            have ex := keysL_ok qk hs
            subst ex
            exact ⟨a, valV ws k, rfl, .inr ⟨ws, k, c, h1, rfl, ht, rfl⟩, getK_rel k h2 h3⟩
        · cases e
      · cases e
  · cases e
/-- what the rules ask -/
theorem inO_ok {m : List Addr} {S : Sto} {H : Hp} {v w : LV} {x y : V} {b : Bool} (r : RelS K T m S H) (e : inO v w S = some b) (rv : RV K m H v x) (rw : RV K m H w y) :
    ((∃ (c : Nat) (z : Str), x = .str ⟨#[c]⟩ ∧ y = .str z ∧ decide (c ∈ z.cps.toList) = b) ∨ ∃ i j, x = .str i ∧ y = .str j ∧ (!(Builtin.Str.occurrences j i 0 j.length 1).isEmpty) = b) ∨
    ((∃ p xs, y = .ref p ∧ (SqL K H p xs ∨ SqT K H p xs) ∧ flatV x = true ∧ xs.all flatV = true ∧ inV x xs = b) ∨ ∃ a ov, y = .ref a ∧ DGet H a x ov ∧ ov.isSome = b) := by
  unfold inO at e
  split at e
  · rename_i z
    split at e
    · rename_i a
      cases e
      unfold inT
      split
      · rename_i hc
        refine .inl (.inl ⟨a.cps.getD 0 0, z, ?_, rw, rfl⟩)
        have hx : x = .str a := rv
        rw [hx]
        congr 1
        obtain ⟨l⟩ := a
        obtain ⟨l⟩ := l
        match l, hc with
        | [c], _ => rfl
      · exact .inl (.inr ⟨a, z, rv, rw, rfl⟩)
    · cases e
  · split at e
    · rename_i hz
      cases e
      rw [Bool.and_eq_true] at hz
      obtain ⟨a, vs, rfl, ht, hs⟩ := rw.tupE
      obtain ⟨e1, q1⟩ := fv_ok hz.1 rv
      obtain ⟨e2, q2⟩ := fvs_ok hz.2 hs
      exact .inr (.inl ⟨a, vs, rfl, .inr (SqT.of ht), q1, q2, by rw [e1, e2]⟩)
    · cases e
  · split at e
    · rename_i hz
      cases e
      rw [Bool.and_eq_true] at hz
      unfold RV at rw
      obtain ⟨a, vs, rfl, ht, hs⟩ := rw
      obtain ⟨e1, q1⟩ := fv_ok hz.1 rv
      obtain ⟨e2, q2⟩ := fvs_ok hz.2 hs
      exact .inr (.inl ⟨a, vs, rfl, .inr (ht _), q1, q2, by rw [e1, e2]⟩)
    · cases e
  · split at e
    · rename_i ns hz
      cases e
      unfold RV at rw
      obtain ⟨a, rfl, h1⟩ := rw
      obtain ⟨e1, q1⟩ := fv_ok hz rv
      refine .inr (.inl ⟨a, _, rfl, .inl (scr_sq h1), q1, ?_, by rw [e1]⟩)
      rw [List.all_map]
      exact List.all_eq_true.mpr fun _ _ => rfl
    · cases e
  · split at e
    · rename_i hz
      cases e
      rw [Bool.and_eq_true] at hz
      obtain ⟨a, vs, rfl, _, ha, hs⟩ := rw.lstE
      obtain ⟨e1, q1⟩ := fv_ok hz.1 rv
      obtain ⟨e2, q2⟩ := fvs_ok hz.2 hs
      exact .inr (.inl ⟨a, vs, rfl, .inl (SqL.of ha), q1, q2, by rw [e1, e2]⟩)
    · cases e
  · rename_i n
    unfold inD at e
    split at e
    · rename_i xs hn
      split at e
      · rename_i hz
        cases e
        rw [Bool.and_eq_true] at hz
        obtain ⟨a, vs, rfl, _, ha, hs⟩ := rw.lst r hn
        obtain ⟨e1, q1⟩ := fv_ok hz.1 rv
        obtain ⟨e2, q2⟩ := fvs_ok hz.2 hs
        exact .inr (.inl ⟨a, vs, rfl, .inl (SqL.of ha), q1, q2, by rw [e1, e2]⟩)
      · cases e
    · cases g : getOv v S n with
      | none => rw [g] at e; cases e
      | some o =>
        rw [g] at e
        cases e
        obtain ⟨a, ov, ey, hd, ho⟩ := getOv_ok r g rv rw
        refine .inr (.inr ⟨a, ov, ey, hd, ?_⟩)
        rcases ho with ⟨rfl, rfl⟩ | ⟨u, z, rfl, rfl, _⟩ <;> rfl
  · cases e
end
end LL
namespace LL
open PySem PySem.Spec PyProof.Rows L2
section
variable {K : PySem.W.Frag} {T : Env1}
theorem ol_in : OpL K T (rInU K) inL := fun m S H v w x y Q W r rv rw h => by
  unfold inL at h
  split at h
  · rename_i b hb
    have q := h.here r (x := .bl b) rfl
    rcases inO_ok r hb rv rw with (⟨c, z, e1, e2, e3⟩ | ⟨i, j, e1, e2, e3⟩) | (⟨p, xs, e1, e2, e3, e4, e5⟩ | ⟨a, ov, e1, e2, e3⟩)
    · exact .inl (.inl ⟨c, z, e1, e2, by rw [e3]; exact q⟩)
    · exact .inl (.inr ⟨i, j, e1, e2, by rw [e3]; exact q⟩)
    · exact .inr (.inl ⟨p, xs, e1, e2, e3, e4, by rw [e5]; exact q⟩)
    · exact .inr (.inr ⟨a, ov, e1, e2, by rw [e3]; exact q⟩)
  · exact h.elim
theorem ol_nin : OpL K T (rNinU K) notinL := fun m S H v w x y Q W r rv rw h => by
  unfold notinL at h
  split at h
  · rename_i b hb
    have q := h.here r (x := .bl !b) rfl
    rcases inO_ok r hb rv rw with (⟨c, z, e1, e2, e3⟩ | ⟨i, j, e1, e2, e3⟩) | (⟨p, xs, e1, e2, e3, e4, e5⟩ | ⟨a, ov, e1, e2, e3⟩)
    · exact .inl (.inl ⟨c, z, e1, e2, by rw [e3]; exact q⟩)
    · exact .inl (.inr ⟨i, j, e1, e2, by rw [e3]; exact q⟩)
    · exact .inr (.inl ⟨p, xs, e1, e2, e3, e4, by rw [e5]; exact q⟩)
    · exact .inr (.inr ⟨a, ov, e1, e2, by rw [e3]; exact q⟩)
  · exact h.elim
end

/-! ### the operators as the text has them -/
section
variable {X : Cx} {T : Env1} {ξ : Xi} {W : WX} {a b : Expr} {pos : Pos} {fa fb : LE}
theorem pl_add (ha : PE X a (tL X.K T ξ W fa)) (hb : PE X b (tL X.K T ξ W fb)) : PE X (.BinOp a .Add b pos) (tL X.K T ξ W (lOp addL fa fb)) := pl_bin op_addU ol_add ha hb
theorem pl_sub (ha : PE X a (tL X.K T ξ W fa)) (hb : PE X b (tL X.K T ξ W fb)) : PE X (.BinOp a .Sub b pos) (tL X.K T ξ W (lOp subL fa fb)) := pl_bin op_sub ol_sub ha hb
theorem pl_addT (ha : PE X a (tL X.K T ξ W fa)) (hb : PE X b (tL X.K T ξ W fb)) : PE X (.BinOp a .Add b pos) (tL X.K T ξ W (lOp addT fa fb)) := pl_bin op_addU ol_add ha hb
theorem pl_mulTT (ha : PE X a (tL X.K T ξ W fa)) (hb : PE X b (tL X.K T ξ W fb)) : PE X (.BinOp a .Mult b pos) (tL X.K T ξ W (lOp mulT fa fb)) := pl_bin op_mulU ol_mul ha hb
theorem pl_mul (ha : PE X a (tL X.K T ξ W fa)) (hb : PE X b (tL X.K T ξ W fb)) : PE X (.BinOp a .Mult b pos) (tL X.K T ξ W (lOp mulL fa fb)) := pl_bin op_mulU ol_mul ha hb
theorem pl_fdiv (ha : PE X a (tL X.K T ξ W fa)) (hb : PE X b (tL X.K T ξ W fb)) : PE X (.BinOp a .FloorDiv b pos) (tL X.K T ξ W (lOp divL fa fb)) := pl_bin op_fdivW ol_div ha hb
theorem pl_mod (ha : PE X a (tL X.K T ξ W fa)) (hb : PE X b (tL X.K T ξ W fb)) : PE X (.BinOp a .Mod b pos) (tL X.K T ξ W (lOp modL fa fb)) := pl_bin op_mod ol_mod ha hb
theorem pl_pow (ha : PE X a (tL X.K T ξ W fa)) (hb : PE X b (tL X.K T ξ W fb)) : PE X (.BinOp a .Pow b pos) (tL X.K T ξ W (lOp powL fa fb)) := pl_bin op_pow ol_pow ha hb
/-- a comparison's rule, its answer's rule -/
structure CmL (X : Cx) (T : Env1) (op : CmpOp) (r : R2) (o : Op2) : Prop where
  op : OpR X (compareOp op) r
  ol : OpL X.K T r o
variable {k : Nat}
theorem c_lt : CmL X T .Lt rLtU ltL := ⟨op_ltU, ol_lt⟩
theorem c_le : CmL X T .LtE rLeU leL := ⟨op_leU, ol_le⟩
theorem c_gt : CmL X T .Gt rGtU gtL := ⟨op_gtU, ol_gt⟩
theorem c_ge : CmL X T .GtE rGeU geL := ⟨op_geU, ol_ge⟩
theorem c_eq (hr : X.A.units + 64 < cLine) : CmL X T .Eq (rEqU X.K) eqL := ⟨op_eqU hr, ol_eq⟩
theorem c_ne (hr : X.A.units + 64 < cLine) : CmL X T .NotEq (rNeU X.K) neL := ⟨op_neU hr, ol_ne⟩
theorem c_is : CmL X T .Is rIsU isL := ⟨op_isU, ol_is⟩
theorem c_isn : CmL X T .IsNot rIsnU isnotL := ⟨op_isnU, ol_isn⟩
theorem c_in (hr : X.A.units + 64 < cLine) : CmL X T .In (rInU X.K) inL := ⟨op_inU hr, ol_in⟩
theorem c_nin (hr : X.A.units + 64 < cLine) : CmL X T .NotIn (rNinU X.K) notinL := ⟨op_ninU hr, ol_nin⟩
variable {op op' : CmpOp} {r r' : R2} {o o' : Op2} {c : Expr} {fc : LE}
theorem pl_cp (h : CmL X T op r o) (ha : PE X a (tL X.K T ξ W fa)) (hb : PE X b (tL X.K T ξ W fb)) (hm : behindInMarks op b = false := by first | exact nomark _ | rfl) : PE X (.Compare a [op] [b] pos) (tL X.K T ξ W (lOp o fa fb)) := pl_cmp h.op h.ol ha hb hm
theorem tt_cp (h : CmL X T op r o) (ha : PE X a (tL X.K T ξ W fa)) (hb : PE X b (tL X.K T ξ W fb)) (hm : behindInMarks op b = false := by first | exact nomark _ | rfl) : PT X (.Compare a [op] [b] pos) (tTest (tL X.K T ξ W (lOp o fa fb))) := tt_cmp h.op h.ol ha hb hm
theorem pl_ch (h : CmL X T op r o) (h' : CmL X T op' r' o') (ha : PE X a (tL X.K T ξ W fa)) (hb : PE X b (tL X.K T ξ W fb)) (hc : PE X c (tL X.K T ξ W fc))
    (hm : lastMarks [op, op'] [b, c] = false := by with_unfolding_all rfl) : PE X (.Compare a [op, op'] [b, c] pos) (tL X.K T ξ W (lChain o o' fa fb fc)) := pl_chain h.op h.ol h'.op h'.ol ha hb hc hm
theorem tt_ch (h : CmL X T op r o) (h' : CmL X T op' r' o') (ha : PE X a (tL X.K T ξ W fa)) (hb : PE X b (tL X.K T ξ W fb)) (hc : PE X c (tL X.K T ξ W fc))
    (hm : lastMarks [op, op'] [b, c] = false := by with_unfolding_all rfl) : PT X (.Compare a [op, op'] [b, c] pos) (tTest (tL X.K T ξ W (lChain o o' fa fb fc))) := tt_chain h.op h.ol h'.op h'.ol ha hb hc hm
end
end LL


set_option Elab.async false
set_option linter.all false
set_option maxRecDepth 100000
set_option maxHeartbeats 2000000
/-! The logical layer: subscripts, built-in functions, methods of built-in types, calls. -/
namespace LL
open PySem PySem.Spec PyProof.Rows L2

/-! ### a[i] -/
def okStr (z : Str) : Bool := small z.length
def ixO (v w : LV) (S : Sto) : Option LV := match v with
  | .tup xs => match w with
    | .int j => atI xs j
    | _ => none
  | .ktp xs => match w with
    | .int j => atI xs j
    | _ => none
  | .scr ns => match w with
    | .int j => (atI ns j).map .int
    | _ => none
  | .lst xs => match w with
    | .int j => atI xs j
    | _ => none
  | .str z => match w with
    | .int j => if okStr z = true then (atI z.cps.toList j).map fun c => .str ⟨#[c]⟩ else none
    | _ => none
  | .ref n => match S[n]? with
    | some (.lst xs) => match w with
      | .int j => atI xs j
      | _ => none
    | _ => match getOv w S n with
      | some o => o
      | none => none
  | _ => none
def ixL : Op2 := fun v w S => match ixO v w S with
  | some u => .ok u S
  | none => .no
def rDGet : R2 := fun x y H Q => ∃ a v, x = .ref a ∧ DGet H a y (some v) ∧ Q v H
theorem ix_dict {X : Cx} (hr : X.A.units + 64 < cLine) : IxR X rDGet := by
  intro value slice pins s σ H x y v u Q I rx ry h hs
  obtain ⟨a, z, rfl, g, q⟩ := h
  obtain rfl : v = Value.ref a := rx
  exact tail_any (dict_typeIs I g) PySem.F.slot_dict_getitem.lookup (d_getItem (Nat.lt_of_le_of_lt (Nat.add_le_add_left (by decide : 1 ≤ 64) _) hr) I g ry fun w' s3 I3 rw' => ⟨z, H, I3, rw', q⟩) hs
def rIxU (K : PySem.W.Frag) : R2 := fun x y H Q => rIx K x y H Q ∨ rDGet x y H Q
theorem ix_U {X : Cx} (hr : X.A.units + 64 < cLine) : IxR X (rIxU X.K) := IxR.or ix_seq (ix_dict hr)
section
variable {K : PySem.W.Frag} {T : Env1}
theorem atI_map {α β : Type} (f : α → β) (xs : List α) (j : Int) : atI (xs.map f) j = (atI xs j).map f := by
  unfold atI
  rw [List.length_map]
  cases ixN xs.length j with
  | none => rfl
  | some n => simp
theorem atI_rel {m : List Addr} {H : Hp} {vs : List LV} {xs : List V} {j : Int} {v : LV} (h : RVs K m H vs xs) (e : atI vs j = some v) : ∃ x, atI xs j = some x ∧ RV K m H v x := by
  unfold atI at e ⊢
  rw [← h.len]
  cases q : ixN vs.length j with
  | none => rw [q] at e; cases e
  | some n =>
    rw [q] at e
    exact h.get e
theorem ol_ix : OpL K T (rIxU K) ixL := fun m S H v w x y Q W r rv rw h => by
  unfold ixL at h
  split at h
  · rename_i u hu
    unfold ixO at hu
    split at hu
    · split at hu
      · obtain ⟨a, vs, rfl, ht, hs⟩ := rv.tupE
        obtain ⟨z, hz, rz⟩ := atI_rel hs hu
        exact .inl (.inr (.inl ⟨a, vs, _, z, rfl, rw, SqT.of ht, hz, h.here r rz⟩))
      · cases hu
    · split at hu
      · unfold RV at rv
        obtain ⟨a, vs, rfl, ht, hs⟩ := rv
        obtain ⟨z, hz, rz⟩ := atI_rel hs hu
        exact .inl (.inr (.inl ⟨a, vs, _, z, rfl, rw, ht _, hz, h.here r rz⟩))
      · cases hu
    · split at hu
      · rename_i ns _ j
        unfold RV at rv
        obtain ⟨a, rfl, h1⟩ := rv
        replace h1 := scr_sq h1
        cases q : atI ns j with
        | none => rw [q] at hu; cases hu
        | some i =>
          rw [q] at hu
          cases hu
          exact .inl (.inl ⟨a, _, _, .int i, rfl, rw, h1, by rw [atI_map, q]; rfl, h.here r rfl⟩)
      · cases hu
    · split at hu
      · obtain ⟨a, vs, rfl, _, ha, hs⟩ := rv.lstE
        obtain ⟨z, hz, rz⟩ := atI_rel hs hu
        exact .inl (.inl ⟨a, vs, _, z, rfl, rw, SqL.of ha, hz, h.here r rz⟩)
      · cases hu
    · split at hu
      · rename_i z _ j
        split at hu
        · rename_i hz
          cases q : atI z.cps.toList j with
          | none => rw [q] at hu; cases hu
          | some c =>
            rw [q] at hu
            cases hu
            exact .inl (.inr (.inr ⟨z, _, c, rv, rw, small_ok hz, q, h.here r rfl⟩))
        · cases hu
      · cases hu
    · rename_i n
      split at hu
      · rename_i xs hn
        split at hu
        · obtain ⟨a, vs, rfl, _, ha, hs⟩ := rv.lst r hn
          obtain ⟨z, hz, rz⟩ := atI_rel hs hu
          exact .inl (.inl ⟨a, vs, _, z, rfl, rw, SqL.of ha, hz, h.here r rz⟩)
        · cases hu
      · split at hu
        · rename_i o g
          subst hu
          obtain ⟨a, ov, ey, hd, ho⟩ := getOv_ok r g rw rv
          rcases ho with ⟨ho, _⟩ | ⟨u', z, ho, rfl, rz⟩
          · cases ho
          · cases ho
            exact .inr ⟨a, z, ey, hd, h.here r rz⟩
        · cases hu
    · cases hu
  · exact h.elim
end
section
variable {X : Cx} {T : Env1} {ξ : Xi} {W : WX} {e a b c : Expr} {pos : Pos} {fa fb fc : LE} {k : Nat}
theorem pl_ix (hr : X.A.units + 64 < cLine) (ha : PE X a (tL X.K T ξ W fa)) (hb : PE X b (tL X.K T ξ W fb)) (hs : PlainIx b := by exact fun _ _ => rfl) : PE X (.Subscript a b pos) (tL X.K T ξ W (lOp ixL fa fb)) :=
  pe_imp (pe_ix (ix_U hr) ha hb hs) (tOp_of ol_ix)

/-! ### a[i:j] -/
def intK (k : Int → Sto → R) : LV → Sto → R
  | .int i, S => k i S
  | _, _ => .no
def partK (f : Option LE) (ds : Sl) (S : Sto) (k : Option Int → Sto → R) : R := match f with
  | none => k none S
  | some f => (f ds S).bind (intK fun i S1 => k (some i) S1)
def cutL {α : Type} (xs : List α) (lo hi : Option Int) : List α := (xs.drop (HT.sIx xs.length 0 lo)).take (HT.sIx xs.length xs.length hi - HT.sIx xs.length 0 lo)
def slG (t : Bool) (v : LV) (lo hi : Option Int) (S : Sto) : R := match v with
  | .str z => if okStr z = true then .ok (.str (cutS z lo hi)) S else .no
  | .tup xs => .ok (.tup (cutL xs lo hi)) S
  | .scr ns => newL t ((cutL ns lo hi).map .int) S
  | v => match lsO v S with
    | some xs => newL t (cutL xs lo hi) S
    | _ => .no
abbrev slO := slG false
def lSlG (t : Bool) (fa : LE) (lo hi : Option LE) : LE := fun ds S => (fa ds S).bind fun v S1 => partK lo ds S1 fun l S2 => partK hi ds S2 fun h S3 => slG t v l h S3
abbrev lSl := lSlG false
abbrev lSlT := lSlG true
def tPO (X : Cx) (T : Env1) (ξ : Xi) (W : WX) (f : Option LE) : TO := match f with
  | none => tNoPart
  | some f => tPart (tL X.K T ξ W f)
theorem pl_ponone : PO X none (tPO X T ξ W none) := po_none
theorem pl_po (h : PE X e (tL X.K T ξ W fa)) : PO X (some e) (tPO X T ξ W (some fa)) := po_some h
theorem tPO.bind {f : Option LE} {σ : L2.St} {m : List Addr} {S : Sto} {H : Hp} {ds : Sl} {k : Option Int → Sto → R} {Q : VK} (r : RelS X.K T m S H) (rs : RSl X.K ξ m H ds σ) (h : PoE X.K T m H (partK f ds S k) Q (fun cls d H' => W cls d σ H')) {Q2 : Option Int → Hp → Prop}
    (hq : ∀ o S1 m1 H1, Ext m H m1 H1 → RelS X.K T m1 S1 H1 → RSl X.K ξ m1 H1 ds σ → PoE X.K T m1 H1 (k o S1) Q (fun cls d H' => W cls d σ H') → Q2 o H1) : tPO X T ξ W f σ H Q2 := by
  cases f with
  | none => exact hq none S m H Ext.refl r rs h
  | some f =>
    exact tL.bind r rs h fun v S1 m1 H1 x E r1 rs1 rv h1 => by
      cases v with
      | int i => exact ⟨i, rv, hq (some i) S1 m1 H1 E r1 rs1 h1⟩
      | _ => exact h1.elim
def rSlU (K : PySem.W.Frag) : V → Option Int → Option Int → Hp → VK → Prop := fun x lo hi H Q => (rSlS x lo hi H Q ∨ rSlL K x lo hi H Q) ∨ rSlA K x lo hi H Q
theorem sl_U : SlR X (rSlU X.K) := SlR.or (SlR.or sl_str sl_list) sl_tupA
theorem sIx_whole {n : Nat} {lo hi : Option Int} {α : Type} {xs : List α} (hn : xs.length = n) (h : HT.sIx n 0 lo = 0 ∧ HT.sIx n n hi = n) : cutL xs lo hi = xs := by
  unfold cutL
  rw [hn, h.1, h.2, List.drop_zero, Nat.sub_zero, ← hn, List.take_length]
theorem RVs.ints {K : PySem.W.Frag} {m : List Addr} {H : Hp} : ∀ ns : List Int, RVs K m H (ns.map .int) (ns.map V.int)
  | [] => RVs.nil
  | n :: ns => RVs.cons rfl (RVs.ints ns)
theorem RVs.strs {K : PySem.W.Frag} {m : List Addr} {H : Hp} : ∀ ns : List Str, RVs K m H (ns.map .str) (ns.map V.str)
  | [] => RVs.nil
  | n :: ns => RVs.cons rfl (RVs.strs ns)
theorem slO_ok {m : List Addr} {S : Sto} {H : Hp} {v : LV} {x : V} {lo hi : Option Int} {Q : VK} {W : XK} {t : Bool} (r : RelS X.K T m S H) (rv : RV X.K m H v x) (h : PoE X.K T m H (slG t v lo hi S) Q W) : rSlU X.K x lo hi H Q := by
  unfold slG at h
  split at h
  · split at h
    · rename_i hz
      exact .inl (.inl ⟨_, rv, small_ok hz, h.here r rfl⟩)
    · exact h.elim
  · rename_i xs
    obtain ⟨a, vs, rfl, ht, hs⟩ := rv.tupE
    refine .inr ⟨a, vs, rfl, SqT.of ht, fun hw => ?_, fun _ => ?_⟩
    · rw [← hs.len] at hw
      rw [sIx_whole rfl hw] at h
      exact h.here r (by unfold RV; exact ⟨a, vs, rfl, ht, hs⟩)
    · refine fin_tup r ?_ h
      unfold cutV cutL
      rw [← hs.len]
      exact (hs.drop _).take _
  · rename_i ns
    unfold RV at rv
    obtain ⟨a, rfl, h1⟩ := rv
    replace h1 := scr_sq h1
    refine .inl (.inr ⟨a, _, rfl, h1, fin_new r ?_ h⟩)
    have e : cutV (ns.map V.int) lo hi = (cutL ns lo hi).map V.int := by
      unfold cutV cutL
      rw [List.length_map, List.map_take, List.map_drop]
    rw [e]
    exact RVs.ints _
  · split at h
    · rename_i xs hn
      obtain ⟨a, vs, rfl, ha, hs⟩ := lsO_ok r rv hn
      refine .inl (.inr ⟨a, vs, rfl, SqL.of ha, fin_new r ?_ h⟩)
      unfold cutV cutL
      rw [← hs.len]
      exact (hs.drop _).take _
    · exact h.elim
theorem pl_sl {t : Bool} {lo hi : Option Expr} {fl fh : Option LE} {p2 : Pos} (ha : PE X a (tL X.K T ξ W fa)) (hl : PO X lo (tPO X T ξ W fl)) (hh : PO X hi (tPO X T ξ W fh)) : PE X (.Subscript a (.Slice lo hi none p2) pos) (tL X.K T ξ W (lSlG t fa fl fh)) :=
  pe_imp (pe_slice sl_U ha hl hh) fun σ H Q ⟨m, S, ds, r0, rs, h⟩ => tL.bind r0 rs h fun v S1 m1 H1 x E r1 rs1 rv h1 => tPO.bind r1 rs1 h1 fun l S2 m2 H2 E2 r2 rs2 h2 => tPO.bind r2 rs2 h2 fun u S3 m3 H3 E3 r3 rs3 h3 =>
    slO_ok r3 ((rv.mono E2).mono E3) h3

/-! ### built-in functions -/
abbrev OpN := List LV → Sto → R
def CallL (K : PySem.W.Frag) (T : Env1) (r : List V → Hp → VK → Prop) (o : OpN) : Prop := ∀ m S H vs xs Q W, RelS K T m S H → RVs K m H vs xs → PoE K T m H (o vs S) Q W → r xs H Q
def lBi (o : OpN) (fa : LA) : LE := fun ds S => (fa ds S).bind o
theorem tCB_of {r : List V → Hp → VK → Prop} {o : OpN} {ga : LA} (hl : CallL X.K T r o) : ∀ σ H Q, tL X.K T ξ W (lBi o ga) σ H Q → tCB r (tLA X.K T ξ W ga) σ H Q :=
  fun σ H Q ⟨m, S, ds, r0, rs, h⟩ => tLA.bind r0 rs h fun v S1 m1 H1 x E r1 rs1 rv h1 => hl _ _ _ _ _ _ _ r1 rv h1
theorem pl_bi {x : Str} {p : Pos} {es : List Expr} {id : String} {r : List V → Hp → VK → Prop} {o : OpN} {ga : LA} (hc : CallR X (.builtin id) r) (hl : CallL X.K T r o) (hg : Gl X x) (hm : X.mg x = none) (hv : bootBuiltins x = some (.builtin id)) (ha : PA X (e :: es) (tLA X.K T ξ W ga))
    (hn : x ≠ "__name__" := by decide) (hdb : (x == ("__debug__" : Str)) = false := by decide)
    (he : starEach (e :: es) X.env = (false, eval e X.env) :: starEach es X.env := by rfl) (hpl : (backTo pos (starEach es X.env)).any (·.1) = false := by rfl) : PE X (.Call (.Name x p) (e :: es) [] pos) (tL X.K T ξ W (lBi o ga)) :=
  pe_imp (pe_callB hc hg hm hv ha hn hdb he hpl) (tCB_of hl)
theorem pl_bty {x : Str} {p : Pos} {es : List Expr} {n : String} {r : List V → Hp → VK → Prop} {o : OpN} {ga : LA} (hc : CallR X (.type n) r) (hl : CallL X.K T r o) (hg : Gl X x) (hm : X.mg x = none) (hv : bootBuiltins x = some (.type n)) (ha : PA X (e :: es) (tLA X.K T ξ W ga))
    (hn : x ≠ "__name__" := by decide) (hdb : (x == ("__debug__" : Str)) = false := by decide)
    (he : starEach (e :: es) X.env = (false, eval e X.env) :: starEach es X.env := by rfl) (hpl : (backTo pos (starEach es X.env)).any (·.1) = false := by rfl) : PE X (.Call (.Name x p) (e :: es) [] pos) (tL X.K T ξ W (lBi o ga)) :=
  pe_imp (pe_callTy hc hg hm hv ha hn hdb he hpl) (tCB_of hl)
end
section
variable {K : PySem.W.Frag} {T : Env1}
theorem RVs.one {m : List Addr} {H : Hp} {v : LV} {xs : List V} (h : RVs K m H [v] xs) : ∃ x, xs = [x] ∧ RV K m H v x := by
  unfold RVs at h
  obtain ⟨x, r, rfl, h1, h2⟩ := h
  rw [h2.nilE]
  exact ⟨x, rfl, h1⟩
theorem RVs.two {m : List Addr} {H : Hp} {v w : LV} {xs : List V} (h : RVs K m H [v, w] xs) : ∃ x y, xs = [x, y] ∧ RV K m H v x ∧ RV K m H w y := by
  unfold RVs at h
  obtain ⟨x, r, rfl, h1, h2⟩ := h
  obtain ⟨y, rfl, h3⟩ := h2.one
  exact ⟨x, y, rfl, h1, h3⟩
/-- len -/
def lenO (v : LV) (S : Sto) : Option Nat := match v with
  | .str z => if okStr z = true then some z.length else none
  | .tup xs => some xs.length
  | .ktp xs => some xs.length
  | .scr ns => some ns.length
  | .lst xs => some xs.length
  | .ref n => match S[n]? with
    | some (.lst xs) => some xs.length
    | some (.dct kvs) => some kvs.length
    | _ => none
  | _ => none
def lenL : OpN
  | [v], S => match lenO v S with
    | some n => .ok (.int n) S
    | none => .no
  | _, _ => .no
def rLenU (K : PySem.W.Frag) : List V → Hp → VK → Prop := fun xs H Q => (∃ x n, xs = [x] ∧ LenV K x H n ∧ Q (.int n) H) ∨ (∃ a kvs, xs = [V.ref a] ∧ H a = some (.dK kvs) ∧ Q (.int kvs.length) H)
theorem cr_lenU {X : Cx} : CallR X (.builtin "len") (rLenU X.K) := CallR.or call_len call_lenD
theorem cl_len : CallL K T (rLenU K) lenL := fun m S H vs xs Q W r rv h => by
  unfold lenL at h
  split at h
  · rename_i v
    obtain ⟨x, rfl, rx⟩ := rv.one
    split at h
    · rename_i n hn
      have q := h.here r (x := .int n) rfl
      unfold lenO at hn
      split at hn
      · split at hn
        · rename_i hz
          cases hn
          cases (show x = .str _ from rx)
          exact .inl ⟨_, _, rfl, ⟨small_ok hz, rfl⟩, q⟩
        · cases hn
      · cases hn
        obtain ⟨a, vs, rfl, ht, hs⟩ := rx.tupE
        exact .inl ⟨_, _, rfl, .inr ⟨vs, SqT.of ht, hs.len⟩, q⟩
      · cases hn
        unfold RV at rx
        obtain ⟨a, vs, rfl, ht, hs⟩ := rx
        exact .inl ⟨_, _, rfl, .inr ⟨vs, ht _, hs.len⟩, q⟩
      · cases hn
        unfold RV at rx
        obtain ⟨a, rfl, h1⟩ := rx
        exact .inl ⟨_, _, rfl, .inl ⟨_, scr_sq h1, by rw [List.length_map]⟩, q⟩
      · cases hn
        obtain ⟨a, vs, rfl, _, ha, hs⟩ := rx.lstE
        exact .inl ⟨_, _, rfl, .inl ⟨vs, SqL.of ha, hs.len⟩, q⟩
      · split at hn
        · rename_i ys e
          cases hn
          obtain ⟨a, vs, rfl, _, ha, hs⟩ := rx.lst r e
          exact .inl ⟨_, _, rfl, .inl ⟨vs, SqL.of ha, hs.len⟩, q⟩
        · rename_i kvs e
          cases hn
          unfold RV at rx
          obtain ⟨a, rfl, hm⟩ := rx
          obtain ⟨ws, h1, h2, h3⟩ := r.at hm e
          have hl : ws.length = kvs.length := by
            have := congrArg List.length h2
            simpa using this
          exact .inr ⟨a, ws, rfl, h1, by rw [hl]; exact q⟩
        · cases hn
      · cases hn
    · exact h.elim
  · exact h.elim
/-- isinstance -/
def kindL (v : LV) (S : Sto) : Option String := match v with
  | .non => some "NoneType"
  | .bl _ => some "bool"
  | .int _ => some "int"
  | .str _ => some "str"
  | .tup _ => some "tuple"
  | .lst _ => some "list"
  | .ref n => match S[n]? with
    | some (.lst _) => some "list"
    | some (.dct _) => some "dict"
    | some (.dcT _) => some "dict"
    | _ => none
  | _ => none
def isiT (k n : String) : Option Bool := if n = "int" ∨ n = "bool" ∨ n = "str" ∨ n = "list" ∨ n = "tuple" ∨ n = "dict" then some (decide (k = n) || (decide (k = "bool") && decide (n = "int"))) else none
def isiL : OpN
  | [v, .ty n], S => match kindL v S with
    | some k => match isiT k n with
      | some b => .ok (.bl b) S
      | none => .no
    | none => .no
  | _, _ => .no
theorem kit_all {k n : String} {b : Bool} (hk : k = "NoneType" ∨ k = "bool" ∨ k = "int" ∨ k = "str" ∨ k = "tuple" ∨ k = "list" ∨ k = "dict") (h : isiT k n = some b) : kitB k n = some b := by
  unfold isiT at h
  split at h
  · rename_i hn
    cases h
    rcases hk with rfl | rfl | rfl | rfl | rfl | rfl | rfl <;> rcases hn with rfl | rfl | rfl | rfl | rfl | rfl <;> decide +kernel
  · cases h
theorem cl_isi : CallL K T (rIsi K) isiL := fun m S H vs xs Q W r rv h => by
  unfold isiL at h
  split at h
  · rename_i v n
    obtain ⟨x, y, rfl, rx, ry⟩ := rv.two
    cases (show y = .ty n from ry)
    split at h
    · rename_i k hk
      split at h
      · rename_i b hb
        have q := h.here r (x := .bl b) rfl
        have fin : ∀ t : Value, t = .type k → TyX K H x t → (k = "NoneType" ∨ k = "bool" ∨ k = "int" ∨ k = "str" ∨ k = "tuple" ∨ k = "list" ∨ k = "dict") → rIsi K [x, .ty n] H Q := fun t et ht hk => by
          subst et
          exact ⟨x, .ty n, _, _, b, rfl, .ty n, ht, kit_ty (kit_all hk hb), q⟩
        unfold kindL at hk
        split at hk
        · cases hk
          cases (show x = .non from rx)
          exact fin _ rfl (.base .non) (by simp)
        · cases hk
          cases (show x = .bl _ from rx)
          exact fin _ rfl (.base (.bl _)) (by simp)
        · cases hk
          cases (show x = .int _ from rx)
          exact fin _ rfl (.base (.int _)) (by simp)
        · cases hk
          cases (show x = .str _ from rx)
          exact fin _ rfl (.base (.str _)) (by simp)
        · cases hk
          obtain ⟨a, vs, rfl, ht, hs⟩ := rx.tupE
          exact fin _ rfl (.base (.tup ht)) (by simp)
        · cases hk
          obtain ⟨a, vs, rfl, _, ha, hs⟩ := rx.lstE
          exact fin _ rfl (.base (.lst ha)) (by simp)
        · split at hk
          · rename_i e
            cases hk
            obtain ⟨a, vs, rfl, _, ha, hs⟩ := rx.lst r e
            exact fin _ rfl (.base (.lst ha)) (by simp)
          · rename_i e
            cases hk
            unfold RV at rx
            obtain ⟨a, rfl, hm⟩ := rx
            obtain ⟨ws, h1, h2, h3⟩ := r.at hm e
            exact fin _ rfl (.base (.dK h1)) (by simp)
          · rename_i e
            cases hk
            unfold RV at rx
            obtain ⟨a, rfl, hm⟩ := rx
            obtain ⟨ws, h1, h2, h3⟩ := r.at hm e
            exact fin _ rfl (.base (.dT h1)) (by simp)
          · cases hk
        · cases hk
      · exact h.elim
    · exact h.elim
  · exact h.elim
/-- int -/
def intL : OpN
  | [.int i], S => .ok (.int i) S
  | [.bl b], S => .ok (.int (if b = true then 1 else 0)) S
  | [.str a], S => match PySem.intText? a with
    | some n => if decide (a.length ≤ 640) = true then .ok (.int n) S else .no
    | none => .no
  | _, _ => .no
def rIntU : List V → Hp → VK → Prop := fun xs H Q => ((∃ i, xs = [.int i] ∧ Q (.int i) H) ∨ ∃ k, xs = [.bl k] ∧ Q (.int (if k then 1 else 0)) H) ∨ (∃ a n, xs = [.str a] ∧ PySem.intText? a = some n ∧ a.length ≤ 640 ∧ Q (.int n) H)
theorem cr_intU {X : Cx} : CallR X (.type "int") rIntU := CallR.or call_int1 call_int_str
theorem cl_int : CallL K T rIntU intL := fun m S H vs xs Q W r rv h => by
  unfold intL at h
  split at h
  · obtain ⟨x, rfl, rx⟩ := rv.one
    cases (show x = .int _ from rx)
    exact .inl (.inl ⟨_, rfl, h.here r rfl⟩)
  · obtain ⟨x, rfl, rx⟩ := rv.one
    cases (show x = .bl _ from rx)
    exact .inl (.inr ⟨_, rfl, h.here r rfl⟩)
  · obtain ⟨x, rfl, rx⟩ := rv.one
    cases (show x = .str _ from rx)
    split at h
    · rename_i n hn
      split at h
      · rename_i hz
        exact .inr ⟨_, n, rfl, hn, of_decide_eq_true hz, h.here r rfl⟩
      · exact h.elim
    · exact h.elim
  · exact h.elim
/-- str of a whole number -/
def okNum (i : Int) : Bool := decide (-bigB ≤ i) && decide (i ≤ bigB)
def strL : OpN
  | [.int i], S => if okNum i = true then .ok (.str (toString i)) S else .no
  | _, _ => .no
theorem cl_str : CallL K T (fun xs H Q => ∃ i, xs = [.int i] ∧ i.natAbs.log2 < 1920 ∧ Q (.str (toString i)) H) strL := fun m S H vs xs Q W r rv h => by
  unfold strL at h
  split at h
  · obtain ⟨x, rfl, rx⟩ := rv.one
    cases (show x = .int _ from rx)
    split at h
    · rename_i hz
      simp only [okNum, Bool.and_eq_true, decide_eq_true_eq] at hz
      exact ⟨_, rfl, Nat.lt_trans (PySem.Flt.log2_lt_of (by decide) (bigB_lt hz.1 hz.2)) (by decide), h.here r rfl⟩
    · exact h.elim
  · exact h.elim
/-- abs, min, max -/
def absL : OpN
  | [.int i], S => .ok (.int (if i < 0 then -i else i)) S
  | _, _ => .no
theorem cl_abs : CallL K T (fun xs H Q => ∃ i, xs = [.int i] ∧ Q (.int (if i < 0 then -i else i)) H) absL := fun m S H vs xs Q W r rv h => by
  unfold absL at h
  split at h
  · obtain ⟨x, rfl, rx⟩ := rv.one
    cases (show x = .int _ from rx)
    exact ⟨_, rfl, h.here r rfl⟩
  · exact h.elim
def maxL : OpN
  | [.int i, .int j], S => .ok (.int (if j > i then j else i)) S
  | _, _ => .no
def minL : OpN
  | [.int i, .int j], S => .ok (.int (if j < i then j else i)) S
  | _, _ => .no
theorem cl_max : CallL K T (fun xs H Q => ∃ i j, xs = [.int i, .int j] ∧ Q (.int (if j > i then j else i)) H) maxL := fun m S H vs xs Q W r rv h => by
  unfold maxL at h
  split at h
  · obtain ⟨x, y, rfl, rx, ry⟩ := rv.two
    cases (show x = .int _ from rx)
    cases (show y = .int _ from ry)
    exact ⟨_, _, rfl, h.here r rfl⟩
  · exact h.elim
theorem cl_min : CallL K T (fun xs H Q => ∃ i j, xs = [.int i, .int j] ∧ Q (.int (if j < i then j else i)) H) minL := fun m S H vs xs Q W r rv h => by
  unfold minL at h
  split at h
  · obtain ⟨x, y, rfl, rx, ry⟩ := rv.two
    cases (show x = .int _ from rx)
    cases (show y = .int _ from ry)
    exact ⟨_, _, rfl, h.here r rfl⟩
  · exact h.elim
/-- the ints of a list -/
def intsL (vs : List LV) : Option (List Int) := seqO (vs.map fun v => match v with
  | .int i => some i
  | _ => none)
theorem intsL_ok {m : List Addr} {H : Hp} : ∀ {vs : List LV} {xs : List V} {ns : List Int}, intsL vs = some ns → RVs K m H vs xs → xs = ns.map V.int
  | [], xs, ns, e, h => by
    cases e
    rw [h.nilE]
    rfl
  | v :: vs, xs, ns, e, h => by
    unfold RVs at h
    obtain ⟨x, r, rfl, h1, h2⟩ := h
    unfold intsL at e
    rw [List.map_cons] at e
    cases v with
    | int i =>
      simp only at e
      unfold seqO at e
      split at e
      · rename_i l hl
        cases e
        rw [List.map_cons, intsL_ok (ns := l) hl h2]
        cases (show x = .int i from h1)
        rfl
      · cases e
    | _ => cases e
def listI (v : LV) (S : Sto) : Option (List Int) := match v with
  | .scr ns => some ns
  | v => match lsO v S with
    | some xs => intsL xs
    | _ => none
theorem listI_ok {m : List Addr} {S : Sto} {H : Hp} {v : LV} {x : V} {ns : List Int} (r : RelS K T m S H) (e : listI v S = some ns) (rv : RV K m H v x) : ∃ a, x = .ref a ∧ SqL K H a (ns.map V.int) := by
  unfold listI at e
  split at e
  · cases e
    unfold RV at rv
    obtain ⟨a, rfl, h1⟩ := rv
    exact ⟨a, rfl, scr_sq h1⟩
  · split at e
    · rename_i xs hn
      obtain ⟨a, vs, rfl, ha, hs⟩ := lsO_ok r rv hn
      exact ⟨a, rfl, SqL.of (by rw [ha, intsL_ok e hs])⟩
    · cases e
def sumL : OpN
  | [v], S => match listI v S with
    | some ns => .ok (.int ns.sum) S
    | none => .no
  | _, _ => .no
theorem cl_sum : CallL K T (rSum K) sumL := fun m S H vs xs Q W r rv h => by
  unfold sumL at h
  split at h
  · obtain ⟨x, rfl, rx⟩ := rv.one
    split at h
    · rename_i ns hn
      obtain ⟨a, rfl, hs⟩ := listI_ok r hn rx
      exact ⟨a, ns, rfl, hs, h.here r rfl⟩
    · exact h.elim
  · exact h.elim
/-- list(..), tuple(..) of what is a list or a tuple -/
def itemsO (v : LV) (S : Sto) : Option (List LV) := match v with
  | .tup xs => some xs
  | .ktp xs => some xs
  | .scr ns => some (ns.map .int)
  | v => lsO v S
theorem itemsO_ok {m : List Addr} {S : Sto} {H : Hp} {v : LV} {x : V} {vs : List LV} (r : RelS K T m S H) (e : itemsO v S = some vs) (rv : RV K m H v x) : ∃ a xs, x = .ref a ∧ (SqL K H a xs ∨ SqT K H a xs) ∧ RVs K m H vs xs := by
  unfold itemsO at e
  split at e
  · cases e
    obtain ⟨a, vs, rfl, ht, hs⟩ := rv.tupE
    exact ⟨a, vs, rfl, .inr (SqT.of ht), hs⟩
  · cases e
    unfold RV at rv
    obtain ⟨a, vs, rfl, ht, hs⟩ := rv
    exact ⟨a, vs, rfl, .inr (ht _), hs⟩
  · cases e
    unfold RV at rv
    obtain ⟨a, rfl, h1⟩ := rv
    exact ⟨a, _, rfl, .inl (scr_sq h1), RVs.ints _⟩
  · obtain ⟨a, vs, rfl, ha, hs⟩ := lsO_ok r rv e
    exact ⟨a, vs, rfl, .inl (SqL.of ha), hs⟩
def listG (t : Bool) : OpN
  | [v], S => match itemsO v S with
    | some vs => newL t vs S
    | none => .no
  | _, _ => .no
abbrev listL := listG false
abbrev listT := listG true
theorem cl_list {t : Bool} : CallL K T (fun xs H Q => ∃ p ys, xs = [.ref p] ∧ (SqL K H p ys ∨ SqT K H p ys) ∧ ∀ l, H l = none → Q (.ref l) (upd H l (.lst ys))) (listG t) := fun m S H vs xs Q W r rv h => by
  unfold listG at h
  split at h
  · obtain ⟨x, rfl, rx⟩ := rv.one
    split at h
    · rename_i ys hn
      obtain ⟨a, zs, rfl, h1, h2⟩ := itemsO_ok r hn rx
      exact ⟨a, zs, rfl, h1, fin_new r h2 h⟩
    · exact h.elim
  · exact h.elim
def tupleL : OpN
  | [.tup xs], S => .ok (.tup xs) S
  | [v], S => match lsO v S with
    | some xs => .ok (.tup xs) S
    | _ => .no
  | _, _ => .no
theorem cl_tuple : CallL K T (fun xs H Q => ∃ p ys, xs = [.ref p] ∧ ((SqL K H p ys ∧ ∀ l, H l = none → Q (.ref l) (upd H l (.tup ys))) ∨ (SqT K H p ys ∧ Q (.ref p) H))) tupleL := fun m S H vs xs Q W r rv h => by
  unfold tupleL at h
  split at h
  · obtain ⟨x, rfl, rx⟩ := rv.one
    obtain ⟨a, zs, rfl, ht, hs⟩ := rx.tupE
    exact ⟨a, zs, rfl, .inr ⟨SqT.of ht, h.here r (by unfold RV; exact ⟨a, zs, rfl, ht, hs⟩)⟩⟩
  · obtain ⟨x, rfl, rx⟩ := rv.one
    split at h
    · rename_i ys hn
      obtain ⟨a, zs, rfl, ha, hs⟩ := lsO_ok r rx hn
      exact ⟨a, zs, rfl, .inl ⟨SqL.of ha, fin_tup r hs h⟩⟩
    · exact h.elim
  · exact h.elim
def blsL (vs : List LV) : Option (List Bool) := seqO (vs.map fun v => match v with
  | .bl i => some i
  | _ => none)
theorem blsL_ok {m : List Addr} {H : Hp} : ∀ {vs : List LV} {xs : List V} {ns : List Bool}, blsL vs = some ns → RVs K m H vs xs → xs = ns.map V.bl
  | [], xs, ns, e, h => by
    cases e
    rw [h.nilE]
    rfl
  | v :: vs, xs, ns, e, h => by
    unfold RVs at h
    obtain ⟨x, r, rfl, h1, h2⟩ := h
    unfold blsL at e
    rw [List.map_cons] at e
    cases v with
    | bl i =>
      simp only at e
      unfold seqO at e
      split at e
      · rename_i l hl
        cases e
        rw [List.map_cons, blsL_ok (ns := l) hl h2]
        cases (show x = .bl i from h1)
        rfl
      · cases e
    | _ => cases e
def allL : OpN
  | [v], S => match lsO v S with
    | some xs => match blsL xs with
      | some bs => .ok (.bl (bs.all id)) S
      | none => .no
    | _ => .no
  | _, _ => .no
theorem cl_all : CallL K T (rAll K) allL := fun m S H vs xs Q W r rv h => by
  unfold allL at h
  split at h
  · obtain ⟨x, rfl, rx⟩ := rv.one
    split at h
    · rename_i ys hn
      split at h
      · rename_i bs hb
        obtain ⟨a, zs, rfl, ha, hs⟩ := lsO_ok r rx hn
        exact ⟨a, bs, rfl, SqL.of (by rw [ha, blsL_ok hb hs]), h.here r rfl⟩
      · exact h.elim
    · exact h.elim
  · exact h.elim
end
end LL


set_option Elab.async false
set_option linter.all false
set_option maxRecDepth 100000
set_option maxHeartbeats 2000000
/-! The logical layer: methods of built-in types, calls, statements, loops, comprehensions. -/
namespace LL
open PySem PySem.Spec PyProof.Rows L2

/-! ### methods of built-in types -/
abbrev OpM := LV → List LV → Sto → R
def MtL (K : PySem.W.Frag) (T : Env1) (r : V → List V → Hp → VK → Prop) (o : OpM) : Prop := ∀ m S H v vs x xs Q W, RelS K T m S H → RV K m H v x → RVs K m H vs xs → PoE K T m H (o v vs S) Q W → r x xs H Q
def isT (n : String) (v : LV) (S : Sto) : Bool := match v with
  | .str _ => decide (n = "str")
  | .scr _ => decide (n = "list")
  | .lst _ => decide (n = "list")
  | .ref k => match S[k]? with
    | some (.lst _) => decide (n = "list")
    | some (.dct _) => decide (n = "dict")
    | some (.dcT _) => decide (n = "dict")
    | _ => false
  | _ => false
def gateK (n : String) (k : LV → Sto → R) : LV → Sto → R := fun v S => if isT n v S = true then k v S else .no
def lBm0 (n : String) (o : OpM) (fo : LE) : LE := fun ds S => (fo ds S).bind (gateK n fun v S1 => o v [] S1)
def lBm (n : String) (o : OpM) (fo : LE) (fa : LA) : LE := fun ds S => (fo ds S).bind (gateK n fun v S1 => (fa ds S1).bind fun vs S2 => o v vs S2)
section
variable {K : PySem.W.Frag} {T : Env1}
theorem isT_ok {m : List Addr} {S : Sto} {H : Hp} {v : LV} {x : V} {n : String} (r : RelS K T m S H) (e : isT n v S = true) (rv : RV K m H v x) : tyV K n x H := by
  unfold isT at e
  split at e
  · have := of_decide_eq_true e
    subst this
    cases (show x = .str _ from rv)
    rfl
  · have := of_decide_eq_true e
    subst this
    unfold RV at rv
    obtain ⟨a, rfl, h1⟩ := rv
    exact .inl ⟨rfl, _, scr_sq h1⟩
  · have := of_decide_eq_true e
    subst this
    obtain ⟨a, vs, rfl, _, ha, hs⟩ := rv.lstE
    exact .inl ⟨rfl, _, SqL.of ha⟩
  · split at e
    · rename_i xs hn
      have := of_decide_eq_true e
      subst this
      obtain ⟨a, vs, rfl, _, ha, hs⟩ := rv.lst r hn
      exact .inl ⟨rfl, _, SqL.of ha⟩
    · rename_i kvs hn
      have := of_decide_eq_true e
      subst this
      unfold RV at rv
      obtain ⟨a, rfl, hm⟩ := rv
      obtain ⟨ws, h1, h2, h3⟩ := r.at hm hn
      exact .inr (.inr (.inl ⟨rfl, .inl ⟨_, h1⟩⟩))
    · rename_i kvs hn
      have := of_decide_eq_true e
      subst this
      unfold RV at rv
      obtain ⟨a, rfl, hm⟩ := rv
      obtain ⟨ws, h1, h2, h3⟩ := r.at hm hn
      exact .inr (.inr (.inl ⟨rfl, .inr ⟨_, h1⟩⟩))
    · cases e
  · cases e
end
section
variable {X : Cx} {T : Env1} {ξ : Xi} {W : WX} {e a b c o : Expr} {es : List Expr} {pos cpos apos : Pos} {fa fb fc fo : LE} {ga : LA} {k : Nat} {n id : String} {name : Str} {r : V → List V → Hp → VK → Prop} {om : OpM}
theorem pl_bm0 (pa : PlainAttrs n) (slot : Slot n name id) (hty : typeOf (.builtin id) = pure (.type "method_descriptor")) (hm : MtR X id r) (hl : MtL X.K T r om) (ho : PE X o (tL X.K T ξ W fo))
    (hbase : attributeBase o name X.env (eval o X.env) = eval o X.env := by rfl) (hline : (apos.endLine == cpos.line) = true := by rfl) : PE X (.Call (.Attribute o name apos) [] [] cpos) (tL X.K T ξ W (lBm0 n om fo)) :=
  pe_imp (pe_bm0 pa slot hty hm ho hbase hline) fun σ H Q ⟨m, S, ds, r0, rs, h⟩ => tL.bind r0 rs h fun v S1 m1 H1 x E r1 rs1 rv h1 => by
    unfold gateK at h1
    split at h1
    · rename_i ht
      exact ⟨isT_ok r1 ht rv, hl _ _ _ _ _ _ _ _ _ r1 rv RVs.nil h1⟩
    · exact h1.elim
theorem pl_bm (pa : PlainAttrs n) (slot : Slot n name id) (hty : typeOf (.builtin id) = pure (.type "method_descriptor")) (hm : MtR X id r) (hl : MtL X.K T r om) (ho : PE X o (tL X.K T ξ W fo)) (ha : PA X (e :: es) (tLA X.K T ξ W ga))
    (hbase : attributeBase o name X.env (eval o X.env) = eval o X.env := by rfl)
    (hfew : ((backTo cpos (starEach (e :: es) X.env)).all (fun x => !x.1) && (backToKw cpos (keywordEach [] X.env)).all (fun x => x.1.isSome)
      && decide ((e :: es).length + ([] : List Keyword).length + (if ([] : List Keyword).isEmpty then 0 else 1) < 30)) = true := by rfl)
    (hline : (apos.endLine == cpos.line) = true := by rfl) (hs : starEach (e :: es) X.env = (false, eval e X.env) :: starEach es X.env := by rfl) (hplain : (backTo cpos (starEach es X.env)).any (·.1) = false := by rfl) :
    PE X (.Call (.Attribute o name apos) (e :: es) [] cpos) (tL X.K T ξ W (lBm n om fo ga)) :=
  pe_imp (pe_bm pa slot hty hm ho ha hbase hfew hline hs hplain) fun σ H Q ⟨m, S, ds, r0, rs, h⟩ => tL.bind r0 rs h fun v S1 m1 H1 x E r1 rs1 rv h1 => by
    unfold gateK at h1
    split at h1
    · rename_i ht
      exact ⟨isT_ok r1 ht rv, tLA.bind r1 rs1 h1 fun vs S2 m2 H2 xs E2 r2 rs2 rvs h2 => hl _ _ _ _ _ _ _ _ _ r2 (rv.mono E2) rvs h2⟩
    · exact h1.elim
end
section
variable {K : PySem.W.Frag} {T : Env1}
/-- the texts of a list -/
def strsL (vs : List LV) : Option (List Str) := seqO (vs.map fun v => match v with
  | .str i => some i
  | _ => none)
theorem strsL_ok {m : List Addr} {H : Hp} : ∀ {vs : List LV} {xs : List V} {ns : List Str}, strsL vs = some ns → RVs K m H vs xs → xs = ns.map V.str
  | [], xs, ns, e, h => by
    cases e
    rw [h.nilE]
    rfl
  | v :: vs, xs, ns, e, h => by
    unfold RVs at h
    obtain ⟨x, r, rfl, h1, h2⟩ := h
    unfold strsL at e
    rw [List.map_cons] at e
    cases v with
    | str i =>
      simp only at e
      unfold seqO at e
      split at e
      · rename_i l hl
        cases e
        rw [List.map_cons, strsL_ok (ns := l) hl h2]
        cases (show x = .str i from h1)
        rfl
      · cases e
    | _ => cases e
def joinL2 : OpM
  | .str a, [w], S => match itemsO w S with
    | some vs => match strsL vs with
      | some ys => if decide ((ys.map (·.length)).sum + ys.length * a.length ≤ 16777216) = true then .ok (.str (Txt.join a ys)) S else .no
      | none => .no
    | none => .no
  | _, _, _ => .no
theorem ml_join : MtL K T (fun x xs H Q => ∃ a p, ∃ ys : List Str, x = .str a ∧ xs = [.ref p] ∧ (SqL K H p (ys.map V.str) ∨ SqT K H p (ys.map V.str)) ∧ (ys.map (·.length)).sum + ys.length * a.length ≤ 16777216 ∧ Q (.str (Txt.join a ys)) H) joinL2 :=
  fun m S H v vs x xs Q W r rv rvs h => by
    unfold joinL2 at h
    split at h
    · rename_i w
      obtain ⟨y, rfl, ry⟩ := rvs.one
      split at h
      · rename_i us hu
        split at h
        · rename_i ys hy
          split at h
          · rename_i hz
            obtain ⟨a, zs, rfl, hs, h2⟩ := itemsO_ok r hu ry
            have e := strsL_ok hy h2
            subst e
            exact ⟨_, a, ys, rv, rfl, hs, of_decide_eq_true hz, h.here r rfl⟩
          · exact h.elim
        · exact h.elim
      · exact h.elim
    · exact h.elim
def splitG (t : Bool) : OpM
  | .str a, [.str b], S => if (decide (b.length ≠ 0) && small (a.length + 2)) = true then newL t ((Txt.split a b).map .str) S else .no
  | _, _, _ => .no
abbrev splitL := splitG false
abbrev splitT := splitG true
theorem ml_split {t : Bool} : MtL K T (fun x xs H Q => ∃ a b, x = .str a ∧ xs = [.str b] ∧ (b.length == 0) = false ∧ a.length + 2 ≤ sizeLine ∧ rNewStrs (Txt.split a b) H Q) (splitG t) := fun m S H v vs x xs Q W r rv rvs h => by
  unfold splitG at h
  split at h
  · rename_i a b
    obtain ⟨y, rfl, ry⟩ := rvs.one
    split at h
    · rename_i hz
      rw [Bool.and_eq_true] at hz
      cases (show y = .str b from ry)
      exact ⟨a, b, rv, rfl, by have := of_decide_eq_true hz.1; simpa using this, small_ok hz.2, fin_new r (RVs.strs _) h⟩
    · exact h.elim
  · exact h.elim
def startsL : OpM
  | .str a, [.str b], S => .ok (.bl (Txt.startswith a b)) S
  | _, _, _ => .no
theorem ml_starts : MtL K T (fun x xs H Q => ∃ a b, x = .str a ∧ xs = [.str b] ∧ Q (.bl (Txt.startswith a b)) H) startsL := fun m S H v vs x xs Q W r rv rvs h => by
  unfold startsL at h
  split at h
  · obtain ⟨y, rfl, ry⟩ := rvs.one
    cases (show y = .str _ from ry)
    exact ⟨_, _, rv, rfl, h.here r rfl⟩
  · exact h.elim
def sindexL : OpM
  | .str a, [.str b], S => match Builtin.Str.occurrences a b 0 a.length 1 with
    | i :: _ => .ok (.int (i : Nat)) S
    | [] => .no
  | _, _, _ => .no
theorem ml_sindex : MtL K T (fun x xs H Q => ∃ a b i rest, x = .str a ∧ xs = [.str b] ∧ Builtin.Str.occurrences a b 0 a.length 1 = i :: rest ∧ Q (.int (i : Nat)) H) sindexL := fun m S H v vs x xs Q W r rv rvs h => by
  unfold sindexL at h
  split at h
  · obtain ⟨y, rfl, ry⟩ := rvs.one
    cases (show y = .str _ from ry)
    split at h
    · rename_i i rest ho
      exact ⟨_, _, i, rest, rv, rfl, ho, h.here r rfl⟩
    · exact h.elim
  · exact h.elim
/-- xs.append(v); xs.clear() -/
def appendL : OpM
  | .ref n, [v], S => match S[n]? with
    | some (.lst xs) => if small (xs.length + 1) = true then .ok .non (S.set n (.lst (xs ++ [v]))) else .no
    | _ => .no
  | _, _, _ => .no
theorem ml_append : MtL K T rAppend appendL := fun m S H v vs x xs Q W r rv rvs h => by
  unfold appendL at h
  split at h
  · rename_i n v
    obtain ⟨y, rfl, ry⟩ := rvs.one
    split at h
    · rename_i ys hn
      split at h
      · rename_i hz
        obtain ⟨a, zs, rfl, hm, ha, hs⟩ := rv.lst r hn
        refine ⟨a, zs, y, rfl, rfl, ha, ?_, ?_⟩
        · have := small_ok hz
          rw [← hs.len]
          omega
        · have E : Ext m H m (upd H a (.lst (zs ++ [y]))) := Ext.write r (List.mem_of_getElem? hm) ha
          exact h m _ _ E (r.write hm ha ⟨_, upd_same, (hs.append (RVs.cons ry RVs.nil)).mono E⟩) rfl
      · exact h.elim
    · exact h.elim
  · exact h.elim
def clearL : OpM
  | .ref n, [], S => match S[n]? with
    | some (.lst xs) => .ok .non (S.set n (.lst []))
    | _ => .no
  | _, _, _ => .no
theorem ml_clear : MtL K T rClear clearL := fun m S H v vs x xs Q W r rv rvs h => by
  unfold clearL at h
  split at h
  · rename_i n
    have := rvs.nilE
    subst this
    split at h
    · rename_i ys hn
      obtain ⟨a, zs, rfl, hm, ha, hs⟩ := rv.lst r hn
      refine ⟨a, zs, rfl, rfl, ha, ?_⟩
      have E : Ext m H m (upd H a (.lst [])) := Ext.write r (List.mem_of_getElem? hm) ha
      exact h m _ _ E (r.write hm ha ⟨_, upd_same, RVs.nil⟩) rfl
    · exact h.elim
  · exact h.elim
end
section
variable {X : Cx} {T : Env1} {ξ : Xi} {W : WX} {e a b c o : Expr} {es : List Expr} {pos cpos apos : Pos} {fa fb fc fo : LE} {ga : LA} {k : Nat}

end
/-! ### what nobody holds any more -/
mutual
/-- all numbers in it below n -/
def lowV (n : Nat) : LV → Bool
  | .ref k => decide (k < n)
  | .tup xs => lowVs n xs
  | .ktp xs => lowVs n xs
  | .lst xs => lowVs n xs
  | _ => true
def lowVs (n : Nat) : List LV → Bool
  | [] => true
  | v :: vs => lowV n v && lowVs n vs
end
def lowO (n : Nat) : LO → Bool
  | .lst xs => lowVs n xs
  | .dct kvs => lowVs n (kvs.map (·.2))
  | .dcT kvs => lowVs n (kvs.map (·.2))
  | .dck kvs => lowVs n (kvs.map (·.2))
  | .dcl kvs => lowVs n (kvs.map (·.2))
  | .ins _ fs => lowVs n fs
section
variable {K : PySem.W.Frag} {T : Env1} {m m1 m2 t : List Addr} {H H' : Hp} {S S' : Sto} {n : Nat}
mutual
theorem RV.low : ∀ {v : LV} {x : V}, RV K m H v x → lowV m.length v = true
  | .ref n, x, h => by
    unfold RV at h
    obtain ⟨a, _, hn⟩ := h
    exact decide_eq_true (List.getElem?_eq_some_iff.mp hn).1
  | .tup xs, x, h => by
    unfold RV at h
    obtain ⟨_, _, _, _, h⟩ := h
    exact RVs.low h
  | .ktp xs, x, h => by
    unfold RV at h
    obtain ⟨_, _, _, _, h⟩ := h
    exact RVs.low h
  | .lst xs, x, h => by
    unfold RV at h
    obtain ⟨_, _, _, _, _, h⟩ := h
    exact RVs.low h
  | .non, _, _ => rfl
  | .bl _, _, _ => rfl
  | .int _, _, _ => rfl
  | .str _, _, _ => rfl
  | .ty _, _, _ => rfl
  | .scr _, _, _ => rfl
  | .cls _, _, _ => rfl
  | .exc _ _, _, h => h.elim
theorem RVs.low : ∀ {vs : List LV} {xs : List V}, RVs K m H vs xs → lowVs m.length vs = true
  | [], _, _ => rfl
  | v :: vs, xs, h => by
    unfold RVs at h
    obtain ⟨_, _, _, h1, h2⟩ := h
    show (lowV m.length v && lowVs m.length vs) = true
    rw [RV.low h1, RVs.low h2]
    rfl
end
/-- fewer numbers -/
structure Sub (n : Nat) (m1 m2 : List Addr) : Prop where
  sub : ∀ a, a ∈ m2 → a ∈ m1
  get : ∀ k, k < n → m2[k]? = m1[k]?
theorem Sub.cut : Sub m.length (m ++ t) m := ⟨fun a h => List.mem_append_left _ h, fun k h => by rw [List.getElem?_append_left h]⟩
theorem Sub.one {a : Addr} (h : a ∈ m ++ t) : Sub m.length (m ++ t) (m ++ [a]) := ⟨fun b hb => by
  rcases List.mem_append.mp hb with hb | hb
  · exact List.mem_append_left _ hb
  · rw [List.mem_singleton.mp hb]; exact h, fun k h => by rw [List.getElem?_append_left h, List.getElem?_append_left h]⟩
mutual
theorem RV.cut (c : Sub n m1 m2) : ∀ {v : LV} {x : V}, RV K m1 H v x → lowV n v = true → RV K m2 H v x
  | .ref k, x, h, l => by
    unfold RV at h ⊢
    obtain ⟨a, e, hn⟩ := h
    exact ⟨a, e, (c.get k (of_decide_eq_true l)).trans hn⟩
  | .tup xs, x, h, l => by
    unfold RV at h ⊢
    obtain ⟨a, vs, e, ht, h⟩ := h
    exact ⟨a, vs, e, ht, RVs.cut c h l⟩
  | .ktp xs, x, h, l => by
    unfold RV at h ⊢
    obtain ⟨a, vs, e, ht, h⟩ := h
    exact ⟨a, vs, e, ht, RVs.cut c h l⟩
  | .lst xs, x, h, l => by
    unfold RV at h ⊢
    obtain ⟨a, vs, e, hm, ht, h⟩ := h
    exact ⟨a, vs, e, fun z => hm (c.sub a z), ht, RVs.cut c h l⟩
  | .non, _, h, _ => h
  | .bl _, _, h, _ => h
  | .int _, _, h, _ => h
  | .str _, _, h, _ => h
  | .ty _, _, h, _ => h
  | .scr _, _, h, _ => h
  | .cls _, _, h, _ => h
  | .exc _ _, _, h, _ => h
theorem RVs.cut (c : Sub n m1 m2) : ∀ {vs : List LV} {xs : List V}, RVs K m1 H vs xs → lowVs n vs = true → RVs K m2 H vs xs
  | [], _, h, _ => h
  | v :: vs, xs, h, l => by
    unfold RVs at h ⊢
    obtain ⟨y, r, e, h1, h2⟩ := h
    have l' : (lowV n v && lowVs n vs) = true := l
    rw [Bool.and_eq_true] at l'
    exact ⟨y, r, e, RV.cut c h1 l'.1, RVs.cut c h2 l'.2⟩
end
theorem RO.low {a : Addr} {o : LO} (h : RO K T m H a o) : lowO m.length o = true := by
  cases o with
  | lst xs => obtain ⟨vs, _, h2⟩ := h; exact h2.low
  | dct xs => obtain ⟨vs, _, _, h2⟩ := h; exact h2.low
  | dcT xs => obtain ⟨vs, _, _, h2⟩ := h; exact h2.low
  | dck xs => obtain ⟨_, vs, _, _, h2⟩ := h; exact h2.low
  | dcl xs => obtain ⟨_, vs, _, _, h2⟩ := h; exact h2.low
  | ins c xs => obtain ⟨_, vs, _, _, h2⟩ := h; exact h2.low
theorem RO.cut (c : Sub n m1 m2) {a : Addr} {o : LO} (h : RO K T m1 H a o) (l : lowO n o = true) : RO K T m2 H a o := by
  cases o with
  | lst xs => obtain ⟨vs, h1, h2⟩ := h; exact ⟨vs, h1, h2.cut c l⟩
  | dct xs => obtain ⟨vs, h1, h3, h2⟩ := h; exact ⟨vs, h1, h3, h2.cut c l⟩
  | dcT xs => obtain ⟨vs, h1, h3, h2⟩ := h; exact ⟨vs, h1, h3, h2.cut c l⟩
  | dck xs => obtain ⟨dx, vs, h1, h3, h2⟩ := h; exact ⟨dx, vs, h1, h3, h2.cut c l⟩
  | dcl xs => obtain ⟨dx, vs, h1, h3, h2⟩ := h; exact ⟨dx, vs, h1, h3, h2.cut c l⟩
  | ins k xs => obtain ⟨dx, vs, h1, h3, h2⟩ := h; exact ⟨dx, vs, h1, h3, h2.cut c l⟩
/-- younger lists (but p) become such that nobody changes -/
def frzV (S : Sto) (n p : Nat) : Nat → LV → Option LV
  | 0, v => if lowV n v = true then some v else none
  | f + 1, v => if lowV n v = true then some v else match v with
    | .ref k => if k = p then none else match S[k]? with
      | some (.lst xs) => match seqO (xs.map (frzV S n p f)) with
        | some ys => some (.lst ys)
        | none => none
      | _ => none
    | .tup xs => match seqO (xs.map (frzV S n p f)) with
      | some ys => some (.tup ys)
      | none => none
    | .lst xs => match seqO (xs.map (frzV S n p f)) with
      | some ys => some (.lst ys)
      | none => none
    | _ => none
theorem frz_low {S : Sto} {n p f : Nat} {v : LV} (h : lowV n v = true) : frzV S n p f v = some v := by
  cases f <;> (unfold frzV; rw [if_pos h])
theorem frzs_low {S : Sto} {n p f : Nat} : ∀ {vs : List LV}, lowVs n vs = true → seqO (vs.map (frzV S n p f)) = some vs
  | [], _ => rfl
  | v :: vs, h => by
    have h' : (lowV n v && lowVs n vs) = true := h
    rw [Bool.and_eq_true] at h'
    rw [List.map_cons, frz_low h'.1]
    unfold seqO
    rw [frzs_low h'.2]
structure Frz (n p : Nat) (m1 m2 : List Addr) : Prop extends Sub n m1 m2 where
  out : ∀ k a, n ≤ k → k ≠ p → m1[k]? = some a → a ∉ m2
theorem nd_out {m t : List Addr} (nd : (m ++ t).Nodup) {k : Nat} {a : Addr} (h : m.length ≤ k) (ha : (m ++ t)[k]? = some a) : a ∉ m := fun z => by
  obtain ⟨i, hi⟩ := List.mem_iff_getElem?.mp z
  have hi1 := (List.getElem?_eq_some_iff.mp hi).1
  have hi' : (m ++ t)[i]? = some a := by rw [List.getElem?_append_left hi1]; exact hi
  obtain ⟨l1, e1⟩ := List.getElem?_eq_some_iff.mp ha
  obtain ⟨l2, e2⟩ := List.getElem?_eq_some_iff.mp hi'
  have := (List.getElem_inj nd).mp (e1.trans e2.symm)
  omega
theorem Frz.cut {m t : List Addr} {p : Nat} (nd : (m ++ t).Nodup) : Frz m.length p (m ++ t) m := ⟨Sub.cut, fun k a hk _ ha => nd_out nd hk ha⟩
theorem Frz.one {m t : List Addr} {p : Nat} {a : Addr} (nd : (m ++ t).Nodup) (hp : (m ++ t)[p]? = some a) : Frz m.length p (m ++ t) (m ++ [a]) := ⟨Sub.one (List.mem_of_getElem? hp), fun k b hk hkp hb z => by
  rcases List.mem_append.mp z with z | z
  · exact nd_out nd hk hb z
  · rw [List.mem_singleton.mp z] at hb
    obtain ⟨l1, e1⟩ := List.getElem?_eq_some_iff.mp hb
    obtain ⟨l2, e2⟩ := List.getElem?_eq_some_iff.mp hp
    exact hkp ((List.getElem_inj nd).mp (e1.trans e2.symm))⟩
theorem frz_all {f p : Nat} {S : Sto} (ih : ∀ v w x, frzV S n p f v = some w → RV K m1 H v x → RV K m2 H w x) : ∀ (vs ws : List LV) (xs : List V), seqO (vs.map (frzV S n p f)) = some ws → RVs K m1 H vs xs → RVs K m2 H ws xs
  | [], ws, xs, e, h => by
    cases e
    have : xs = [] := by unfold RVs at h; exact h
    rw [this]
    exact RVs.nil
  | v :: vs, ws, xs, e, h => by
    unfold RVs at h
    obtain ⟨x, r, rfl, h1, h2⟩ := h
    rw [List.map_cons] at e
    cases q : frzV S n p f v with
    | none => rw [q] at e; cases e
    | some d =>
      rw [q] at e
      unfold seqO at e
      split at e
      · rename_i l hl
        cases e
        exact RVs.cons (ih v d x q h1) (frz_all ih vs l r hl h2)
      · cases e
theorem frz_ok {S' : Sto} {p : Nat} (r' : RelS K T m1 S' H) (c : Frz n p m1 m2) : ∀ (f : Nat) (v w : LV) (x : V), frzV S' n p f v = some w → RV K m1 H v x → RV K m2 H w x := by
  intro f
  induction f with
  | zero =>
    intro v w x e h
    unfold frzV at e
    split at e
    · rename_i l
      cases e
      exact h.cut c.toSub l
    · cases e
  | succ f ih =>
    intro v w x e h
    unfold frzV at e
    split at e
    · rename_i l
      cases e
      exact h.cut c.toSub l
    · rename_i nl
      split at e
      · rename_i k
        split at e
        · cases e
        · rename_i kp
          split at e
          · rename_i xs hk
            split at e
            · rename_i ys hy
              cases e
              obtain ⟨a, vs, rfl, hm, ha, hs⟩ := h.lst r' hk
              unfold RV
              refine ⟨a, vs, rfl, c.out k a ?_ kp hm, ha, frz_all ih xs ys vs hy hs⟩
              have : ¬ k < n := fun z => nl (decide_eq_true z)
              omega
            · cases e
          · cases e
      · rename_i xs
        split at e
        · rename_i ys hy
          cases e
          obtain ⟨a, vs, rfl, ha, hs⟩ := h.tupE
          unfold RV
          exact ⟨a, vs, rfl, ha, frz_all ih xs ys vs hy hs⟩
        · cases e
      · rename_i xs
        split at e
        · rename_i ys hy
          cases e
          obtain ⟨a, vs, rfl, na, ha, hs⟩ := h.lstE
          unfold RV
          exact ⟨a, vs, rfl, fun z => na (c.sub a z), ha, frz_all ih xs ys vs hy hs⟩
        · cases e
      · cases e
/-- the values of an object -/
def valsO : LO → List LV
  | .lst xs => xs
  | .dct kvs => kvs.map (·.2)
  | .dcT kvs => kvs.map (·.2)
  | .dck kvs => kvs.map (·.2)
  | .dcl kvs => kvs.map (·.2)
  | .ins _ vs => vs
def withO : LO → List LV → LO
  | .lst _, ys => .lst ys
  | .dct kvs, ys => .dct ((kvs.map (·.1)).zip ys)
  | .dcT kvs, ys => .dcT ((kvs.map (·.1)).zip ys)
  | .dck kvs, ys => .dck ((kvs.map (·.1)).zip ys)
  | .dcl kvs, ys => .dcl ((kvs.map (·.1)).zip ys)
  | .ins c _, ys => .ins c ys
def frzO (S : Sto) (n p f : Nat) (o : LO) : Option LO := if lowO n o = true then some o else match seqO ((valsO o).map (frzV S n p f)) with
  | some ys => some (withO o ys)
  | none => none
theorem seqO_len {α : Type} : ∀ {l : List (Option α)} {r : List α}, seqO l = some r → r.length = l.length
  | [], r, h => by cases h; rfl
  | none :: l, r, h => by cases h
  | some a :: l, r, h => by
    unfold seqO at h
    split at h
    · rename_i r' hr
      cases h
      rw [List.length_cons, List.length_cons, seqO_len hr]
    · cases h
theorem zip_fst {κ : Type} {ks : List κ} {ys : List LV} (h : ks.length = ys.length) : (ks.zip ys).map (·.1) = ks ∧ (ks.zip ys).map (·.2) = ys := by
  induction ks generalizing ys with
  | nil => cases ys with | nil => exact ⟨rfl, rfl⟩ | cons y ys => simp at h
  | cons k ks ih =>
    cases ys with
    | nil => simp at h
    | cons y ys =>
      obtain ⟨h1, h2⟩ := ih (ys := ys) (by simpa using h)
      exact ⟨by rw [List.zip_cons_cons, List.map_cons, h1], by rw [List.zip_cons_cons, List.map_cons, h2]⟩
theorem RO.frz {S' : Sto} {p f : Nat} {a : Addr} {o o' : LO} (r' : RelS K T m1 S' H) (c : Frz n p m1 m2) (e : frzO S' n p f o = some o') (h : RO K T m1 H a o) : RO K T m2 H a o' := by
  unfold frzO at e
  split at e
  · rename_i l
    cases e
    exact h.cut c.toSub l
  · split at e
    · rename_i ys hy
      cases e
      have hl := seqO_len hy
      rw [List.length_map] at hl
      have key := fun xs h => frz_all (frz_ok r' c f) (valsO o) ys xs hy h
      cases o with
      | lst xs => obtain ⟨vs, h1, h2⟩ := h; exact ⟨vs, h1, key vs h2⟩
      | dct kvs =>
        obtain ⟨vs, h1, h3, h2⟩ := h
        obtain ⟨z1, z2⟩ := zip_fst (ks := kvs.map (·.1)) (ys := ys) (by rw [hl]; simp [valsO])
        exact ⟨vs, h1, h3.trans z1.symm, by rw [z2]; exact key _ h2⟩
      | dcT kvs =>
        obtain ⟨vs, h1, h3, h2⟩ := h
        obtain ⟨z1, z2⟩ := zip_fst (ks := kvs.map (·.1)) (ys := ys) (by rw [hl]; simp [valsO])
        exact ⟨vs, h1, h3.trans z1.symm, by rw [z2]; exact key _ h2⟩
      | dck kvs =>
        obtain ⟨od, vs, h1, h3, h2⟩ := h
        obtain ⟨z1, z2⟩ := zip_fst (ks := kvs.map (·.1)) (ys := ys) (by rw [hl]; simp [valsO])
        exact ⟨od, vs, h1, h3.trans z1.symm, by rw [z2]; exact key _ h2⟩
      | dcl kvs =>
        obtain ⟨od, vs, h1, h3, h2⟩ := h
        obtain ⟨z1, z2⟩ := zip_fst (ks := kvs.map (·.1)) (ys := ys) (by rw [hl]; simp [valsO])
        exact ⟨od, vs, h1, h3.trans z1.symm, by rw [z2]; exact key _ h2⟩
      | ins k vs =>
        obtain ⟨dx, ws, h1, h3, h2⟩ := h
        have hl' : ys.length = vs.length := hl
        exact ⟨dx, ws, h1, by rw [hl']; exact h3, key _ h2⟩
    · cases e
end
open Classical in
/-- what the older objects are behind a call -/
noncomputable def gcO (S S' : Sto) (p i : Nat) : Option LO := if S'[i]? = S[i]? then S[i]? else match S'[i]? with
  | some o => frzO S' S.length p 60 o
  | none => none
noncomputable def gcS (S S' : Sto) (p : Nat) : Option Sto := seqO ((List.range S.length).map (gcO S S' p))
theorem seqO_get {α : Type} : ∀ {l : List (Option α)} {r : List α} {i : Nat}, seqO l = some r → i < l.length → l[i]? = some r[i]?
  | [], r, i, h, hi => by simp at hi
  | none :: l, r, i, h, hi => by cases h
  | some a :: l, r, i, h, hi => by
    unfold seqO at h
    split at h
    · rename_i r' hr
      cases h
      cases i with
      | zero => rfl
      | succ i => simpa using seqO_get (i := i) hr (by simpa using hi)
    · cases h
theorem seqO_of {α : Type} : ∀ {l : List (Option α)} {r : List α}, r.length = l.length → (∀ i, i < l.length → l[i]? = some r[i]?) → seqO l = some r
  | [], r, h, _ => by
    have : r = [] := List.eq_nil_of_length_eq_zero h
    rw [this]; rfl
  | o :: l, [], h, _ => by simp at h
  | o :: l, a :: r, h, k => by
    have h0 := k 0 (by simp)
    simp at h0
    subst h0
    unfold seqO
    rw [seqO_of (l := l) (r := r) (by simpa using h) fun i hi => by simpa using k (i + 1) (by simpa using hi)]
theorem gcS_get {S S' S2 : Sto} {p i : Nat} (h : gcS S S' p = some S2) (hi : i < S.length) : gcO S S' p i = S2[i]? ∧ S2.length = S.length := by
  have hl := seqO_len h
  simp at hl
  refine ⟨?_, hl⟩
  have := seqO_get (i := i) h (by simpa using hi)
  rw [List.getElem?_map, List.getElem?_range hi] at this
  exact Option.some.inj this
/-- how it is found -/
theorem gcS_of {S S' S2 : Sto} {p : Nat} (hl : S2.length = S.length) (h : ∀ i, i < S.length → (S'[i]? = S[i]? ∧ S2[i]? = S[i]?) ∨ ∃ o o', S'[i]? = some o ∧ S2[i]? = some o' ∧ frzO S' S.length p 60 o = some o' ∧ (o = o' ∨ S[i]? ≠ some o)) : gcS S S' p = some S2 := by
  refine seqO_of (by simpa using hl) fun i hi => ?_
  have hi' : i < S.length := by simpa using hi
  rw [List.getElem?_map, List.getElem?_range hi']
  show some (gcO S S' p i) = some S2[i]?
  congr 1
  unfold gcO
  rcases h i hi' with ⟨h1, h2⟩ | ⟨o, o', h1, h2, h3, h4⟩
  · rw [if_pos h1, h2]
  · split
    · rename_i e
      rcases h4 with rfl | h4
      · rw [h2, ← h1, e]
      · exact absurd (e.symm.trans h1) h4
    · rw [h1, h2]
      exact h3
section
variable {K : PySem.W.Frag} {T : Env1} {m m1 m2 t : List Addr} {H H' : Hp} {S S' S2 : Sto} {n p : Nat}
theorem RelS.old (r : RelS K T m S H) (E : Ext m H (m ++ t) H') (r' : RelS K T (m ++ t) S' H') (c : gcS S S' p = some S2) (hc : Frz m.length p (m ++ t) m2) {i : Nat} {a : Addr} {o : LO} (hi : i < m.length) (ha : m[i]? = some a) (ho : S2[i]? = some o) : RO K T m2 H' a o := by
  have hi' : i < S.length := by rw [← r.len]; exact hi
  have g := (gcS_get c hi').1
  rw [ho] at g
  have ha' : (m ++ t)[i]? = some a := by rw [List.getElem?_append_left hi]; exact ha
  unfold gcO at g
  split at g
  · rename_i e
    have l := (r.ob i a o ha g).low
    exact (r'.ob i a o ha' (e.trans g)).cut hc.toSub l
  · split at g
    · rename_i o1 h1
      refine RO.frz (f := 60) r' hc ?_ (r'.ob i a o1 ha' h1)
      rw [r.len]
      exact g
    · cases g
/-- the younger numbers are dropped -/
theorem RelS.cut (r : RelS K T m S H) (E : Ext m H (m ++ t) H') (r' : RelS K T (m ++ t) S' H') (c : gcS S S' p = some S2) : RelS K T m S2 H' ∧ Ext m H m H' := by
  have hlen : S2.length = S.length := by
    have := seqO_len c
    simpa using this
  exact ⟨⟨by rw [hlen, r.len], r.nd, fun n a o hn ho => r.old E r' c (Frz.cut r'.nd) (List.getElem?_eq_some_iff.mp hn).1 hn ho⟩, ⟨⟨[], by simp⟩, E.fr, fun a h n => absurd h n, E.tup, E.frz⟩⟩
/-- .. but for one -/
theorem RelS.cut1 (r : RelS K T m S H) (E : Ext m H (m ++ t) H') (r' : RelS K T (m ++ t) S' H') (c : gcS S S' p = some S2) {a : Addr} {o : LO} (hp : (m ++ t)[p]? = some a) (na : a ∉ m) (ho : RO K T (m ++ [a]) H' a o) :
    RelS K T (m ++ [a]) (S2 ++ [o]) H' ∧ Ext m H (m ++ [a]) H' := by
  have hlen : S2.length = m.length := by
    have := seqO_len c
    rw [r.len]
    simpa using this
  refine ⟨⟨by simp [hlen], ?_, fun n b u hn hu => ?_⟩, ⟨⟨[a], rfl⟩, E.fr, fun b h n => ?_, E.tup, E.frz⟩⟩
  · rw [List.nodup_append]
    refine ⟨r.nd, by simp, fun x hx b hb z => ?_⟩
    rw [List.mem_singleton.mp hb] at z
    exact na (z ▸ hx)
  · by_cases h : n < m.length
    · rw [List.getElem?_append_left h] at hn
      rw [List.getElem?_append_left (by rw [hlen]; exact h)] at hu
      exact r.old E r' c (Frz.one r'.nd hp) h hn hu
    · rw [List.getElem?_append_right (by omega)] at hn
      rw [List.getElem?_append_right (by omega)] at hu
      have e : n - m.length = 0 := by
        have := (List.getElem?_eq_some_iff.mp hn).1
        simp at this
        exact this
      rw [e] at hn
      rw [hlen, e] at hu
      simp at hn hu
      subst hn hu
      exact ho
  · rcases List.mem_append.mp h with h | h
    · exact absurd h n
    · rw [List.mem_singleton.mp h]
      exact E.new a (List.mem_of_getElem? hp) na
end
/-- what a call leaves: new objects that nobody reaches are dropped, lists told are such that nobody changes -/
noncomputable def gcF (S : Sto) : R → R
  | .ok v S' => match gcS S S' S'.length with
    | some S2 => match frzV S' S.length S'.length 60 v with
      | some w => .ok w S2
      | none => .ok v S'
    | none => .ok v S'
  | .ex c fs S' => match gcS S S' S'.length with
    | some S2 => if lowVs S.length fs = true then .ex c fs S2 else .ex c fs S'
    | none => .ex c fs S'
  | .no => .no
/-- .. but a list that is told has a number -/
noncomputable def gcT (S : Sto) : R → R
  | .ok v S' => match v with
    | .ref k => if S.length ≤ k then (match gcS S S' k with
      | some S2 => match S'[k]? with
        | some (.lst xs) => match seqO (xs.map (frzV S' S.length k 60)) with
          | some ys => .ok (.ref S.length) (S2 ++ [.lst ys])
          | none => .ok v S'
        | _ => .ok v S'
      | none => .ok v S') else .ok v S'
    | .tup vs => .ok (.tup vs) S'
    | .non => .ok .non S'
    | _ => gcF S (.ok v S')
  | r => gcF S r
noncomputable def gcG (t : Bool) (S : Sto) (r : R) : R := if t = true then gcT S r else gcF S r
theorem frzO_low {S : Sto} {n p f : Nat} {o : LO} (h : lowO n o = true) : frzO S n p f o = some o := by unfold frzO; rw [if_pos h]
/-- the older objects stay, or hold older ones alone -/
def SameLow (S S' : Sto) : Prop := S.length ≤ S'.length ∧ ∀ i, i < S.length → S'[i]? = S[i]? ∨ ∃ o, S'[i]? = some o ∧ lowO S.length o = true
theorem lw_app {S U : Sto} : SameLow S (S ++ U) := ⟨by simp, fun i hi => .inl (List.getElem?_append_left hi)⟩
theorem lw_refl {S : Sto} : SameLow S S := ⟨Nat.le_refl _, fun i hi => .inl rfl⟩
theorem lw_set {S S' : Sto} {n : Nat} {o : LO} (h : SameLow S S') (l : lowO S.length o = true) : SameLow S (S'.set n o) := ⟨by rw [List.length_set]; exact h.1, fun i hi => by
  by_cases e : n = i
  · subst e
    exact .inr ⟨o, List.getElem?_set_self (Nat.lt_of_lt_of_le hi h.1), l⟩
  · rw [List.getElem?_set_ne e]
    exact h.2 i hi⟩
theorem lw_more {S S' U : Sto} (h : SameLow S S') : SameLow S (S' ++ U) := ⟨by rw [List.length_append]; exact Nat.le_trans h.1 (Nat.le_add_right _ _), fun i hi => by
  rw [List.getElem?_append_left (Nat.lt_of_lt_of_le hi h.1)]
  exact h.2 i hi⟩
theorem gcS_low {S S' : Sto} {p : Nat} (c : SameLow S S') : gcS S S' p = some (S'.take S.length) := gcS_of (by rw [List.length_take, Nat.min_eq_left c.1]) fun i hi => by
  rw [List.getElem?_take_of_lt hi]
  rcases c.2 i hi with e | ⟨o, e, l⟩
  · exact .inl ⟨e, e⟩
  · exact .inr ⟨o, o, e, e, frzO_low l, .inl rfl⟩
theorem gcF_ok {S S' : Sto} {v : LV} (c : SameLow S S') (h : lowV S.length v = true) : gcF S (.ok v S') = .ok v (S'.take S.length) := by
  unfold gcF
  simp only
  rw [gcS_low c, frz_low h]
/-- one older object has got new lists -/
theorem gcF_set {S U : Sto} {n : Nat} {o o' : LO} {v : LV} (hn : n < S.length) (hne : S[n]? ≠ some o ∨ o = o') (hf : frzO (S.set n o ++ U) S.length (S.set n o ++ U).length 60 o = some o') (h : lowV S.length v = true) : gcF S (.ok v (S.set n o ++ U)) = .ok v (S.set n o') := by
  have c : gcS S (S.set n o ++ U) (S.set n o ++ U).length = some (S.set n o') := gcS_of (by simp) fun i hi => by
    rw [List.getElem?_append_left (by simpa using hi)]
    by_cases e : n = i
    · subst e
      rw [List.getElem?_set_self hn, List.getElem?_set_self hn]
      exact .inr ⟨o, o', rfl, rfl, hf, hne.symm⟩
    · rw [List.getElem?_set_ne e, List.getElem?_set_ne e]
      exact .inl ⟨rfl, rfl⟩
  unfold gcF
  simp only
  rw [c, frz_low h]
theorem gc_low {S U : Sto} {v : LV} (h : lowV S.length v = true) : gcF S (.ok v (S ++ U)) = .ok v S := by
  rw [gcF_ok lw_app h, List.take_left']; rfl
theorem gc_low0 {S : Sto} {v : LV} (h : lowV S.length v = true) : gcF S (.ok v S) = .ok v S := by
  rw [gcF_ok lw_refl h, List.take_length]
/-- as many objects, the older ones changed -/
theorem gc_chg {S S' U : Sto} {v : LV} (c : SameLow S S') (hl : S'.length = S.length) (h : lowV S.length v = true) : gcF S (.ok v (S' ++ U)) = .ok v S' := by
  rw [gcF_ok (lw_more c) h, ← hl, List.take_left']; rfl
theorem gc_chg0 {S S' : Sto} {v : LV} (c : SameLow S S') (hl : S'.length = S.length) (h : lowV S.length v = true) : gcF S (.ok v S') = .ok v S' := by
  rw [gcF_ok c h, ← hl, List.take_length]
theorem gc_frz {S U : Sto} {xs : List LV} {k : Nat} (hk : U[k]? = some (.lst xs)) (l : lowVs S.length xs = true) : gcF S (.ok (.ref (S.length + k)) (S ++ U)) = .ok (.lst xs) S := by
  unfold gcF
  simp only
  rw [gcS_low lw_app]
  have hx : (S ++ U)[S.length + k]? = some (.lst xs) := by rw [List.getElem?_append_right (Nat.le_add_right _ _), Nat.add_sub_cancel_left]; exact hk
  have : frzV (S ++ U) S.length (S ++ U).length 60 (.ref (S.length + k)) = some (.lst xs) := by
    unfold frzV
    rw [if_neg (by simp [lowV])]
    simp only
    rw [if_neg (by have := (List.getElem?_eq_some_iff.mp hx).1; omega), hx]
    simp only
    rw [frzs_low l]
  rw [this]
  simp only
  rw [List.take_left']; rfl
theorem gc_frz0 {S U : Sto} {xs : List LV} (hk : U[0]? = some (.lst xs)) (l : lowVs S.length xs = true) : gcF S (.ok (.ref S.length) (S ++ U)) = .ok (.lst xs) S := gc_frz (k := 0) hk l
theorem gc_ex {S U : Sto} {c : Nat} {fs : List LV} (h : lowVs S.length fs = true) : gcF S (.ex c fs (S ++ U)) = .ex c fs S := by
  unfold gcF
  simp only
  rw [gcS_low lw_app]
  simp only
  rw [if_pos h, List.take_left']; rfl
theorem gc_ex0 {S : Sto} {c : Nat} {fs : List LV} (h : lowVs S.length fs = true) : gcF S (.ex c fs S) = .ex c fs S := by
  have := gc_ex (S := S) (U := []) (c := c) h
  rwa [List.append_nil] at this
theorem gcT_new {S U : Sto} {xs : List LV} {k : Nat} (hk : U[k]? = some (.lst xs)) (l : lowVs S.length xs = true) : gcT S (.ok (.ref (S.length + k)) (S ++ U)) = .ok (.ref S.length) (S ++ [.lst xs]) := by
  unfold gcT
  simp only
  rw [if_pos (Nat.le_add_right _ _), gcS_low lw_app]
  have hx : (S ++ U)[S.length + k]? = some (.lst xs) := by rw [List.getElem?_append_right (Nat.le_add_right _ _), Nat.add_sub_cancel_left]; exact hk
  rw [hx]
  simp only
  rw [frzs_low l]
  simp only
  rw [List.take_left']; rfl
theorem gcT_new0 {S U : Sto} {xs : List LV} (hk : U[0]? = some (.lst xs)) (l : lowVs S.length xs = true) : gcT S (.ok (.ref S.length) (S ++ U)) = .ok (.ref S.length) (S ++ [.lst xs]) := gcT_new (k := 0) hk l
section
variable {K : PySem.W.Frag} {T : Env1} {m t : List Addr} {H H' : Hp} {S S' : Sto} {Q : VK} {W : XK}
theorem gcF_sound {r : R} (r0 : RelS K T m S H) (h : PoE K T m H (gcF S r) Q W) : PoE K T m H r Q W := by
  cases r with
  | no => exact h
  | ok v S' =>
    unfold gcF at h
    simp only at h
    split at h
    · rename_i S2 c
      split at h
      · rename_i w hw
        intro m' H' x E r' rv
        obtain ⟨t, rfl⟩ := E.pre
        obtain ⟨r1, E1⟩ := r0.cut E r' c
        exact h m H' x E1 r1 (frz_ok r' (Frz.cut r'.nd) 60 v w x (by rw [r0.len]; exact hw) rv)
      · exact h
    · exact h
  | ex c fs S' =>
    unfold gcF at h
    simp only at h
    split at h
    · rename_i S2 hc
      split at h
      · rename_i hu
        intro m' H' cls d E r' rx
        obtain ⟨t, rfl⟩ := E.pre
        obtain ⟨r1, E1⟩ := r0.cut E r' hc
        refine h m H' cls d E1 r1 ⟨rx.1, ?_⟩
        rcases rx.2 with q | ⟨v, x, dd, q, q1, q2, q3, q4⟩
        · exact .inl q
        · refine .inr ⟨v, x, dd, q, q1, fun z => q2 (List.mem_append_left _ z), q3, q4.cut Sub.cut ?_⟩
          have l := hu
          rw [q] at l
          have l' : (lowV S.length v && true) = true := l
          rw [Bool.and_true] at l'
          rw [r0.len]; exact l'
      · exact h
    · exact h
theorem gcT_sound {r : R} (r0 : RelS K T m S H) (h : PoE K T m H (gcT S r) Q W) : PoE K T m H r Q W := by
  unfold gcT at h
  split at h
  · rename_i v S'
    split at h
    · rename_i k
      split at h
      · rename_i hk0
        split at h
        · rename_i S2 c
          split at h
          · rename_i xs hk
            split at h
            · rename_i ys hy
              intro m' H' x E r' rv
              obtain ⟨t, rfl⟩ := E.pre
              obtain ⟨a, vs, rfl, hm, ha, hs⟩ := rv.lst r' hk
              have na : a ∉ m := nd_out r'.nd (by rw [r0.len]; exact hk0) hm
              have q1' : RVs K (m ++ [a]) H' ys vs := frz_all (frz_ok r' (Frz.one r'.nd hm) 60) xs ys vs (by rw [r0.len]; exact hy) hs
              obtain ⟨r1, E1⟩ := r0.cut1 (o := .lst ys) E r' c hm na ⟨vs, ha, q1'⟩
              refine h _ H' _ E1 r1 ?_
              unfold RV
              have hl2 : S2.length = S.length := by
                have := seqO_len c
                simpa using this
              exact ⟨a, rfl, by rw [← r0.len, List.getElem?_append_right (Nat.le_refl _), Nat.sub_self] <;> rfl⟩
            · exact h
          · exact h
        · exact h
      · exact h
    · exact h
    · exact h
    · exact gcF_sound r0 h
  · exact gcF_sound r0 h
end
section
variable {X : Cx} {T : Env1} {ξ : Xi} {W : WX} {e a b c o : Expr} {es : List Expr} {pos cpos apos : Pos} {fa fb fc fo : LE} {ga : LA} {k : Nat}

/-! ### calls of the text's own defs -/
def fin : RS → R
  | .nx _ S => .ok .non S
  | .rt v S => .ok v S
  | .ex c fs _ S => .ex c fs S
  | _ => .no
/-- a def of n parameters and so many names -/
noncomputable def mkFnG (t : Bool) (n N : Nat) (g : LS) : Fn := fun xs S => if xs.length = n then gcG t S (fin (g (xs.map some ++ List.replicate (N - n) none) S)) else .no
noncomputable abbrev mkFn := mkFnG false
noncomputable abbrev mkFnT := mkFnG true
theorem gcG_sound {K : PySem.W.Frag} {T : Env1} {m : List Addr} {H : Hp} {S : Sto} {Q : VK} {W : XK} {t : Bool} {r : R} (r0 : RelS K T m S H) (h : PoE K T m H (gcG t S r) Q W) : PoE K T m H r Q W := by
  cases t with
  | true => exact gcT_sound r0 h
  | false => exact gcF_sound r0 h
def lCall (g : Fn) (fa : LA) : LE := fun ds S => (fa ds S).bind g
abbrev ξ0 : Xi := fun _ _ _ => False
abbrev WF : WX := fun _ _ _ _ => False
def spF (K : PySem.W.Frag) (T : Env1) (g : Fn) : Sp := fun vs H Q E => ∃ m S xs, RelS K T m S H ∧ RVs K m H xs vs ∧ PoE K T m H (g xs S) Q E
theorem pl_call {f : Addr} {fd : FuncData} {ps : List Str} {x : Str} {p : Pos} {g : Fn} (F : FnOk X.prog X.w X.K X.mg X.base (L2N.CX X.prog X.w) k f fd ps (spF X.K T g)) (tk : L2N.Takes X W) (hr : Room k X.A) (hg : Gl X x) (hm : X.mg x = some (.ref f)) (hk : PySem.W.keepIn X.K (.ref f) = true) (hb : Binds X.K fd ps [])
    (ha : PA X (e :: es) (tLA X.K T ξ W ga)) (hdb : (x == ("__debug__" : Str)) = false := by decide) (he : starEach (e :: es) X.env = (false, eval e X.env) :: starEach es X.env := by rfl) (hpl : (backTo pos (starEach es X.env)).any (·.1) = false := by rfl) :
    PE X (.Call (.Name x p) (e :: es) [] pos) (tL X.K T ξ W (lCall g ga)) :=
  pe_imp (pe_callS F hr hg hm hk hb (E := WE W) (fun σ => L2N.passAt tk σ) ha hdb he hpl) fun σ H Q ⟨m, S, ds, r0, rs, h⟩ => tLA.bind r0 rs h fun vs S1 m1 H1 xs E r1 rs1 rv h1 => ⟨m1, S1, vs, r1, rv, h1⟩
theorem pl_call0 {f : Addr} {fd : FuncData} {ps : List Str} {x : Str} {p : Pos} {g : Fn} (F : FnOk X.prog X.w X.K X.mg X.base (L2N.CX X.prog X.w) k f fd ps (spF X.K T g)) (tk : L2N.Takes X W) (hr : Room k X.A) (hg : Gl X x) (hm : X.mg x = some (.ref f)) (hk : PySem.W.keepIn X.K (.ref f) = true) (hb : Binds X.K fd ps [])
    (hdb : (x == ("__debug__" : Str)) = false := by decide) :
    PE X (.Call (.Name x p) [] [] pos) (tL X.K T ξ W (lCall g lNil)) := ⟨fun pins s σ H Q I ⟨m, S, ds, r0, rs, h⟩ => by
  refine wpAny_Call_Name_kw (ld_glob I hg hm ?_ hdb)
  exact PySem.W.callWith_K0 I.kIn hk (run_fnS (us := []) F hr hb (E := WE W) (L2N.passAt tk σ) I .nil ⟨m, S, [], r0, RVs.nil, h⟩)⟩
end

/-! ### statements -/
def bindS (r : R) (ds : Sl) (k : LV → Sto → RS) : RS := match r with
  | .ok v S => k v S
  | .ex c fs S => .ex c fs ds S
  | .no => .no
def seqK (b : LS) : RS → RS
  | .nx ds S => b ds S
  | r => r
def lSeq (a b : LS) : LS := fun ds S => seqK b (a ds S)
def lNx : LS := fun ds S => .nx ds S
def lDrop (fe : LE) : LS := fun ds S => bindS (fe ds S) ds fun _ S1 => .nx ds S1
def lRet (fe : LE) : LS := fun ds S => bindS (fe ds S) ds fun v S1 => .rt v S1
def lRetN : LS := fun _ S => .rt .non S
def lBrk : LS := fun ds S => .bk ds S
def lCnt : LS := fun ds S => .ct ds S
def iteS (r r' : Sto → RS) : LV → Sto → RS
  | .bl true, S => r S
  | .bl false, S => r' S
  | _, _ => .no
def lIf (fc : LE) (a b : LS) : LS := fun ds S => bindS (fc ds S) ds (iteS (fun S1 => a ds S1) fun S1 => b ds S1)
/-- a target: what the slots are behind it -/
abbrev LG := LV → Sto → Sl → Option Sl
def gNm (i : Nat) : LG := fun v _ ds => some (ds.set i (some v))
abbrev LGs := List LV → Sto → Sl → Option Sl
def gsNil : LGs := fun vs _ ds => match vs with
  | [] => some ds
  | _ => none
def gsCons (g : LG) (gs : LGs) : LGs := fun vs S ds => match vs with
  | v :: r => match g v S ds with
    | some ds1 => gs r S ds1
    | none => none
  | [] => none
def gTp (gs : LGs) : LG := fun v S ds => match v with
  | .tup xs => gs xs S ds
  | .ktp xs => gs xs S ds
  | .lst xs => gs xs S ds
  | .ref n => match S[n]? with
    | some (.lst xs) => gs xs S ds
    | _ => none
  | _ => none
def asgK (g : LG) (ds : Sl) : LV → Sto → RS := fun v S => match g v S ds with
  | some ds1 => .nx ds1 S
  | none => .no
def lAsg (fe : LE) (g : LG) : LS := fun ds S => bindS (fe ds S) ds (asgK g ds)
def tGL (K : PySem.W.Frag) (T : Env1) (ξ : Xi) (g : LG) : TG := fun x σ H Q => ∃ m S v ds ds', RelS K T m S H ∧ RSl K ξ m H ds σ ∧ RV K m H v x ∧ g v S ds = some ds' ∧ ∀ σ', RSl K ξ m H ds' σ' → Q σ' H
def tGLs (K : PySem.W.Frag) (T : Env1) (ξ : Xi) (g : LGs) : TGs := fun xs σ H Q => ∃ m S vs ds ds', RelS K T m S H ∧ RSl K ξ m H ds σ ∧ RVs K m H vs xs ∧ g vs S ds = some ds' ∧ ∀ σ', RSl K ξ m H ds' σ' → Q σ' H
section
variable {X : Cx} {T : Env1} {ξ : Xi} {W : WX} {e c : Expr} {es : List Expr} {st : Stmt} {sts sb : List Stmt} {pos : Pos} {fe fc : LE} {a b : LS} {lg : LG} {lgs : LGs} {k : Nat}
theorem ps_imp {t t' : TS} (h : PS X st t) (i : ∀ D σ H, t' D σ H → t D σ H) : PS X st t' := ⟨fun pins s σ H D I q => h.run pins s σ H D I (i D σ H q)⟩
theorem pss_imp {t t' : TS} (h : PSs X sts t) (i : ∀ D σ H, t' D σ H → t D σ H) : PSs X sts t' := ⟨fun pins s σ H D I q => h.run pins s σ H D I (i D σ H q)⟩
theorem pg_imp {t t' : TG} (h : PG X e t) (i : ∀ x σ H Q, t' x σ H Q → t x σ H Q) : PG X e t' := ⟨fun pins s σ H v u Q I r q => h.run pins s σ H v u Q I r (i v σ H Q q)⟩
theorem pgs_imp {t t' : TGs} (h : PGs X es t) (i : ∀ x σ H Q, t' x σ H Q → t x σ H Q) : PGs X es t' := ⟨fun pins s σ H v u Q I r q => h.run pins s σ H v u Q I r (i v σ H Q q)⟩
/-- an expression in a statement -/
theorem tL.bindS {σ : L2.St} {m : List Addr} {S : Sto} {H : Hp} {ds : Sl} {k : LV → Sto → RS} {D : Ends} (r : RelS X.K T m S H) (rs : RSl X.K ξ m H ds σ) (h : PoS X.K T ξ m H (LL.bindS (fe ds S) ds k) D W) {Q2 : VK}
    (hq : ∀ v S1 m1 H1 x, Ext m H m1 H1 → RelS X.K T m1 S1 H1 → RSl X.K ξ m1 H1 ds σ → RV X.K m1 H1 v x → PoS X.K T ξ m1 H1 (k v S1) D W → Q2 x H1) : tL X.K T ξ W fe σ H Q2 := by
  refine ⟨m, S, ds, r, rs, ?_⟩
  cases e : fe ds S with
  | ok v S1 =>
    rw [e] at h
    exact fun m1 H1 x E r1 rv => hq v S1 m1 H1 x E r1 (rs.mono E) rv (PoS.mono E h)
  | ex c fs S1 =>
    rw [e] at h
    exact fun m1 H1 cls d E r1 rx => h m1 H1 σ cls d E r1 (rs.mono E) rx
  | no =>
    rw [e] at h
    exact h
theorem sl_nil : PSs X [] (tLS X.K T ξ W lNx) := pss_imp pss_nil fun D σ H ⟨m, S, ds, r, rs, h⟩ => h m H σ Ext.refl r rs
theorem sl_cons (h1 : PS X st (tLS X.K T ξ W a)) (h2 : PSs X sts (tLS X.K T ξ W b)) : PSs X (st :: sts) (tLS X.K T ξ W (lSeq a b)) := pss_imp (pss_cons h1 h2) fun D σ H ⟨m, S, ds, r, rs, h⟩ => by
  refine ⟨m, S, ds, r, rs, ?_⟩
  unfold lSeq at h
  cases e : a ds S with
  | nx ds1 S1 =>
    rw [e] at h
    exact fun m1 H1 σ1 E r1 rs1 => ⟨m1, S1, ds1, r1, rs1, PoS.mono E h⟩
  | rt v S1 => rw [e] at h; exact h
  | bk ds1 S1 => rw [e] at h; exact h
  | ct ds1 S1 => rw [e] at h; exact h
  | ex c fs ds1 S1 => rw [e] at h; exact h
  | no => rw [e] at h; exact h
theorem sl_one (h : PS X st (tLS X.K T ξ W a)) : PSs X [st] (tLS X.K T ξ W a) := pss_one h
theorem sl_pass : PS X (.Pass pos) (tLS X.K T ξ W lNx) := ps_imp ps_pass fun D σ H ⟨m, S, ds, r, rs, h⟩ => h m H σ Ext.refl r rs
theorem sl_break : PS X (.Break pos) (tLS X.K T ξ W lBrk) := ps_imp ps_break fun D σ H ⟨m, S, ds, r, rs, h⟩ => h m H σ Ext.refl r rs
theorem sl_continue : PS X (.Continue pos) (tLS X.K T ξ W lCnt) := ps_imp ps_continue fun D σ H ⟨m, S, ds, r, rs, h⟩ => h m H σ Ext.refl r rs
theorem sl_expr (he : PE X e (tL X.K T ξ W fe)) (hs : swapsWith e none pos.line X.env = pure false := by rfl) : PS X (.Expr e pos) (tLS X.K T ξ W (lDrop fe)) :=
  ps_imp (ps_expr he hs) fun D σ H ⟨m, S, ds, r, rs, h⟩ => tL.bindS r rs h fun v S1 m1 H1 x E r1 rs1 rv h1 => h1 m1 H1 σ Ext.refl r1 rs1
theorem sl_ret (he : PE X e (tL X.K T ξ W fe)) : PS X (.Return (some e) pos) (tLS X.K T ξ W (lRet fe)) :=
  ps_imp (ps_ret he) fun D σ H ⟨m, S, ds, r, rs, h⟩ => tL.bindS r rs h fun v S1 m1 H1 x E r1 rs1 rv h1 => h1 m1 H1 x Ext.refl r1 rv
theorem sl_retN : PS X (.Return none pos) (tLS X.K T ξ W lRetN) := ps_imp ps_retN fun D σ H ⟨m, S, ds, r, rs, h⟩ => h m H .non Ext.refl r rfl
theorem sl_if (hc : PT X c (tTest (tL X.K T ξ W fc))) (ha : PSs X sts (tLS X.K T ξ W a)) (hb : PSs X sb (tLS X.K T ξ W b)) : PS X (.If c sts sb pos) (tLS X.K T ξ W (lIf fc a b)) :=
  ps_imp (ps_if hc ha hb) fun D σ H ⟨m, S, ds, r, rs, h⟩ => tL.bindS r rs h fun v S1 m1 H1 x E r1 rs1 rv h1 => by
    cases v with
    | bl k =>
      refine ⟨k, rv, ?_⟩
      cases k with
      | true => exact ⟨_, _, _, r1, rs1, h1⟩
      | false => exact ⟨_, _, _, r1, rs1, h1⟩
    | _ => exact h1.elim
theorem gl_name (i : Nat) {x : Str} (hN : X.N.Nodup) (hi : X.N[i]? = some x := by rfl) (hx : Loc X.env.scope x := by first | exact Or.inl rfl | exact Or.inr rfl) (hf : X.fn x = true ∨ X.env.scope.names.lookup x = some .local := by first | exact .inl rfl | exact .inr rfl | assumption) :
    PG X (.Name x pos) (tGL X.K T ξ (gNm i)) := pg_imp (pg_name hN hi hx hf) fun x σ H Q ⟨m, S, v, ds, ds', r, rs, rv, e, q⟩ => by
  cases e
  exact q _ (rs.set i (RVx.of rv))
theorem gsl_nil : PGs X [] (tGLs X.K T ξ gsNil) := pgs_imp pgs_nil fun x σ H Q ⟨m, S, vs, ds, ds', r, rs, rv, e, q⟩ => by
  cases vs with
  | nil =>
    cases e
    exact ⟨rv.nilE, q σ rs⟩
  | cons v r => cases e
theorem gsl_cons {e : Expr} {es : List Expr} (h1 : PG X e (tGL X.K T ξ lg)) (h2 : PGs X es (tGLs X.K T ξ lgs)) (hs : (assignEach (e :: es) X.env).map (·.2) = assign e X.env :: (assignEach es X.env).map (·.2) := by rfl) : PGs X (e :: es) (tGLs X.K T ξ (gsCons lg lgs)) :=
  pgs_imp (pgs_cons h1 h2 hs) fun xs σ H Q ⟨m, S, vs, ds, ds', r, rs, rv, e, q⟩ => by
    cases vs with
    | nil => cases e
    | cons v vr =>
      unfold RVs at rv
      obtain ⟨y, ys, rfl, h1, h2⟩ := rv
      unfold gsCons at e
      simp only at e
      split at e
      · rename_i ds1 hd
        exact ⟨y, ys, rfl, m, S, v, ds, ds1, r, rs, h1, hd, fun σ1 rs1 => ⟨m, S, vr, ds1, ds', r, rs1, h2, e, q⟩⟩
      · cases e
theorem pg_or {t1 t2 : TG} (h1 : PG X e t1) (h2 : PG X e t2) : PG X e (fun x σ H Q => t1 x σ H Q ∨ t2 x σ H Q) := ⟨fun pins s σ H v u Q I r q => q.elim (h1.run pins s σ H v u Q I r) (h2.run pins s σ H v u Q I r)⟩
theorem gl_tup {es : List Expr} {j : Nat} (n : Nat) (hc : X.calm = true) (h : PGs X es (tGLs X.K T ξ lgs)) (hl : ∀ vs S ds ds', lgs vs S ds = some ds' → vs.length = n)
    (hn : (assignEach es X.env).length = n := by rfl) (hst : (assignEach es X.env).findIdx? (·.1) = none := by rfl) : PG X (.Tuple es j pos) (tGL X.K T ξ (gTp lgs)) :=
  pg_imp (pg_or (pg_tup hc h hn hst) (pg_unl hc h hn hst)) fun x σ H Q ⟨m, S, v, ds, ds', r, rs, rv, e, q⟩ => by
    unfold gTp at e
    split at e
    · obtain ⟨a, vs, rfl, ht, hs⟩ := rv.tupE
      exact .inl ⟨a, vs, rfl, SqT.of ht, by rw [← hs.len]; exact hl _ _ _ _ e, m, S, _, ds, ds', r, rs, hs, e, q⟩
    · unfold RV at rv
      obtain ⟨a, vs, rfl, ht, hs⟩ := rv
      exact .inl ⟨a, vs, rfl, ht _, by rw [← hs.len]; exact hl _ _ _ _ e, m, S, _, ds, ds', r, rs, hs, e, q⟩
    · obtain ⟨a, vs, rfl, na, ht, hs⟩ := rv.lstE
      exact .inr ⟨a, vs, rfl, SqL.of ht, by rw [← hs.len]; exact hl _ _ _ _ e, m, S, _, ds, ds', r, rs, hs, e, q⟩
    · split at e
      · rename_i hn2
        obtain ⟨a, zs, rfl, _, ha, hs⟩ := RV.lst r rv hn2
        exact .inr ⟨a, zs, rfl, SqL.of ha, by rw [← hs.len]; exact hl _ _ _ _ e, m, S, _, ds, ds', r, rs, hs, e, q⟩
      · cases e
    · cases e
theorem gs_len0 : ∀ vs S ds ds', gsNil vs S ds = some ds' → vs.length = 0 := fun vs S ds ds' e => by
  cases vs with
  | nil => rfl
  | cons v r => cases e
theorem gs_len1 {n : Nat} (h : ∀ vs S ds ds', lgs vs S ds = some ds' → vs.length = n) : ∀ vs S ds ds', gsCons lg lgs vs S ds = some ds' → vs.length = n + 1 := fun vs S ds ds' e => by
  cases vs with
  | nil => cases e
  | cons v r =>
    unfold gsCons at e
    simp only at e
    split at e
    · rw [List.length_cons, h _ _ _ _ e]
    · cases e
theorem sl_asg {tg : Expr} (he : PE X e (tL X.K T ξ W fe)) (hg : PG X tg (tGL X.K T ξ lg)) (hs : swapsWithSole [tg] e pos.line X.env = pure false := by rfl) (hw : swappedStores [tg] e X.env = pure none := by rfl)
    (h1 : (assignEach [tg] X.env).map (·.2) = [assign tg X.env] := by rfl) : PS X (.Assign [tg] e pos) (tLS X.K T ξ W (lAsg fe lg)) :=
  ps_imp (ps_asg he hg hs hw h1) fun D σ H ⟨m, S, ds, r, rs, h⟩ => tL.bindS r rs h fun v S1 m1 H1 x E r1 rs1 rv h1 => by
    unfold asgK at h1
    split at h1
    · rename_i ds1 hd
      exact ⟨m1, S1, v, ds, ds1, r1, rs1, rv, hd, fun σ' rs' => h1 m1 H1 σ' Ext.refl r1 rs'⟩
    · exact h1.elim
theorem sl_set (i : Nat) {x : Str} {pos' : Pos} (hN : X.N.Nodup) (he : PE X e (tL X.K T ξ W fe)) (hi : X.N[i]? = some x := by rfl) (hx : Loc X.env.scope x := by first | exact Or.inl rfl | exact Or.inr rfl) (hs : swapsWith e (some (.Name x pos')) pos.line X.env = pure false := by rfl)
    (hf : X.fn x = true ∨ X.env.scope.names.lookup x = some .local := by first | exact .inl rfl | exact .inr rfl | assumption) : PS X (.Assign [.Name x pos'] e pos) (tLS X.K T ξ W (lAsg fe (gNm i))) :=
  ps_imp (ps_set hN hi hx he hs hf) fun D σ H ⟨m, S, ds, r, rs, h⟩ => tL.bindS r rs h fun v S1 m1 H1 x E r1 rs1 rv h1 => h1 m1 H1 _ Ext.refl r1 (rs1.set i (RVx.of rv))

/-! ### while -/
def whK (fc : LE) (fb : LS) : Nat → Sl → Sto → RS
  | 0, _, _ => .no
  | n + 1, ds, S => bindS (fc ds S) ds (iteS (fun S1 => match fb ds S1 with
    | .nx ds2 S2 => whK fc fb n ds2 S2
    | .ct ds2 S2 => whK fc fb n ds2 S2
    | .bk ds2 S2 => .nx ds2 S2
    | r => r) fun S1 => .nx ds S1)
def lWh (n : Nat) (fc : LE) (fb : LS) : LS := whK fc fb n
theorem sl_while (n : Nat) (hp : PassesOwn (model X.prog X.w) X.A X.env X.xe) (hc : PT X c (tTest (tL X.K T ξ W fc))) (hb : PSs X sts (tLS X.K T ξ W b)) : PS X (.While c sts [] pos) (tLS X.K T ξ W (lWh n fc b)) :=
  ps_imp (ps_while hp hc hb) fun D σ H ⟨m, S, ds, r, rs, h⟩ => by
    refine ⟨fun j σ' H' => ∃ m' S' ds', RelS X.K T m' S' H' ∧ RSl X.K ξ m' H' ds' σ' ∧ PoS X.K T ξ m' H' (whK fc b j ds' S') D W, ⟨n, m, S, ds, r, rs, h⟩, ?_⟩
    rintro j σ' H' ⟨m', S', ds', r', rs', h'⟩
    cases j with
    | zero => exact h'.elim
    | succ j =>
      unfold whK at h'
      refine tL.bindS r' rs' h' fun v S1 m1 H1 x E r1 rs1 rv h1 => ?_
      cases v with
      | bl k =>
        refine ⟨k, rv, ?_⟩
        cases k with
        | true =>
          refine ⟨fun σ2 H2 => ∃ m' S' ds', RelS X.K T m' S' H2 ∧ RSl X.K ξ m' H2 ds' σ2 ∧ PoS X.K T ξ m' H2 (whK fc b j ds' S') D W, fun σ2 H2 q => ⟨j, Nat.lt_succ_self j, q⟩, m1, S1, ds', r1, rs1, ?_⟩
          change PoS X.K T ξ m1 H1 (match b ds' S1 with
            | .nx ds2 S2 => whK fc b j ds2 S2
            | .ct ds2 S2 => whK fc b j ds2 S2
            | .bk ds2 S2 => .nx ds2 S2
            | r => r) D W at h1
          cases e : b ds' S1 with
          | nx ds2 S2 =>
            rw [e] at h1
            exact fun m2 H2 σ2 E2 r2 rs2 => ⟨m2, S2, ds2, r2, rs2, PoS.mono E2 h1⟩
          | ct ds2 S2 =>
            rw [e] at h1
            exact fun m2 H2 σ2 E2 r2 rs2 => ⟨m2, S2, ds2, r2, rs2, PoS.mono E2 h1⟩
          | bk ds2 S2 => rw [e] at h1; exact h1
          | rt v S2 => rw [e] at h1; exact h1
          | ex c fs ds2 S2 => rw [e] at h1; exact h1
          | no => rw [e] at h1; exact h1
        | false => exact h1 m1 H1 σ' Ext.refl r1 rs1
      | _ => exact h1.elim

end
end LL


set_option Elab.async false
set_option linter.all false
set_option maxRecDepth 100000
set_option maxHeartbeats 2000000
/-! The logical layer: what loops go through, for, list comprehensions. -/
namespace LL
open PySem PySem.Spec PyProof.Rows L2

/-- so many turns, the item at each, whether it ends as it should -/
structure LIt where
  n : Nat
  item : Nat → Sto → Option LV
  fine : Sto → Bool
def itOf (xs : List LV) : LIt := ⟨xs.length, fun i _ => xs[i]?, fun _ => true⟩
def refI (k n i : Nat) (S : Sto) : Option LV := match S[k]? with
  | some (.lst ys) => if ys.length = n then ys[i]? else none
  | _ => none
def refF (k n : Nat) (S : Sto) : Bool := match S[k]? with
  | some (.lst ys) => decide (ys.length = n)
  | _ => false
def itRef (k n : Nat) : LIt := ⟨n, fun i S => refI k n i S, fun S => refF k n S⟩
inductive RI where
  | ok (l : LIt) (S : Sto)
  | ex (c : Nat) (fs : List LV) (S : Sto)
  | no
abbrev LI := Sl → Sto → RI
structure ItL (K : PySem.W.Frag) (T : Env1) (m0 : List Addr) (H0 : Hp) (J : It) (l : LIt) : Prop where
  stop : ∀ m S H, Ext m0 H0 m H → RelS K T m S H → l.fine S = true → J.stop l.n H
  go : ∀ i m S H v, i < l.n → Ext m0 H0 m H → RelS K T m S H → l.item i S = some v → J.go i H
  yld : ∀ i x H' m S H v, i < l.n → Ext m0 H0 m H → RelS K T m S H → l.item i S = some v → J.yld i H x H' → Ext m H m H' ∧ RelS K T m S H' ∧ RV K m H' v x
def PoI (K : PySem.W.Frag) (T : Env1) (m : List Addr) (H : Hp) (r : RI) (R : It → Hp → Prop) (W : XK) : Prop :=
  match r with
  | .ok l S => ∀ m' H' J, Ext m H m' H' → RelS K T m' S H' → ItL K T m' H' J l → R J H'
  | .ex c fs S => ∀ m' H' cls d, Ext m H m' H' → RelS K T m' S H' → RX K T m' H' c fs cls d → W cls d H'
  | .no => False
def tI (K : PySem.W.Frag) (T : Env1) (ξ : Xi) (W : WX) (f : LI) : TI := fun σ H R => ∃ m S ds, RelS K T m S H ∧ RSl K ξ m H ds σ ∧ PoI K T m H (f ds S) R (fun cls d H' => W cls d σ H')
def bindI (r : R) (k : LV → Sto → RI) : RI := match r with
  | .ok v S => k v S
  | .ex c fs S => .ex c fs S
  | .no => .no
def bindIA (r : RL) (k : List LV → Sto → RI) : RI := match r with
  | .ok v S => k v S
  | .ex c fs S => .ex c fs S
  | .no => .no
def signs (z : Str) : List LV := z.cps.toList.map fun c => .str ⟨#[c]⟩
def iterO (v : LV) (S : Sto) : RI := match v with
  | .tup xs => .ok (itOf xs) S
  | .ktp xs => .ok (itOf xs) S
  | .scr ns => .ok (itOf (ns.map .int)) S
  | .str z => .ok (itOf (signs z)) S
  | .lst xs => .ok (itOf xs) S
  | .ref n => match S[n]? with
    | some (.lst xs) => .ok (itRef n xs.length) S
    | _ => .no
  | _ => .no
def lIter (f : LE) : LI := fun ds S => bindI (f ds S) iterO
def okRg (i : Int) : Bool := decide (-(2 ^ 62) ≤ i) && decide (i < 2 ^ 62)
def rng (lo : Int) (n : Nat) : List LV := (List.range n).map fun (k : Nat) => .int (lo + (k : Int))
def rng1O : List LV → Sto → RI
  | [.int j], S => if okRg j = true then .ok (itOf (rng 0 j.toNat)) S else .no
  | _, _ => .no
def rng2O : List LV → Sto → RI
  | [.int i, .int j], S => if (okRg i && okRg j) = true then .ok (itOf (rng i (j - i).toNat)) S else .no
  | _, _ => .no
def lRng1 (f : LA) : LI := fun ds S => bindIA (f ds S) rng1O
def lRng2 (f : LA) : LI := fun ds S => bindIA (f ds S) rng2O
section
variable {K : PySem.W.Frag} {T : Env1} {m0 : List Addr} {H0 : Hp}
theorem it_list {S0 : Sto} {a : Addr} {k n : Nat} (hm : m0[k]? = some a) : ItL K T m0 H0 (Itl K a) (itRef k n) where
  stop := fun m S H E r h => by
    simp only [itRef, refF] at h
    split at h
    · rename_i ys hk
      obtain ⟨vs, h1, h2⟩ := r.at (E.get hm) hk
      exact ⟨vs, SqL.of h1, by
        show vs.length ≤ n
        rw [← h2.len, of_decide_eq_true h]
        exact Nat.le_refl _⟩
    · cases h
  go := fun i m S H v hi E r h => by
    simp only [itRef, refI] at h
    split at h
    · rename_i ys hk
      split at h
      · obtain ⟨vs, h1, h2⟩ := r.at (E.get hm) hk
        obtain ⟨x, hx, _⟩ := h2.get h
        exact ⟨vs, x, SqL.of h1, hx⟩
      · cases h
    · cases h
  yld := fun i x H' m S H v hi E r h y => by
    simp only [itRef, refI] at h
    split at h
    · rename_i ys hk
      split at h
      · obtain ⟨vs, h1, h2⟩ := r.at (E.get hm) hk
        obtain ⟨z, hz, rz⟩ := h2.get h
        obtain ⟨rfl, y2⟩ := y
        have := y2 vs (SqL.of h1)
        rw [hz] at this
        cases this
        exact ⟨Ext.refl, r, rz⟩
      · cases h
    · cases h
theorem it_tup {a : Addr} {xs : List LV} {vs : List V} (ht : ∀ m H, Ext m0 H0 m H → SqT K H a vs) (hs : RVs K m0 H0 xs vs) : ItL K T m0 H0 (Itt K a) (itOf xs) where
  stop := fun m S H E r h => ⟨vs, ht m H E, by show vs.length ≤ xs.length; rw [hs.len]; exact Nat.le_refl _⟩
  go := fun i m S H v hi E r h => by
    obtain ⟨x, hx, _⟩ := hs.get (show xs[i]? = some v from h)
    exact ⟨vs, x, ht m H E, hx⟩
  yld := fun i x H' m S H v hi E r h y => by
    obtain ⟨z, hz, rz⟩ := hs.get (show xs[i]? = some v from h)
    obtain ⟨rfl, y2⟩ := y
    have := y2 vs (ht m _ E)
    rw [hz] at this
    cases this
    exact ⟨Ext.refl, r, rz.mono E⟩
theorem it_lst {a : Addr} {xs : List LV} {vs : List V} (ht : ∀ m H, Ext m0 H0 m H → SqL K H a vs) (hs : RVs K m0 H0 xs vs) : ItL K T m0 H0 (Itl K a) (itOf xs) where
  stop := fun m S H E r h => ⟨vs, ht m H E, by show vs.length ≤ xs.length; rw [hs.len]; exact Nat.le_refl _⟩
  go := fun i m S H v hi E r h => by
    obtain ⟨x, hx, _⟩ := hs.get (show xs[i]? = some v from h)
    exact ⟨vs, x, ht m H E, hx⟩
  yld := fun i x H' m S H v hi E r h y => by
    obtain ⟨z, hz, rz⟩ := hs.get (show xs[i]? = some v from h)
    obtain ⟨rfl, y2⟩ := y
    have := y2 vs (ht m _ E)
    rw [hz] at this
    cases this
    exact ⟨Ext.refl, r, rz.mono E⟩
theorem it_str {z : Str} : ItL K T m0 H0 (Its z) (itOf (signs z)) where
  stop := fun m S H E r h => by
    show z.cps.size ≤ (signs z).length
    simp [signs]
  go := fun i m S H v hi E r h => by
    have : i < (signs z).length := hi
    have : i < z.cps.size := by simpa [signs] using this
    exact this
  yld := fun i x H' m S H v hi E r h y => by
    obtain ⟨rfl, c, hc, rfl⟩ := y
    refine ⟨Ext.refl, r, ?_⟩
    have h' : (signs z)[i]? = some v := h
    unfold signs at h'
    rw [List.getElem?_map, Array.getElem?_toList, hc] at h'
    cases h'
    rfl
theorem it_rng {lo : Int} {n : Nat} : ItL K T m0 H0 (Itr lo n) (itOf (rng lo n)) where
  stop := fun m S H E r h => by
    show n ≤ (rng lo n).length
    simp [rng]
  go := fun i m S H v hi E r h => by
    have : i < (rng lo n).length := hi
    have : i < n := by simpa [rng] using this
    exact this
  yld := fun i x H' m S H v hi E r h y => by
    obtain ⟨rfl, rfl⟩ := y
    refine ⟨Ext.refl, r, ?_⟩
    have hi' : i < n := by
      have : i < (rng lo n).length := hi
      simpa [rng] using this
    have h' : (rng lo n)[i]? = some v := h
    unfold rng at h'
    rw [List.getElem?_map, List.getElem?_range hi'] at h'
    cases h'
    rfl
end

section
variable {X : Cx} {T : Env1} {ξ : Xi} {W : WX} {e tg : Expr} {es : List Expr} {sts : List Stmt} {pos p : Pos} {fe fc : LE} {ga : LA} {b : LS} {lg : LG} {li : LI}
theorem pi_imp {t t' : TI} (h : PI X tg e t) (i : ∀ σ H Q, t' σ H Q → t σ H Q) : PI X tg e t' := ⟨fun pins s σ H Q I q => h.run pins s σ H Q I (i σ H Q q)⟩
theorem tL.bindI {σ : L2.St} {m : List Addr} {S : Sto} {H : Hp} {ds : Sl} {k : LV → Sto → RI} {R : It → Hp → Prop} (r : RelS X.K T m S H) (rs : RSl X.K ξ m H ds σ) (h : PoI X.K T m H (LL.bindI (fe ds S) k) R (fun cls d H' => W cls d σ H')) {Q2 : VK}
    (hq : ∀ v S1 m1 H1 x, fe ds S = .ok v S1 → Ext m H m1 H1 → RelS X.K T m1 S1 H1 → RV X.K m1 H1 v x → PoI X.K T m1 H1 (k v S1) R (fun cls d H' => W cls d σ H') → Q2 x H1) : tL X.K T ξ W fe σ H Q2 := by
  refine ⟨m, S, ds, r, rs, ?_⟩
  have mono : ∀ {m1 H1} {x : RI}, Ext m H m1 H1 → PoI X.K T m H x R (fun cls d H' => W cls d σ H') → PoI X.K T m1 H1 x R (fun cls d H' => W cls d σ H') := fun {m1 H1 x} E h => by
    cases x with
    | ok l S2 => exact fun m' H' J E' => h m' H' J (E.trans E')
    | ex c fs S2 => exact fun m' H' cls d E' => h m' H' cls d (E.trans E')
    | no => exact h
  cases e : fe ds S with
  | ok v S1 =>
    rw [e] at h
    exact fun m1 H1 x E r1 rv => hq v S1 m1 H1 x e E r1 rv (mono E h)
  | ex c fs S1 =>
    rw [e] at h
    exact h
  | no =>
    rw [e] at h
    exact h
/-- over a list, a tuple, a text -/
theorem il_val (he : PE X e (tL X.K T ξ W fe)) : PI X tg e (tI X.K T ξ W (lIter fe)) := ⟨fun pins s σ H R I ⟨m, S, ds, r, rs, h⟩ => by
  cases q : fe ds S with
  | ok v S1 =>
    cases v with
    | ref n =>
      refine (pi_list he).run pins s σ H R I (tL.bindI r rs h fun v S2 m1 H1 x e2 E r1 rv h1 => ?_)
      rw [q] at e2
      cases e2
      unfold iterO at h1
      simp only at h1
      split at h1
      · rename_i xs hn
        obtain ⟨a, vs, rfl, hm, ha, hs⟩ := rv.lst r1 hn
        exact ⟨a, rfl, ⟨vs, SqL.of ha⟩, h1 m1 H1 _ Ext.refl r1 (it_list (S0 := S1) hm)⟩
      · exact h1.elim
    | scr ns =>
      refine (pi_list he).run pins s σ H R I (tL.bindI r rs h fun v S2 m1 H1 x e2 E r1 rv h1 => ?_)
      rw [q] at e2
      cases e2
      unfold RV at rv
      obtain ⟨a, rfl, ha⟩ := rv
      exact ⟨a, rfl, ⟨_, scr_sq ha⟩, h1 m1 H1 _ Ext.refl r1 (it_lst (fun m2 H2 E2 => scr_sq (E2.kp.scr ha)) (RVs.ints ns))⟩
    | tup xs =>
      refine (pi_tup he).run pins s σ H R I (tL.bindI r rs h fun v S2 m1 H1 x e2 E r1 rv h1 => ?_)
      rw [q] at e2
      cases e2
      obtain ⟨a, vs, rfl, ht, hs⟩ := rv.tupE
      exact ⟨a, rfl, ⟨vs, SqT.of ht⟩, h1 m1 H1 _ Ext.refl r1 (it_tup (fun m2 H2 E2 => SqT.of (E2.tup _ _ ht)) hs)⟩
    | ktp xs =>
      refine (pi_tup he).run pins s σ H R I (tL.bindI r rs h fun v S2 m1 H1 x e2 E r1 rv h1 => ?_)
      rw [q] at e2
      cases e2
      unfold RV at rv
      obtain ⟨a, vs, rfl, ht, hs⟩ := rv
      exact ⟨a, rfl, ⟨vs, ht _⟩, h1 m1 H1 _ Ext.refl r1 (it_tup (fun m2 H2 E2 => ht _) hs)⟩
    | lst xs =>
      refine (pi_list he).run pins s σ H R I (tL.bindI r rs h fun v S2 m1 H1 x e2 E r1 rv h1 => ?_)
      rw [q] at e2
      cases e2
      obtain ⟨a, vs, rfl, na, ha, hs⟩ := rv.lstE
      exact ⟨a, rfl, ⟨vs, SqL.of ha⟩, h1 m1 H1 _ Ext.refl r1 (it_lst (fun m2 H2 E2 => SqL.of (E2.fr a _ na ha)) hs)⟩
    | str z =>
      refine (pi_str he).run pins s σ H R I (tL.bindI r rs h fun v S2 m1 H1 x e2 E r1 rv h1 => ?_)
      rw [q] at e2
      cases e2
      exact ⟨z, rv, h1 m1 H1 _ Ext.refl r1 it_str⟩
    | _ =>
      unfold lIter at h
      rw [q] at h
      exact h.elim
  | ex c fs S1 =>
    refine (pi_list he).run pins s σ H R I ⟨m, S, ds, r, rs, ?_⟩
    unfold lIter at h
    rw [q] at h ⊢
    exact h
  | no =>
    unfold lIter at h
    rw [q] at h
    exact h.elim⟩
theorem tLA.bindI {σ : L2.St} {m : List Addr} {S : Sto} {H : Hp} {ds : Sl} {k : List LV → Sto → RI} {R : It → Hp → Prop} (r : RelS X.K T m S H) (rs : RSl X.K ξ m H ds σ) (h : PoI X.K T m H (LL.bindIA (ga ds S) k) R (fun cls d H' => W cls d σ H')) {Q2 : List V → Hp → Prop}
    (hq : ∀ v S1 m1 H1 x, Ext m H m1 H1 → RelS X.K T m1 S1 H1 → RVs X.K m1 H1 v x → PoI X.K T m1 H1 (k v S1) R (fun cls d H' => W cls d σ H') → Q2 x H1) : tLA X.K T ξ W ga σ H Q2 := by
  refine ⟨m, S, ds, r, rs, ?_⟩
  have mono : ∀ {m1 H1} {x : RI}, Ext m H m1 H1 → PoI X.K T m H x R (fun cls d H' => W cls d σ H') → PoI X.K T m1 H1 x R (fun cls d H' => W cls d σ H') := fun {m1 H1 x} E h => by
    cases x with
    | ok l S2 => exact fun m' H' J E' => h m' H' J (E.trans E')
    | ex c fs S2 => exact fun m' H' cls d E' => h m' H' cls d (E.trans E')
    | no => exact h
  cases e : ga ds S with
  | ok v S1 =>
    rw [e] at h
    exact fun m1 H1 x E r1 rv => hq v S1 m1 H1 x E r1 rv (mono E h)
  | ex c fs S1 =>
    rw [e] at h
    exact h
  | no =>
    rw [e] at h
    exact h
theorem okRg_ok {i : Int} (h : okRg i = true) : -(2 ^ 62) ≤ i ∧ i < 2 ^ 62 := by
  unfold okRg at h
  rw [Bool.and_eq_true] at h
  exact ⟨of_decide_eq_true h.1, of_decide_eq_true h.2⟩
theorem il_rng1 {a : Expr} (hg : Gl X "range") (hm : X.mg "range" = none) (ha : PA X [a] (tLA X.K T ξ W ga)) (hs : starEach [a] X.env = [(false, eval a X.env)] := by rfl) : PI X tg (.Call (.Name "range" p) [a] [] pos) (tI X.K T ξ W (lRng1 ga)) :=
  pi_imp (pi_range1 hg hm ha hs) fun σ H R ⟨m, S, ds, r, rs, h⟩ => tLA.bindI (k := rng1O) (R := R) r rs h fun vs S1 m1 H1 xs E r1 rv h1 => by
    unfold rng1O at h1
    split at h1
    · obtain ⟨x, rfl, rx⟩ := rv.one
      split at h1
      · rename_i hz
        obtain ⟨z1, z2⟩ := okRg_ok hz
        exact ⟨_, by rw [show x = .int _ from rx], z1, z2, h1 m1 H1 _ Ext.refl r1 it_rng⟩
      · exact h1.elim
    · exact h1.elim
theorem il_rng2 {a b : Expr} (hg : Gl X "range") (hm : X.mg "range" = none) (ha : PA X [a, b] (tLA X.K T ξ W ga)) (hs : starEach [a, b] X.env = [(false, eval a X.env), (false, eval b X.env)] := by rfl) (hs2 : starEach [b] X.env = [(false, eval b X.env)] := by rfl) :
    PI X tg (.Call (.Name "range" p) [a, b] [] pos) (tI X.K T ξ W (lRng2 ga)) :=
  pi_imp (pi_range2 hg hm ha hs hs2) fun σ H R ⟨m, S, ds, r, rs, h⟩ => tLA.bindI (k := rng2O) (R := R) r rs h fun vs S1 m1 H1 xs E r1 rv h1 => by
    unfold rng2O at h1
    split at h1
    · obtain ⟨x, y, rfl, rx, ry⟩ := rv.two
      split at h1
      · rename_i hz
        rw [Bool.and_eq_true] at hz
        obtain ⟨z1, z2⟩ := okRg_ok hz.1
        obtain ⟨z3, z4⟩ := okRg_ok hz.2
        exact ⟨_, _, by rw [show x = .int _ from rx, show y = .int _ from ry], ⟨z1, z2, z3, z4⟩, h1 m1 H1 _ Ext.refl r1 it_rng⟩
      · exact h1.elim
    · exact h1.elim

/-! ### for -/
def forK (l : LIt) (lg : LG) (fb : LS) : Nat → Nat → Sl → Sto → RS
  | 0, _, ds, S => if l.fine S = true then .nx ds S else .no
  | k + 1, i, ds, S => match l.item i S with
    | none => .no
    | some v => match lg v S ds with
      | none => .no
      | some ds1 => match fb ds1 S with
        | .nx ds2 S2 => forK l lg fb k (i + 1) ds2 S2
        | .ct ds2 S2 => forK l lg fb k (i + 1) ds2 S2
        | .bk ds2 S2 => .nx ds2 S2
        | r => r
def forS (lg : LG) (fb : LS) (ds : Sl) : RI → RS
  | .ok l S => forK l lg fb l.n 0 ds S
  | .ex c fs S => .ex c fs ds S
  | .no => .no
def lFor (li : LI) (lg : LG) (fb : LS) : LS := fun ds S => forS lg fb ds (li ds S)
theorem sl_for (hp : PassesOwn (model X.prog X.w) X.A X.env X.xe) (hc : X.calm = true) (hi : PI X tg e (tI X.K T ξ W li)) (hg : PG X tg (tGL X.K T ξ lg)) (hb : PSs X sts (tLS X.K T ξ W b)) (hs : ∀ x, foldedSetIterable e X.env x = pure x := by intro _; rfl) :
    PS X (.For tg e sts [] pos) (tLS X.K T ξ W (lFor li lg b)) :=
  ps_imp (ps_for hp hc hi hg hb hs) fun D σ H ⟨m, S, ds, r, rs, h⟩ => by
    refine ⟨m, S, ds, r, rs, ?_⟩
    unfold lFor at h
    cases q : li ds S with
    | ex c fs S1 =>
      rw [q] at h
      exact fun m1 H1 cls d E r1 rx => h m1 H1 σ cls d E r1 (rs.mono E) rx
    | no => rw [q] at h; exact h
    | ok l S1 =>
      rw [q] at h
      intro m1 H1 J E1 r1 it
      refine ⟨fun i k σ' H' => i + k = l.n ∧ ∃ m' S' ds', Ext m1 H1 m' H' ∧ RelS X.K T m' S' H' ∧ RSl X.K ξ m' H' ds' σ' ∧ PoS X.K T ξ m' H' (forK l lg b k i ds' S') D W,
        ⟨l.n, Nat.zero_add _, m1, S1, ds, Ext.refl, r1, rs.mono E1, PoS.mono E1 h⟩, ?_⟩
      rintro i k σ' H' ⟨ek, m', S', ds', E', r', rs', h'⟩
      cases k with
      | zero =>
        unfold forK at h'
        split at h'
        · rename_i hf
          have ei : i = l.n := by omega
          subst ei
          exact .inl ⟨it.stop m' S' H' E' r' hf, h' m' H' σ' Ext.refl r' rs'⟩
        · exact h'.elim
      | succ k =>
        unfold forK at h'
        split at h'
        · exact h'.elim
        · rename_i v hv
          split at h'
          · exact h'.elim
          · rename_i ds1 hd
            have hi : i < l.n := by omega
            refine .inr ⟨it.go i m' S' H' v hi E' r' hv, fun σ2 H2 => i + 1 + k = l.n ∧ ∃ m' S' ds', Ext m1 H1 m' H2 ∧ RelS X.K T m' S' H2 ∧ RSl X.K ξ m' H2 ds' σ2 ∧ PoS X.K T ξ m' H2 (forK l lg b k (i + 1) ds' S') D W,
              fun σ2 H2 q => ⟨k, Nat.lt_succ_self k, q⟩, fun x H2 y => ?_⟩
            obtain ⟨E2, r2, rv2⟩ := it.yld i x H2 m' S' H' v hi E' r' hv y
            refine ⟨m', S', v, ds', ds1, r2, rs'.mono E2, rv2, hd, fun σ3 rs3 => ⟨m', S', ds1, r2, rs3, ?_⟩⟩
            have h2 := PoS.mono E2 h'
            cases e : b ds1 S' with
            | nx ds2 S2 =>
              rw [e] at h2
              exact fun m3 H3 σ4 E3 r3 rs4 => ⟨by omega, m3, S2, ds2, (E'.trans E2).trans E3, r3, rs4, PoS.mono E3 h2⟩
            | ct ds2 S2 =>
              rw [e] at h2
              exact fun m3 H3 σ4 E3 r3 rs4 => ⟨by omega, m3, S2, ds2, (E'.trans E2).trans E3, r3, rs4, PoS.mono E3 h2⟩
            | bk ds2 S2 => rw [e] at h2; exact h2
            | rt v S2 => rw [e] at h2; exact h2
            | ex c fs ds2 S2 => rw [e] at h2; exact h2
            | no => rw [e] at h2; exact h2

/-! ### list comprehensions -/
/-- the block's own slots forgotten -/
def wipeL (ds : Sl) : List Nat → Sl
  | [] => ds
  | v :: vs => (wipeL ds vs).set v none
theorem RSl.wipe {K : PySem.W.Frag} {ξ : Xi} {m : List Addr} {H : Hp} {ds : Sl} {σ : L2.St} (h : RSl K ξ m H ds σ) : ∀ vs : List Nat, RSl K ξ m H (wipeL ds vs) (L2.wipe σ vs)
  | [] => h
  | v :: vs => by
    have ih := RSl.wipe h vs
    unfold wipeL L2.wipe
    refine ⟨by simp [ih.len], fun i w e => ?_⟩
    by_cases hi : i = v
    · subst hi
      by_cases hl : i < (wipeL ds vs).length
      · rw [List.getElem?_set_self hl] at e; cases e
      · rw [List.getElem?_eq_none (by simpa using hl)] at e; cases e
    · rw [List.getElem?_set_ne (Ne.symm hi)] at e ⊢
      exact ih.at_ i w e
/-- a test in a comprehension -/
def lYes : LE := fun _ S => .ok (.bl true) S
def lcA (n : Nat) (u : LV) (S : Sto) (k : Sto → R) : R := match S[n]? with
  | some (.lst ys) => if small (ys.length + 1) = true then k (S.set n (.lst (ys ++ [u]))) else .no
  | _ => .no
def lcK (l : LIt) (lg : LG) (ft fe : LE) (ds : Sl) (n : Nat) : Nat → Nat → Sto → R
  | 0, _, S => if l.fine S = true then .ok (.ref n) S else .no
  | k + 1, i, S => match l.item i S with
    | none => .no
    | some v => match lg v S ds with
      | none => .no
      | some ds1 => match ft ds1 S with
        | .ok (.bl true) S1 => match fe ds1 S1 with
          | .ok u S2 => lcA n u S2 fun S3 => lcK l lg ft fe ds n k (i + 1) S3
          | _ => .no
        | .ok (.bl false) S1 => lcK l lg ft fe ds n k (i + 1) S1
        | _ => .no
noncomputable def lcR (t : Bool) (lg : LG) (ft fe : LE) (ds : Sl) : RI → R
  | .ok l S => gcG t S (lcK l lg ft fe ds S.length l.n 0 (S ++ [.lst []]))
  | .ex c fs S => .ex c fs S
  | .no => .no
noncomputable def lLcG (t : Bool) (li : LI) (lg : LG) (ft fe : LE) (vs : List Nat) : LE := fun ds S => lcR t lg ft fe (wipeL ds vs) (li ds S)
noncomputable abbrev lLc := lLcG false
noncomputable abbrev lLcT := lLcG true
/-- a target of a comprehension stores in the block's own slots alone -/
def tGC (K : PySem.W.Frag) (T : Env1) (ξ : Xi) (vs : List Nat) (g : LG) : TG := fun x σ H Q => ∃ m S v ds ds', RelS K T m S H ∧ RSl K ξ m H ds σ ∧ RV K m H v x ∧ g v S ds = some ds' ∧ ∀ σ', RSl K ξ m H ds' σ' → L2.wipe σ' vs = L2.wipe σ vs → Q σ' H
def tGCs (K : PySem.W.Frag) (T : Env1) (ξ : Xi) (vs : List Nat) (g : LGs) : TGs := fun xs σ H Q => ∃ m S us ds ds', RelS K T m S H ∧ RSl K ξ m H ds σ ∧ RVs K m H us xs ∧ g us S ds = some ds' ∧ ∀ σ', RSl K ξ m H ds' σ' → L2.wipe σ' vs = L2.wipe σ vs → Q σ' H
theorem wipe_get (σ : L2.St) (j : Nat) : ∀ vs : List Nat, (L2.wipe σ vs)[j]? = if j ∈ vs then (σ[j]?).map (fun _ => none) else σ[j]?
  | [] => by simp [L2.wipe]
  | v :: vs => by
    unfold L2.wipe
    by_cases h : v = j
    · subst h
      rw [if_pos List.mem_cons_self]
      by_cases hl : v < σ.length
      · rw [List.getElem?_set_self (by rw [L2.wipe_length]; exact hl), List.getElem?_eq_getElem hl]
        rfl
      · rw [List.getElem?_eq_none (by rw [List.length_set, L2.wipe_length]; omega), List.getElem?_eq_none (by omega)]
        rfl
    · rw [List.getElem?_set_ne h, wipe_get σ j vs]
      by_cases hm : j ∈ vs
      · rw [if_pos hm, if_pos (List.mem_cons_of_mem _ hm)]
      · rw [if_neg hm, if_neg (by rw [List.mem_cons]; rintro (q | q); exact h q.symm; exact hm q)]
theorem wipe_set {σ : L2.St} {i : Nat} {o : Option V} {vs : List Nat} (h : i ∈ vs) : L2.wipe (σ.set i o) vs = L2.wipe σ vs := by
  apply List.ext_getElem?
  intro j
  rw [wipe_get, wipe_get]
  by_cases hj : j ∈ vs
  · rw [if_pos hj, if_pos hj]
    by_cases e : i = j
    · subst e
      by_cases hl : i < σ.length
      · rw [List.getElem?_set_self hl, List.getElem?_eq_getElem hl]
        rfl
      · rw [List.getElem?_eq_none (by rw [List.length_set]; omega), List.getElem?_eq_none (by omega)]
    · rw [List.getElem?_set_ne e]
  · rw [if_neg hj, if_neg hj, List.getElem?_set_ne (fun e => hj (by rw [← e]; exact h))]
theorem gc_name (i : Nat) {x : Str} {vs : List Nat} (hN : X.N.Nodup) (hv : i ∈ vs) (hi : X.N[i]? = some x := by rfl) (hx : Loc X.env.scope x := by first | exact Or.inl rfl | exact Or.inr rfl) (hf : X.fn x = true ∨ X.env.scope.names.lookup x = some .local := by first | exact .inl rfl | exact .inr rfl | assumption) :
    PG X (.Name x pos) (tGC X.K T ξ vs (gNm i)) := pg_imp (pg_name hN hi hx hf) fun x σ H Q ⟨m, S, v, ds, ds', r, rs, rv, e, q⟩ => by
  cases e
  exact q _ (rs.set i (RVx.of rv)) (wipe_set hv)
theorem gcs_nil {vs : List Nat} : PGs X [] (tGCs X.K T ξ vs gsNil) := pgs_imp pgs_nil fun x σ H Q ⟨m, S, us, ds, ds', r, rs, rv, e, q⟩ => by
  cases us with
  | nil =>
    cases e
    exact ⟨rv.nilE, q σ rs rfl⟩
  | cons v r => cases e
theorem gcs_cons {e : Expr} {es : List Expr} {vs : List Nat} {lgs : LGs} (h1 : PG X e (tGC X.K T ξ vs lg)) (h2 : PGs X es (tGCs X.K T ξ vs lgs)) (hs : (assignEach (e :: es) X.env).map (·.2) = assign e X.env :: (assignEach es X.env).map (·.2) := by rfl) : PGs X (e :: es) (tGCs X.K T ξ vs (gsCons lg lgs)) :=
  pgs_imp (pgs_cons h1 h2 hs) fun xs σ H Q ⟨m, S, us, ds, ds', r, rs, rv, e, q⟩ => by
    cases us with
    | nil => cases e
    | cons v vr =>
      unfold RVs at rv
      obtain ⟨y, ys, rfl, h1, h2⟩ := rv
      unfold gsCons at e
      simp only at e
      split at e
      · rename_i ds1 hd
        exact ⟨y, ys, rfl, m, S, v, ds, ds1, r, rs, h1, hd, fun σ1 rs1 w1 => ⟨m, S, vr, ds1, ds', r, rs1, h2, e, fun σ2 rs2 w2 => q σ2 rs2 (w2.trans w1)⟩⟩
      · cases e
theorem gc_tup {es : List Expr} {j : Nat} {vs : List Nat} {lgs : LGs} (n : Nat) (hc : X.calm = true) (h : PGs X es (tGCs X.K T ξ vs lgs)) (hl : ∀ vs S ds ds', lgs vs S ds = some ds' → vs.length = n)
    (hn : (assignEach es X.env).length = n := by rfl) (hst : (assignEach es X.env).findIdx? (·.1) = none := by rfl) : PG X (.Tuple es j pos) (tGC X.K T ξ vs (gTp lgs)) :=
  pg_imp (pg_or (pg_tup hc h hn hst) (pg_unl hc h hn hst)) fun x σ H Q ⟨m, S, v, ds, ds', r, rs, rv, e, q⟩ => by
    unfold gTp at e
    split at e
    · obtain ⟨a, vs, rfl, ht, hs⟩ := rv.tupE
      exact .inl ⟨a, vs, rfl, SqT.of ht, by rw [← hs.len]; exact hl _ _ _ _ e, m, S, _, ds, ds', r, rs, hs, e, q⟩
    · unfold RV at rv
      obtain ⟨a, vs, rfl, ht, hs⟩ := rv
      exact .inl ⟨a, vs, rfl, ht _, by rw [← hs.len]; exact hl _ _ _ _ e, m, S, _, ds, ds', r, rs, hs, e, q⟩
    · obtain ⟨a, vs, rfl, na, ht, hs⟩ := rv.lstE
      exact .inr ⟨a, vs, rfl, SqL.of ht, by rw [← hs.len]; exact hl _ _ _ _ e, m, S, _, ds, ds', r, rs, hs, e, q⟩
    · split at e
      · rename_i hn2
        obtain ⟨a, zs, rfl, _, ha, hs⟩ := RV.lst r rv hn2
        exact .inr ⟨a, zs, rfl, SqL.of ha, by rw [← hs.len]; exact hl _ _ _ _ e, m, S, _, ds, ds', r, rs, hs, e, q⟩
      · cases e
    · cases e
theorem pt_yes : PTs X [] (tTest (tL X.K T ξ W lYes)) := ⟨fun pins s σ H Q I ⟨m, S, ds, r, rs, h⟩ => by
  obtain ⟨k, e, q⟩ := h.here r (x := .bl true) rfl
  cases e
  exact pts_nil.run pins s σ H Q I q⟩
theorem pt_one (h : PT X e (tTest (tL X.K T ξ W fe))) : PTs X [e] (tTest (tL X.K T ξ W fe)) := pts_one h
theorem lc_read {t : Bool} {li : LI} {ft fe : LE} {vs : List Nat} : ∀ σ H Q, tL X.K T ξ W (lLcG t li lg ft fe vs) σ H Q → tLc (tI X.K T ξ W li) (tGC X.K T ξ vs lg) (tTest (tL X.K T ξ WF ft)) (tL X.K T ξ WF fe) vs σ H Q :=
  fun σ H Q ⟨m, S, ds, r, rs, h⟩ => by
    refine ⟨m, S, ds, r, rs, ?_⟩
    unfold lLcG at h
    cases q : li ds S with
    | ex c fs S1 => rw [q] at h; exact h
    | no => rw [q] at h; exact h
    | ok l S1 =>
      rw [q] at h
      intro m1 H1 J E1 r1 it D hD
      have h0 : PoE X.K T m1 H1 (lcK l lg ft fe (wipeL ds vs) S1.length l.n 0 (S1 ++ [.lst []])) Q (fun cls d H' => W cls d σ H') := gcG_sound r1 (PoE.mono E1 h)
      have rs1 := (rs.mono E1).wipe vs
      have EA : Ext m1 H1 (m1 ++ [D]) (upd H1 D (.lst [])) := Ext.alloc r1 hD
      have rA : RelS X.K T (m1 ++ [D]) (S1 ++ [.lst []]) (upd H1 D (.lst [])) := r1.alloc hD ⟨[], upd_same, RVs.nil⟩
      have gD : (m1 ++ [D])[S1.length]? = some D := by rw [← r1.len, List.getElem?_append_right (Nat.le_refl _), Nat.sub_self] <;> rfl
      refine ⟨fun i k H' => i + k = l.n ∧ ∃ m' S', Ext (m1 ++ [D]) (upd H1 D (.lst [])) m' H' ∧ RelS X.K T m' S' H' ∧ PoE X.K T m' H' (lcK l lg ft fe (wipeL ds vs) S1.length k i S') Q (fun cls d H' => W cls d σ H'),
        ⟨l.n, Nat.zero_add _, m1 ++ [D], S1 ++ [.lst []], Ext.refl, rA, PoE.mono EA h0⟩, ?_⟩
      rintro i k H' ⟨ek, m', S', E', r', h'⟩
      have E0 := EA.trans E'
      cases k with
      | zero =>
        unfold lcK at h'
        split at h'
        · rename_i hf
          have ei : i = l.n := by omega
          subst ei
          refine .inl ⟨it.stop m' S' H' E0 r' hf, ?_⟩
          refine h' m' H' _ Ext.refl r' ?_
          unfold RV
          exact ⟨D, rfl, E'.get gD⟩
        · exact h'.elim
      | succ k =>
        unfold lcK at h'
        split at h'
        · exact h'.elim
        · rename_i v hv
          split at h'
          · exact h'.elim
          · rename_i ds1 hd
            have hi : i < l.n := by omega
            refine .inr ⟨it.go i m' S' H' v hi E0 r' hv, fun H2 => i + 1 + k = l.n ∧ ∃ m' S', Ext (m1 ++ [D]) (upd H1 D (.lst [])) m' H2 ∧ RelS X.K T m' S' H2 ∧ PoE X.K T m' H2 (lcK l lg ft fe (wipeL ds vs) S1.length k (i + 1) S') Q (fun cls d H' => W cls d σ H'),
              fun H2 q => ⟨k, Nat.lt_succ_self k, q⟩, fun x H2 y => ?_⟩
            obtain ⟨E2, r2, rv2⟩ := it.yld i x H2 m' S' H' v hi E0 r' hv y
            have E12 := E'.trans E2
            have rsT : RSl X.K ξ m' H2 (wipeL ds vs) (L2.wipe σ vs) := by
              have := (rs.mono E1).mono (E0.trans E2)
              exact this.wipe vs
            replace h' := PoE.mono E2 h'
            refine ⟨m', S', v, wipeL ds vs, ds1, r2, rsT, rv2, hd, fun σ2 rs2 w2 => ⟨?_, ?_⟩⟩
            · rw [w2]
              apply List.ext_getElem?
              intro j
              rw [wipe_get, wipe_get]
              by_cases hj : j ∈ vs
              · rw [if_pos hj, if_pos hj]
                cases σ[j]? <;> rfl
              · rw [if_neg hj]
            · refine ⟨m', S', ds1, r2, rs2, ?_⟩
              cases e1 : ft ds1 S' with
              | ok b S2 =>
                rw [e1] at h'
                intro m3 H3 z E3 r3 rz
                replace h' := PoE.mono E3 h'
                cases b with
                | bl b =>
                  refine ⟨b, rz, ?_⟩
                  cases b with
                  | true =>
                    refine ⟨m3, S2, ds1, r3, rs2.mono E3, ?_⟩
                    simp only at h'
                    cases e2 : fe ds1 S2 with
                    | ok u S3 =>
                      rw [e2] at h'
                      intro m4 H4 y E4 r4 ry
                      replace h' := PoE.mono E4 h'
                      have E14 := (E12.trans E3).trans E4
                      unfold lcA at h'
                      simp only at h'
                      split at h'
                      · rename_i ys hys
                        split at h'
                        · rename_i hz
                          have hz := small_ok hz
                          have gm : m4[S1.length]? = some D := E14.get gD
                          obtain ⟨vs4, ha4, hs4⟩ := r4.at gm hys
                          have EW : Ext m4 H4 m4 (upd H4 D (.lst (vs4 ++ [y]))) := Ext.write r4 (List.mem_of_getElem? gm) ha4
                          exact ⟨vs4, ha4, by rw [← hs4.len]; omega, by omega, m4, S3.set S1.length (.lst (ys ++ [u])), E14.trans EW, r4.write gm ha4 ⟨_, upd_same, (hs4.append (RVs.cons ry RVs.nil)).mono EW⟩, PoE.mono EW h'⟩
                        · exact h'.elim
                      · exact h'.elim
                    | ex c fs S3 => rw [e2] at h'; exact h'.elim
                    | no => rw [e2] at h'; exact h'.elim
                  | false => exact ⟨by omega, m3, S2, E12.trans E3, r3, h'⟩
                | _ => exact h'.elim
              | ex c fs S2 => rw [e1] at h'; exact h'.elim
              | no => rw [e1] at h'; exact h'.elim
variable {elt : Expr} {ifs : List Expr} {scope : Scope} {own : List (Str × Nat)} {ft : LE}
theorem pl_lc {t : Bool} (hc : X.calm = true) (hN : X.N.Nodup) (hi : PI X tg e (tI X.K T ξ W li)) (ok : BlkOk X.N X.env.scope scope own)
    (hg : ∀ (s : Shared) (H : Hp) (C : Addr) (cl : List (Str × Addr)) (fp : List Addr), PG (X.blk s H scope (compEnvC scope cl C X.env) fp) tg (tGC X.K T ξ (own.map (·.2)) lg))
    (ht : ∀ (s : Shared) (H : Hp) (C : Addr) (cl : List (Str × Addr)) (fp : List Addr), PTs (X.blk s H scope (compEnvC scope cl C X.env) fp) ifs (tTest (tL X.K T ξ WF ft)))
    (he : ∀ (s : Shared) (H : Hp) (C : Addr) (cl : List (Str × Addr)) (fp : List Addr), PE (X.blk s H scope (compEnvC scope cl C X.env) fp) elt (tL X.K T ξ WF fe)) (hs : ∀ x, foldedSetIterable e X.env x = pure x := by intro _; rfl) :
    PE X (.ListComp elt [⟨tg, e, ifs, 0⟩] scope pos) (tL X.K T ξ W (lLcG t li lg ft fe (own.map (·.2)))) := pe_imp (pe_lc hc hN hi ok hg ht he hs) lc_read
theorem sl_setLc {t : Bool} (i : Nat) {y : Str} {py spos : Pos} (hc : X.calm = true) (hN : X.N.Nodup) (hy : X.N[i]? = some y) (hyl : X.env.scope.names.lookup y = some .local)
    (hsw : swapsWith (.ListComp elt [⟨tg, e, ifs, 0⟩] scope pos) (some (.Name y py)) spos.line X.env = pure true) (hi : PI X tg e (tI X.K T ξ W li)) (ok : BlkOk X.N X.env.scope scope own)
    (hg : ∀ (s : Shared) (H : Hp) (C : Addr) (cl : List (Str × Addr)) (fp : List Addr), PG (X.blk s H scope (compEnvC scope cl C X.env) fp) tg (tGC X.K T ξ (own.map (·.2)) lg))
    (ht : ∀ (s : Shared) (H : Hp) (C : Addr) (cl : List (Str × Addr)) (fp : List Addr), PTs (X.blk s H scope (compEnvC scope cl C X.env) fp) ifs (tTest (tL X.K T ξ WF ft)))
    (he : ∀ (s : Shared) (H : Hp) (C : Addr) (cl : List (Str × Addr)) (fp : List Addr), PE (X.blk s H scope (compEnvC scope cl C X.env) fp) elt (tL X.K T ξ WF fe)) (hs : ∀ x, foldedSetIterable e X.env x = pure x := by intro _; rfl) :
    PS X (.Assign [.Name y py] (.ListComp elt [⟨tg, e, ifs, 0⟩] scope pos) spos) (tLS X.K T ξ W (lAsg (lLcG t li lg ft fe (own.map (·.2))) (gNm i))) :=
  ps_imp (ps_setLc hc hN hy hyl hsw hi ok hg ht he hs) fun D σ H ⟨m, S, ds, r, rs, h⟩ => lc_read σ H _ (tL.bindS r rs h fun v S1 m1 H1 x E r1 rs1 rv h1 => h1 m1 H1 _ Ext.refl r1 (rs1.set i (RVx.of rv)))
end
/-! ### {} -/
def lDnew : LE := fun _ S => .ok (.ref S.length) (S ++ [.dct []])
section
variable {X : Cx} {T : Env1} {ξ : Xi} {W : WX} {pos : Pos}
theorem fin_dct {K : PySem.W.Frag} {m : List Addr} {S : Sto} {H : Hp} {kvs : List (Key × LV)} {ws : List (Key × V)} {Q : VK} {W : XK} (r : RelS K T m S H) (hk : ws.map (·.1) = kvs.map (·.1)) (rv : RVs K m H (kvs.map (·.2)) (ws.map (·.2)))
    (h : PoE K T m H (.ok (.ref S.length) (S ++ [.dct kvs])) Q W) : ∀ p, H p = none → Q (.ref p) (upd H p (.dK ws)) := fun p hp => by
  have E : Ext m H (m ++ [p]) (upd H p (.dK ws)) := Ext.alloc r hp
  refine h _ _ _ E (r.alloc hp ⟨ws, upd_same, hk, rv.mono E⟩) ?_
  unfold RV
  exact ⟨p, rfl, by rw [← r.len, List.getElem?_append_right (Nat.le_refl _), Nat.sub_self] <;> rfl⟩
theorem pl_dnew : PE X (.Dict [] [] pos) (tL X.K T ξ W lDnew) := pe_imp pe_dnewK fun σ H Q ⟨m, S, ds, r, rs, h⟩ => fin_dct r rfl RVs.nil h
/-- a tuple of the module's -/
theorem pl_globT {x : Str} {vs : List LV} {xs : List V} (h : ∃ a, X.mg x = some (.ref a) ∧ ∀ H, SqT X.K H a xs) (hg : Gl X x) (rv : ∀ m H, RVs X.K m H vs xs) (hd : (x == ("__debug__" : Str)) = false := by decide) : PE X (.Name x pos) (tL X.K T ξ W (lC (.ktp vs))) := by
  obtain ⟨a, h1, h2⟩ := h
  refine pl_c (pe_glob (v := .ref a) hg h1 rfl hd) fun m H => ?_
  unfold RV
  exact ⟨a, xs, rfl, h2, rv m H⟩
end
/-! ### a def -/
section
variable {P : Program} {w : World} {K : PySem.W.Frag} {mg : Str → Option Value} {base : Heap} {T : Env1}
theorem fn_ok {t : Bool} {x qual : Str} {st : Stmt} {f : Addr} {fd : FuncData} {N ps : List Str} {k : Nat} {g : LS} (F : Fun K x qual st f fd) (S : FnScope N ps (defScope st))
    (hbody : ∀ (cdv : Value) (A : Around) (outer : List Env) (s : Shared) (H : Hp) (E : XK), Room k (A.deeper (envOfC qual (defScope st) s.heap.objs.size f cdv)) →
      PSs (cxOf (L2N.CX P w) P w K mg base N qual (defScope st) f cdv A outer s H E) (defBody st) (tLS K T ξ0 (fun cls d _ H => E cls d H) g)) : FnOk P w K mg base (L2N.CX P w) (k + 1) f fd ps (spF K T (mkFnG t ps.length N.length g)) := by
  obtain ⟨oc, od, kV, doc, pm, an, cdv, ct, osl, rfl, lk, hcd⟩ := F.ex
  refine fn_of lk hcd S (fun vs H Q E h => ?_) (fun A outer s H vs Q E hr h => ⟨_, hbody cdv A outer s H E hr, ?_⟩)
  · obtain ⟨m, S', xs, r, rv, h⟩ := h
    unfold mkFnG at h
    split at h
    · rename_i hl
      rw [← rv.len, hl]
    · exact h.elim
  · obtain ⟨m, S', xs, r, rv, h⟩ := h
    refine ⟨m, S', _, r, RSl.start rv, ?_⟩
    unfold mkFnG at h
    split at h
    · rename_i hl
      replace h := gcG_sound r h
      rw [hl]
      cases e : g (xs.map some ++ List.replicate (N.length - ps.length) none) S' with
      | nx ds S2 =>
        rw [e] at h
        exact fun m' H' σ' E' r' rs' => h m' H' .non E' r' rfl
      | rt v S2 =>
        rw [e] at h
        exact fun m' H' x E' r' rv' => h m' H' x E' r' rv'
      | ex c fs ds S2 =>
        rw [e] at h
        exact fun m' H' σ' cls d E' r' rs' rx => h m' H' cls d E' r' rx
      | bk ds S2 => rw [e] at h; exact h.elim
      | ct ds S2 => rw [e] at h; exact h.elim
      | no => rw [e] at h; exact h.elim
    · exact h.elim
/-- the law's own promise -/
def scrOk (K : PySem.W.Frag) (H : Hp) (a : Addr) (ns : List Int) : Prop := (∃ o, H a = some (.frz o (.lst (ns.map V.int)))) ∨ ∀ H', SqL K H' a (ns.map V.int)
def spTop (K : PySem.W.Frag) : Sp := fun vs H Q _ => ∃ a ns, vs = [.ref a] ∧ scrOk K H a ns ∧ ns.length ≤ 63 ∧ ∀ H', Q (.bl true) H'
theorem top_sp {H : Hp} {a : Addr} {ns : List Int} (hl : ns.length ≤ 63) (hO : Only H) (hS : SqL K H a (ns.map V.int)) : spTop K [.ref a] H (fun v _ => v = .bl true) fun _ _ _ => False := by
  refine ⟨a, ns, rfl, ?_, hl, fun _ => rfl⟩
  rcases hS with (h | ⟨o, h⟩) | h
  · rcases hO a with z | ⟨o, xs, z⟩
    · rw [z] at h; cases h
    · rw [z] at h; cases h
  · exact .inl ⟨o, h⟩
  · exact .inr fun _ => .inr h
theorem top_no {H : Hp} {s s' : Shared} {e : Value} (h : L2N.CX P w [] H s (fun _ _ _ => False) e s') : False := by
  obtain ⟨_, _, _, _, _, _, _, _, _, _, _, _, z⟩ := h
  exact z.elim
theorem top_law {f : Addr} {fd : FuncData} {ps : List Str} {k : Nat} {g : Fn} (F : FnOk P w K mg base (L2N.CX P w) k f fd ps (spF K T g)) (hg : ∀ ns : List Int, ns.length ≤ 63 → ∃ S, g [.scr ns] [] = .ok (.bl true) S) : FnOk P w K mg base (L2N.CX P w) k f fd ps (spTop K) :=
  F.imp fun vs H Q E ⟨a, ns, ev, hs, hl, q⟩ => by
    subst ev
    obtain ⟨S, e⟩ := hg ns hl
    refine ⟨[], [], [.scr ns], RelS.nil, RVs.cons (by unfold RV; exact ⟨a, rfl, hs⟩) RVs.nil, ?_⟩
    rw [e]
    intro m' H' x E' r' rv
    cases (show x = .bl true from rv)
    exact q H'
end
end LL


set_option Elab.async false
set_option linter.all false
set_option maxRecDepth 100000
set_option maxHeartbeats 2000000
/-! The logical layer: how it is reckoned with. -/
namespace LL
open PySem PySem.Spec PyProof.Rows L2

/-! ### results -/
def op2 (o : Op2) (v : LV) : R → R
  | .ok w S => o v w S
  | .ex c fs S => .ex c fs S
  | .no => .no
def op1 (o : Op2) (fb : LE) (ds : Sl) : R → R
  | .ok v S => op2 o v (fb ds S)
  | .ex c fs S => .ex c fs S
  | .no => .no
def un1 (o : Op1) : R → R
  | .ok v S => o v S
  | .ex c fs S => .ex c fs S
  | .no => .no
def and1 (fb : LE) (ds : Sl) : R → R
  | .ok (.bl true) S => fb ds S
  | .ok (.bl false) S => .ok (.bl false) S
  | .ok _ _ => .no
  | .ex c fs S => .ex c fs S
  | .no => .no
def or1 (fb : LE) (ds : Sl) : R → R
  | .ok (.bl true) S => .ok (.bl true) S
  | .ok (.bl false) S => fb ds S
  | .ok _ _ => .no
  | .ex c fs S => .ex c fs S
  | .no => .no
def not1 : R → R
  | .ok (.bl b) S => .ok (.bl !b) S
  | .ok _ _ => .no
  | .ex c fs S => .ex c fs S
  | .no => .no
def ite1 (fa fb : LE) (ds : Sl) : R → R
  | .ok (.bl true) S => fa ds S
  | .ok (.bl false) S => fb ds S
  | .ok _ _ => .no
  | .ex c fs S => .ex c fs S
  | .no => .no
def ch2 (o o' : Op2) (v : LV) (fc : LE) (ds : Sl) : R → R
  | .ok w S => match o v w S with
    | .ok (.bl true) S3 => op2 o' w (fc ds S3)
    | .ok (.bl false) S3 => .ok (.bl false) S3
    | .ok _ _ => .no
    | .ex c fs S => .ex c fs S
    | .no => .no
  | .ex c fs S => .ex c fs S
  | .no => .no
def ch3 (o' : Op2) (w : LV) (fc : LE) (ds : Sl) : R → R
  | .ok (.bl true) S3 => op2 o' w (fc ds S3)
  | .ok (.bl false) S3 => .ok (.bl false) S3
  | .ok _ _ => .no
  | .ex c fs S => .ex c fs S
  | .no => .no
def ch1 (o o' : Op2) (fb fc : LE) (ds : Sl) : R → R
  | .ok v S => ch2 o o' v fc ds (fb ds S)
  | .ex c fs S => .ex c fs S
  | .no => .no
def cons1 (fr : LA) (ds : Sl) : R → RL
  | .ok v S => consK v (fr ds S)
  | .ex c fs S => .ex c fs S
  | .no => .no
def app1 (o : OpN) : RL → R
  | .ok vs S => o vs S
  | .ex c fs S => .ex c fs S
  | .no => .no
def part1 (f : Option Int → Sto → R) : R → R
  | .ok (.int i) S => f (some i) S
  | .ok _ _ => .no
  | .ex c fs S => .ex c fs S
  | .no => .no
def sl3 (t : Bool) (v : LV) (l : Option Int) : R → R
  | .ok (.int i) S => slG t v l (some i) S
  | .ok _ _ => .no
  | .ex c fs S => .ex c fs S
  | .no => .no
def sl2h (t : Bool) (v : LV) (l : Option Int) (hi : Option LE) (ds : Sl) (S : Sto) : R := match hi with
  | none => slG t v l none S
  | some f => sl3 t v l (f ds S)
def sl2 (t : Bool) (v : LV) (hi : Option LE) (ds : Sl) : R → R
  | .ok (.int i) S => sl2h t v (some i) hi ds S
  | .ok _ _ => .no
  | .ex c fs S => .ex c fs S
  | .no => .no
def sl1 (t : Bool) (lo hi : Option LE) (ds : Sl) : R → R
  | .ok v S => match lo with
    | none => sl2h t v none hi ds S
    | some f => sl2 t v hi ds (f ds S)
  | .ex c fs S => .ex c fs S
  | .no => .no
def bm2 (o : OpM) (v : LV) : RL → R
  | .ok vs S => o v vs S
  | .ex c fs S => .ex c fs S
  | .no => .no
def bm1 (n : String) (o : OpM) (fa : LA) (ds : Sl) : R → R
  | .ok v S => if isT n v S = true then bm2 o v (fa ds S) else .no
  | .ex c fs S => .ex c fs S
  | .no => .no
def bm0 (n : String) (o : OpM) : R → R
  | .ok v S => if isT n v S = true then o v [] S else .no
  | .ex c fs S => .ex c fs S
  | .no => .no
def drop1 (ds : Sl) : R → RS
  | .ok _ S => .nx ds S
  | .ex c fs S => .ex c fs ds S
  | .no => .no
def ret1 (ds : Sl) : R → RS
  | .ok v S => .rt v S
  | .ex c fs S => .ex c fs ds S
  | .no => .no
def if1 (a b : LS) (ds : Sl) : R → RS
  | .ok (.bl true) S => a ds S
  | .ok (.bl false) S => b ds S
  | .ok _ _ => .no
  | .ex c fs S => .ex c fs ds S
  | .no => .no
def asg1 (g : LG) (ds : Sl) : R → RS
  | .ok v S => asgK g ds v S
  | .ex c fs S => .ex c fs ds S
  | .no => .no
def it1 : R → RI
  | .ok v S => iterO v S
  | .ex c fs S => .ex c fs S
  | .no => .no
def ita1 (f : List LV → Sto → RI) : RL → RI
  | .ok v S => f v S
  | .ex c fs S => .ex c fs S
  | .no => .no
section
variable {v w : LV} {vs fs : List LV} {ds : Sl} {S S' U : Sto} {o o' : Op2} {fa fb fc : LE} {fr : LA} {c n i : Nat} {x : Option LV} {a b : LS} {g : LG}
/-! ### how each is opened -/
@[simp] theorem e_var0 (h : isX v = false) : lVar 0 (some v :: ds) S = .ok v S := by simp [lVar, h]
@[simp] theorem e_varS : lVar (i + 1) (x :: ds) S = lVar i ds S := by simp [lVar]
@[simp] theorem e_c : lC v ds S = .ok v S := (rfl)
@[simp] theorem e_yes : lYes ds S = .ok (.bl true) S := (rfl)
@[simp] theorem e_op : lOp o fa fb ds S = op1 o fb ds (fa ds S) := by
  unfold lOp
  cases fa ds S with
  | ok v S1 =>
    show (fb ds S1).bind _ = op2 o v (fb ds S1)
    cases fb ds S1 <;> rfl
  | _ => rfl
@[simp] theorem e_un {o : Op1} : lUn o fa ds S = un1 o (fa ds S) := by unfold lUn; cases fa ds S <;> rfl
@[simp] theorem e_and : lAnd fa fb ds S = and1 fb ds (fa ds S) := by
  unfold lAnd
  cases fa ds S with
  | ok v S1 => cases v with
    | bl b => cases b <;> rfl
    | _ => rfl
  | _ => rfl
@[simp] theorem e_or : lOr fa fb ds S = or1 fb ds (fa ds S) := by
  unfold lOr
  cases fa ds S with
  | ok v S1 => cases v with
    | bl b => cases b <;> rfl
    | _ => rfl
  | _ => rfl
@[simp] theorem e_not : lNot fa ds S = not1 (fa ds S) := by
  unfold lNot
  cases fa ds S with
  | ok v S1 => cases v <;> rfl
  | _ => rfl
@[simp] theorem e_ite : lIte fc fa fb ds S = ite1 fa fb ds (fc ds S) := by
  unfold lIte
  cases fc ds S with
  | ok v S1 => cases v with
    | bl b => cases b <;> rfl
    | _ => rfl
  | _ => rfl
@[simp] theorem e_chain : lChain o o' fa fb fc ds S = ch1 o o' fb fc ds (fa ds S) := by
  unfold lChain
  cases fa ds S with
  | ok v S1 =>
    show (fb ds S1).bind _ = ch2 o o' v fc ds (fb ds S1)
    cases fb ds S1 with
    | ok w S2 =>
      show (o v w S2).bind _ = _
      unfold ch2
      simp only
      cases o v w S2 with
      | ok u S3 => cases u with
        | bl b => cases b with
          | true => show (fc ds S3).bind _ = op2 o' w (fc ds S3); cases fc ds S3 <;> rfl
          | false => rfl
        | _ => rfl
      | _ => rfl
    | _ => rfl
  | _ => rfl
@[simp] theorem e_nil : lNil ds S = .ok [] S := (rfl)
@[simp] theorem e_cons : lCons fa fr ds S = cons1 fr ds (fa ds S) := by unfold lCons; cases fa ds S <;> rfl
@[simp] theorem e_tup : lTup fr ds S = app1 mkTup (fr ds S) := by unfold lTup; cases fr ds S <;> rfl
@[simp] theorem e_lst : lLst fr ds S = app1 (mkLst false) (fr ds S) := by unfold lLst; cases fr ds S <;> rfl
@[simp] theorem e_lsT : lLsT fr ds S = app1 (mkLst true) (fr ds S) := by unfold lLsT; cases fr ds S <;> rfl
@[simp] theorem e_bi {o : OpN} : lBi o fr ds S = app1 o (fr ds S) := by unfold lBi; cases fr ds S <;> rfl
@[simp] theorem e_call {g : Fn} : lCall g fr ds S = app1 g (fr ds S) := by unfold lCall; cases fr ds S <;> rfl
@[simp] theorem e_sl {t : Bool} {lo hi : Option LE} : lSlG t fa lo hi ds S = sl1 t lo hi ds (fa ds S) := by
  unfold lSlG
  cases fa ds S with
  | ok v S1 =>
    have hh : ∀ l S2, partK hi ds S2 (fun h S3 => slG t v l h S3) = sl2h t v l hi ds S2 := fun l S2 => by
      cases hi with
      | none => rfl
      | some f =>
        show (f ds S2).bind _ = sl3 t v l (f ds S2)
        cases f ds S2 with
        | ok u S3 => cases u <;> rfl
        | _ => rfl
    cases lo with
    | none => exact hh none S1
    | some f =>
      show (f ds S1).bind _ = sl2 t v hi ds (f ds S1)
      cases f ds S1 with
      | ok u S2 => cases u with
        | int i => exact hh _ _
        | _ => rfl
      | _ => rfl
  | _ => rfl
@[simp] theorem e_bm {n : String} {o : OpM} : lBm n o fa fr ds S = bm1 n o fr ds (fa ds S) := by
  unfold lBm
  cases fa ds S with
  | ok v S1 =>
    show (if isT n v S1 = true then (fr ds S1).bind (fun vs S2 => o v vs S2) else .no) = (if isT n v S1 = true then bm2 o v (fr ds S1) else .no)
    cases fr ds S1 <;> rfl
  | _ => rfl
@[simp] theorem e_bm0 {n : String} {o : OpM} : lBm0 n o fa ds S = bm0 n o (fa ds S) := by unfold lBm0; cases fa ds S <;> rfl
@[simp] theorem e_seq : lSeq a b ds S = seqK b (a ds S) := (rfl)
@[simp] theorem e_nx : lNx ds S = .nx ds S := (rfl)
@[simp] theorem e_drop : lDrop fa ds S = drop1 ds (fa ds S) := by unfold lDrop; cases fa ds S <;> rfl
@[simp] theorem e_ret : lRet fa ds S = ret1 ds (fa ds S) := by unfold lRet; cases fa ds S <;> rfl
@[simp] theorem e_retN : lRetN ds S = .rt .non S := (rfl)
@[simp] theorem e_brk : lBrk ds S = .bk ds S := (rfl)
@[simp] theorem e_cnt : lCnt ds S = .ct ds S := (rfl)
@[simp] theorem e_if : lIf fc a b ds S = if1 a b ds (fc ds S) := by
  unfold lIf
  cases fc ds S with
  | ok v S1 => cases v with
    | bl b => cases b <;> rfl
    | _ => rfl
  | _ => rfl
@[simp] theorem e_asg : lAsg fa g ds S = asg1 g ds (fa ds S) := by unfold lAsg; cases fa ds S <;> rfl
@[simp] theorem e_iter : lIter fa ds S = it1 (fa ds S) := by unfold lIter; cases fa ds S <;> rfl
@[simp] theorem e_rng1 : lRng1 fr ds S = ita1 rng1O (fr ds S) := by unfold lRng1; cases fr ds S <;> rfl
@[simp] theorem e_rng2 : lRng2 fr ds S = ita1 rng2O (fr ds S) := by unfold lRng2; cases fr ds S <;> rfl
@[simp] theorem e_for {li : LI} {fb : LS} : lFor li g fb ds S = forS g fb ds (li ds S) := (rfl)
@[simp] theorem e_lc {t : Bool} {li : LI} {ft fe : LE} {us : List Nat} : lLcG t li g ft fe us ds S = lcR t g ft fe (wipeL ds us) (li ds S) := (rfl)
@[simp] theorem e_dnew : lDnew ds S = .ok (.ref S.length) (S ++ [.dct []]) := (rfl)
@[simp] theorem e_nm : asgK (gNm i) ds v S = .nx (ds.set i (some v)) S := (rfl)
theorem e_fn {N : Nat} {s : LS} (h : vs.length = n) : mkFn n N s vs S = gcF S (fin (s (vs.map some ++ List.replicate (N - n) none) S)) := by unfold mkFn mkFnG; rw [if_pos h]; rfl
theorem e_fnT {N : Nat} {s : LS} (h : vs.length = n) : mkFnT n N s vs S = gcT S (fin (s (vs.map some ++ List.replicate (N - n) none) S)) := by unfold mkFnT mkFnG; rw [if_pos h]; rfl
/-! ### what is behind -/
@[simp] theorem op1_ok : op1 o fb ds (.ok v S) = op2 o v (fb ds S) := (rfl)
@[simp] theorem op1_ex : op1 o fb ds (.ex c fs S) = .ex c fs S := (rfl)
@[simp] theorem op2_ok : op2 o v (.ok w S) = o v w S := (rfl)
@[simp] theorem op2_ex : op2 o v (.ex c fs S) = .ex c fs S := (rfl)
@[simp] theorem un1_ok {o : Op1} : un1 o (.ok v S) = o v S := (rfl)
@[simp] theorem un1_ex {o : Op1} : un1 o (.ex c fs S) = .ex c fs S := (rfl)
@[simp] theorem and1_t : and1 fb ds (.ok (.bl true) S) = fb ds S := (rfl)
@[simp] theorem and1_f : and1 fb ds (.ok (.bl false) S) = .ok (.bl false) S := (rfl)
@[simp] theorem and1_ex : and1 fb ds (.ex c fs S) = .ex c fs S := (rfl)
@[simp] theorem or1_t : or1 fb ds (.ok (.bl true) S) = .ok (.bl true) S := (rfl)
@[simp] theorem or1_f : or1 fb ds (.ok (.bl false) S) = fb ds S := (rfl)
@[simp] theorem or1_ex : or1 fb ds (.ex c fs S) = .ex c fs S := (rfl)
@[simp] theorem not1_ok {k : Bool} : not1 (.ok (.bl k) S) = .ok (.bl !k) S := (rfl)
@[simp] theorem not1_ex : not1 (.ex c fs S) = .ex c fs S := (rfl)
@[simp] theorem ite1_t : ite1 fa fb ds (.ok (.bl true) S) = fa ds S := (rfl)
@[simp] theorem ite1_f : ite1 fa fb ds (.ok (.bl false) S) = fb ds S := (rfl)
@[simp] theorem ite1_ex : ite1 fa fb ds (.ex c fs S) = .ex c fs S := (rfl)
@[simp] theorem ch1_ok : ch1 o o' fb fc ds (.ok v S) = ch2 o o' v fc ds (fb ds S) := (rfl)
@[simp] theorem ch2_ok : ch2 o o' v fc ds (.ok w S) = ch3 o' w fc ds (o v w S) := (rfl)
@[simp] theorem ch3_t : ch3 o' w fc ds (.ok (.bl true) S) = op2 o' w (fc ds S) := (rfl)
@[simp] theorem ch3_f : ch3 o' w fc ds (.ok (.bl false) S) = .ok (.bl false) S := (rfl)
@[simp] theorem cons1_ok : cons1 fr ds (.ok v S) = consK v (fr ds S) := (rfl)
@[simp] theorem cons1_ex : cons1 fr ds (.ex c fs S) = .ex c fs S := (rfl)
@[simp] theorem consK_ok : consK v (.ok vs S) = .ok (v :: vs) S := (rfl)
@[simp] theorem consK_ex : consK v (.ex c fs S) = .ex c fs S := (rfl)
@[simp] theorem app1_ok {o : OpN} : app1 o (.ok vs S) = o vs S := (rfl)
@[simp] theorem app1_ex {o : OpN} : app1 o (.ex c fs S) = .ex c fs S := (rfl)
@[simp] theorem sl1_nn {t : Bool} : sl1 t none none ds (.ok v S) = slG t v none none S := (rfl)
@[simp] theorem sl1_nh {t : Bool} : sl1 t none (some fb) ds (.ok v S) = sl3 t v none (fb ds S) := (rfl)
@[simp] theorem sl1_l {t : Bool} {hi : Option LE} : sl1 t (some fa) hi ds (.ok v S) = sl2 t v hi ds (fa ds S) := (rfl)
@[simp] theorem sl2_n {t : Bool} {k : Int} : sl2 t v none ds (.ok (.int k) S) = slG t v (some k) none S := (rfl)
@[simp] theorem sl2_h {t : Bool} {k : Int} : sl2 t v (some fb) ds (.ok (.int k) S) = sl3 t v (some k) (fb ds S) := (rfl)
@[simp] theorem sl3_ok {t : Bool} {k : Int} {l : Option Int} : sl3 t v l (.ok (.int k) S) = slG t v l (some k) S := (rfl)
theorem bm1_ok {n : String} {o : OpM} (h : isT n v S = true) : bm1 n o fr ds (.ok v S) = bm2 o v (fr ds S) := by unfold bm1; simp [h]
theorem bm0_ok {n : String} {o : OpM} (h : isT n v S = true) : bm0 n o (.ok v S) = o v [] S := by unfold bm0; simp [h]
@[simp] theorem bm1_l {o : OpM} {xs : List LV} : bm1 "list" o fr ds (.ok (.lst xs) S) = bm2 o (.lst xs) (fr ds S) := bm1_ok (by simp [isT])
@[simp] theorem bm1_s {o : OpM} {z : Str} : bm1 "str" o fr ds (.ok (.str z) S) = bm2 o (.str z) (fr ds S) := bm1_ok (by simp [isT])
@[simp] theorem bm2_ok {o : OpM} : bm2 o v (.ok vs S) = o v vs S := (rfl)
@[simp] theorem drop1_ok : drop1 ds (.ok v S) = .nx ds S := (rfl)
@[simp] theorem drop1_ex : drop1 ds (.ex c fs S) = .ex c fs ds S := (rfl)
@[simp] theorem ret1_ok : ret1 ds (.ok v S) = .rt v S := (rfl)
@[simp] theorem ret1_ex : ret1 ds (.ex c fs S) = .ex c fs ds S := (rfl)
@[simp] theorem if1_t : if1 a b ds (.ok (.bl true) S) = a ds S := (rfl)
@[simp] theorem if1_f : if1 a b ds (.ok (.bl false) S) = b ds S := (rfl)
@[simp] theorem if1_ex : if1 a b ds (.ex c fs S) = .ex c fs ds S := (rfl)
@[simp] theorem asg1_ok : asg1 g ds (.ok v S) = asgK g ds v S := (rfl)
@[simp] theorem asg1_ex : asg1 g ds (.ex c fs S) = .ex c fs ds S := (rfl)
@[simp] theorem seq_nx : seqK b (.nx ds S) = b ds S := (rfl)
@[simp] theorem seq_rt : seqK b (.rt v S) = .rt v S := (rfl)
@[simp] theorem seq_bk : seqK b (.bk ds S) = .bk ds S := (rfl)
@[simp] theorem seq_ct : seqK b (.ct ds S) = .ct ds S := (rfl)
@[simp] theorem seq_ex : seqK b (.ex c fs ds S) = .ex c fs ds S := (rfl)
@[simp] theorem fin_nx : fin (.nx ds S) = .ok .non S := (rfl)
@[simp] theorem fin_rt : fin (.rt v S) = .ok v S := (rfl)
@[simp] theorem fin_ex : fin (.ex c fs ds S) = .ex c fs S := (rfl)
@[simp] theorem it1_ok : it1 (.ok v S) = iterO v S := (rfl)
@[simp] theorem ita1_ok {f : List LV → Sto → RI} : ita1 f (.ok vs S) = f vs S := (rfl)
theorem if1_b {k : Bool} : if1 a b ds (.ok (.bl k) S) = if k = true then a ds S else b ds S := by cases k <;> rfl
theorem ite1_b {k : Bool} : ite1 fa fb ds (.ok (.bl k) S) = if k = true then fa ds S else fb ds S := by cases k <;> rfl
/-! ### what nobody holds is dropped -/
@[simp] theorem low_int {k : Int} : lowV n (.int k) = true := (rfl)
@[simp] theorem low_str {k : Str} : lowV n (.str k) = true := (rfl)
@[simp] theorem low_bl {k : Bool} : lowV n (.bl k) = true := (rfl)
@[simp] theorem low_non : lowV n .non = true := (rfl)
@[simp] theorem low_scr {ns : List Int} : lowV n (.scr ns) = true := (rfl)
@[simp] theorem low_tup : lowV n (.tup vs) = lowVs n vs := (rfl)
@[simp] theorem low_ktp : lowV n (.ktp vs) = lowVs n vs := (rfl)
@[simp] theorem low_ref {k : Nat} : lowV n (.ref k) = decide (k < n) := (rfl)
@[simp] theorem lows_nil : lowVs n [] = true := (rfl)
@[simp] theorem lows_cons : lowVs n (v :: vs) = (lowV n v && lowVs n vs) := (rfl)
@[simp] theorem low_lst : lowV n (.lst vs) = lowVs n vs := (rfl)
theorem gc_bl {S S' : Sto} {k : Bool} : ∃ S2, gcF S (.ok (.bl k) S') = .ok (.bl k) S2 := by
  unfold gcF
  simp only
  cases gcS S S' S'.length with
  | some S2 => simp only; rw [frz_low rfl]; exact ⟨_, rfl⟩
  | none => exact ⟨_, rfl⟩
@[simp] theorem gcG_t {r : R} : gcG true S r = gcT S r := by unfold gcG; rw [if_pos rfl]
@[simp] theorem gcG_f {r : R} : gcG false S r = gcF S r := by unfold gcG; rw [if_neg (by simp)]
@[simp] theorem newL_t : newL true vs S = .ok (.ref S.length) (S ++ [.lst vs]) := (rfl)
@[simp] theorem newL_f : newL false vs S = .ok (.lst vs) S := (rfl)
@[simp] theorem mkLst_ok {t : Bool} (h : vs.length ≤ 16777216) : mkLst t vs S = newL t vs S := by unfold mkLst small; rw [if_pos (decide_eq_true h)]
@[simp] theorem mkTup_ok (h : vs.length ≤ 16777216) : mkTup vs S = .ok (.tup vs) S := by unfold mkTup small; rw [if_pos (decide_eq_true h)]
@[simp] theorem get_app0 : (S ++ U)[S.length]? = U[0]? := by rw [List.getElem?_append_right (Nat.le_refl _), Nat.sub_self]
@[simp] theorem get_app {k : Nat} : (S ++ U)[S.length + k]? = U[k]? := by rw [List.getElem?_append_right (Nat.le_add_right _ _), Nat.add_sub_cancel_left]
theorem set_app0 {o : LO} : (S ++ U).set S.length o = S ++ U.set 0 o := by
  rw [List.set_append_right _ _ (Nat.le_refl _), Nat.sub_self]
theorem set_app {k : Nat} {o : LO} : (S ++ U).set (S.length + k) o = S ++ U.set k o := by
  rw [List.set_append_right _ _ (Nat.le_add_right _ _), Nat.add_sub_cancel_left]
end
/-! ### loops over what is known -/
def forL (lg : LG) (fb : LS) : List LV → Sl → Sto → RS
  | [], ds, S => .nx ds S
  | v :: vs, ds, S => match lg v S ds with
    | none => .no
    | some ds1 => match fb ds1 S with
      | .nx ds2 S2 => forL lg fb vs ds2 S2
      | .ct ds2 S2 => forL lg fb vs ds2 S2
      | .bk ds2 S2 => .nx ds2 S2
      | r => r
theorem for_ofAux (lg : LG) (fb : LS) (xs : List LV) : ∀ (k i : Nat) (ds : Sl) (S : Sto), i + k = xs.length → forK (itOf xs) lg fb k i ds S = forL lg fb (xs.drop i) ds S
  | 0, i, ds, S, h => by
    have : xs.drop i = [] := List.drop_eq_nil_of_le (by omega)
    rw [this]
    rfl
  | k + 1, i, ds, S, h => by
    have hi : i < xs.length := by omega
    rw [List.drop_eq_getElem_cons hi]
    have e : xs[i]? = some xs[i] := List.getElem?_eq_getElem hi
    unfold forK forL
    show (match xs[i]? with | none => RS.no | some v => _) = _
    rw [e]
    simp only
    cases lg xs[i] S ds with
    | none => rfl
    | some ds1 =>
      simp only
      cases fb ds1 S with
      | nx ds2 S2 => exact for_ofAux lg fb xs k (i + 1) ds2 S2 (by omega)
      | ct ds2 S2 => exact for_ofAux lg fb xs k (i + 1) ds2 S2 (by omega)
      | _ => rfl
theorem forS_of {lg : LG} {fb : LS} {xs : List LV} {ds : Sl} {S : Sto} : forS lg fb ds (.ok (itOf xs) S) = forL lg fb xs ds S := by
  show forK (itOf xs) lg fb xs.length 0 ds S = _
  rw [for_ofAux lg fb xs _ _ _ _ (by omega), List.drop_zero]
@[simp] theorem forS_ex {lg : LG} {fb : LS} {ds : Sl} {S : Sto} {c : Nat} {fs : List LV} : forS lg fb ds (.ex c fs S) = .ex c fs ds S := (rfl)
/-- what is walked is known -/
def ItIs (S : Sto) (l : LIt) (xs : List LV) : Prop := l.n = xs.length ∧ ∀ U : Sto, (∀ i v, xs[i]? = some v → l.item i (S ++ U) = some v) ∧ l.fine (S ++ U) = true
theorem ItIs.n {S : Sto} {l : LIt} {xs : List LV} (h : ItIs S l xs) : l.n = xs.length := h.1
theorem ItIs.item {S : Sto} {l : LIt} {xs : List LV} (h : ItIs S l xs) {i : Nat} {v : LV} (e : xs[i]? = some v) : l.item i S = some v := by
  have := (h.2 []).1 i v e
  rwa [List.append_nil] at this
theorem ItIs.fine {S : Sto} {l : LIt} {xs : List LV} (h : ItIs S l xs) : l.fine S = true := by
  have := (h.2 []).2
  rwa [List.append_nil] at this
theorem ItIs.of {S : Sto} {xs : List LV} : ItIs S (itOf xs) xs := ⟨rfl, fun U => ⟨fun i v e => e, rfl⟩⟩
theorem ItIs.ref {S : Sto} {n : Nat} {xs : List LV} (h : S[n]? = some (.lst xs)) : ItIs S (itRef n xs.length) xs := ⟨rfl, fun U => by
  have hn : (S ++ U)[n]? = some (.lst xs) := by rw [List.getElem?_append_left (List.getElem?_eq_some_iff.mp h).1]; exact h
  refine ⟨fun i v e => ?_, ?_⟩
  · show refI n xs.length i (S ++ U) = _
    unfold refI
    rw [hn]
    simp [e]
  · show refF n xs.length (S ++ U) = _
    unfold refF
    rw [hn]
    simp⟩
theorem ItIs.app {S U : Sto} {l : LIt} {xs : List LV} (h : ItIs S l xs) : ItIs (S ++ U) l xs := ⟨h.1, fun V => by
  rw [List.append_assoc]
  exact h.2 (U ++ V)⟩
/-- a comprehension that leaves the store -/
theorem lcK_map {β : Type} {lg : LG} {ft fe : LE} {ds : Sl} {S : Sto} {l : LIt} {ws : List β} {g : β → LV} (p : β → Bool) (f : β → LV) (hl : ItIs S l (ws.map g)) (hs : ws.length ≤ 16777216)
    (h : ∀ b ∈ ws, ∀ acc, ∃ ds1, lg (g b) (S ++ [.lst acc]) ds = some ds1 ∧ ft ds1 (S ++ [.lst acc]) = .ok (.bl (p b)) (S ++ [.lst acc]) ∧ (p b = true → fe ds1 (S ++ [.lst acc]) = .ok (f b) (S ++ [.lst acc]))) :
    ∀ (k i : Nat) (acc : List LV), i + k = ws.length → acc.length ≤ i → lcK l lg ft fe ds S.length k i (S ++ [.lst acc]) = .ok (.ref S.length) (S ++ [.lst (acc ++ ((ws.drop i).filter p).map f)])
  | 0, i, acc, e, _ => by
    have : ws.drop i = [] := List.drop_eq_nil_of_le (by omega)
    rw [this]
    unfold lcK
    rw [if_pos hl.app.fine]
    simp
  | k + 1, i, acc, e, ha => by
    have hi : i < ws.length := by omega
    rw [List.drop_eq_getElem_cons hi]
    obtain ⟨ds1, h1, h2, h3⟩ := h ws[i] (List.getElem_mem hi) acc
    unfold lcK
    rw [hl.app.item (v := g ws[i]) (by rw [List.getElem?_map, List.getElem?_eq_getElem hi]; rfl)]
    simp only
    rw [h1]
    simp only
    rw [h2]
    cases ht : p ws[i] with
    | true =>
      simp only
      rw [h3 ht]
      simp only
      unfold lcA
      rw [show (S ++ [LO.lst acc])[S.length]? = some (.lst acc) by rw [get_app0]; rfl]
      simp only
      rw [if_pos (by unfold small; exact decide_eq_true (by omega)), set_app0]
      show lcK l lg ft fe ds S.length k (i + 1) (S ++ [.lst (acc ++ [f ws[i]])]) = _
      rw [lcK_map p f hl hs h k (i + 1) _ (by omega) (by simp; omega), List.filter_cons, if_pos ht, List.map_cons, List.append_assoc]
      rfl
    | false =>
      simp only
      rw [lcK_map p f hl hs h k (i + 1) _ (by omega) (by omega), List.filter_cons, if_neg (by rw [ht]; simp)]
theorem lows_all {n : Nat} {vs : List LV} : lowVs n vs = true ↔ ∀ v ∈ vs, lowV n v = true := by
  induction vs with
  | nil => exact ⟨fun _ v h => (by cases h), fun _ => rfl⟩
  | cons v vs ih =>
    rw [lows_cons, Bool.and_eq_true, ih]
    constructor
    · rintro ⟨h1, h2⟩ w hw
      rcases List.mem_cons.mp hw with rfl | hw
      · exact h1
      · exact h2 w hw
    · exact fun h => ⟨h v (List.mem_cons_self ..), fun w hw => h w (List.mem_cons_of_mem _ hw)⟩
theorem lcR_map {β : Type} {t : Bool} {lg : LG} {ft fe : LE} {ds : Sl} {S : Sto} {l : LIt} {ws : List β} {g : β → LV} (p : β → Bool) (f : β → LV) (hl : ItIs S l (ws.map g)) (hs : ws.length ≤ 16777216)
    (h : ∀ b ∈ ws, ∀ acc, ∃ ds1, lg (g b) (S ++ [.lst acc]) ds = some ds1 ∧ ft ds1 (S ++ [.lst acc]) = .ok (.bl (p b)) (S ++ [.lst acc]) ∧ (p b = true → fe ds1 (S ++ [.lst acc]) = .ok (f b) (S ++ [.lst acc])))
    (hlow : ∀ b ∈ ws, p b = true → lowV S.length (f b) = true) :
    lcR t lg ft fe ds (.ok l S) = newL t ((ws.filter p).map f) S := by
  show gcG t S (lcK l lg ft fe ds S.length l.n 0 (S ++ [.lst []])) = _
  rw [hl.n, List.length_map, lcK_map p f hl hs h ws.length 0 [] (by omega) (by simp), List.drop_zero, List.nil_append]
  have low : lowVs S.length ((ws.filter p).map f) = true := lows_all.mpr fun v hv => by
    obtain ⟨b, hb, rfl⟩ := List.mem_map.mp hv
    obtain ⟨h1, h2⟩ := List.mem_filter.mp hb
    exact hlow b h1 h2
  cases t with
  | true => rw [gcG_t, gcT_new0 rfl low]; rfl
  | false => rw [gcG_f, gc_frz0 rfl low]; rfl
/-- .. without a test -/
theorem lcR_all {β : Type} {t : Bool} {lg : LG} {fe : LE} {ds : Sl} {S : Sto} {l : LIt} {ws : List β} {g : β → LV} (f : β → LV) (hl : ItIs S l (ws.map g)) (hs : ws.length ≤ 16777216)
    (h : ∀ b ∈ ws, ∀ acc, ∃ ds1, lg (g b) (S ++ [.lst acc]) ds = some ds1 ∧ fe ds1 (S ++ [.lst acc]) = .ok (f b) (S ++ [.lst acc])) (hlow : ∀ b ∈ ws, lowV S.length (f b) = true) :
    lcR t lg lYes fe ds (.ok l S) = newL t (ws.map f) S := by
  rw [lcR_map (fun _ => true) f hl hs (fun b hb acc => by
    obtain ⟨ds1, h1, h2⟩ := h b hb acc
    exact ⟨ds1, h1, e_yes, fun _ => h2⟩) fun b hb _ => hlow b hb, List.filter_eq_self.mpr fun _ _ => rfl]
/-! ### for -/
/-- one turn -/
def turn (lg : LG) (fb : LS) (v : LV) (ds : Sl) (S : Sto) : RS := match lg v S ds with
  | none => .no
  | some ds1 => match fb ds1 S with
    | .ct ds2 S2 => .nx ds2 S2
    | r => r
/-- for, in general: what is kept (a), what is not looked at (j) -/
theorem forK_gen {α β J : Type} {lg : LG} {fb : LS} {l : LIt} {ws : List β} {g : β → LV} (D : α → J → Sl) (T : α → Sto) (step : α → β → Except RS α) (P : α → Prop) (hl : ∀ a, P a → ItIs (T a) l (ws.map g))
    (h : ∀ b ∈ ws, ∀ a j, P a → match step a b with
      | .ok a' => P a' ∧ ∃ j', turn lg fb (g b) (D a j) (T a) = .nx (D a' j') (T a')
      | .error r => turn lg fb (g b) (D a j) (T a) = r ∧ (match r with | .nx _ _ => False | .ct _ _ => False | .bk _ _ => False | _ => True)) :
    ∀ (k i : Nat) (a : α) (j : J), i + k = ws.length → P a → match (ws.drop i).foldlM step a with
      | .ok a' => P a' ∧ ∃ j', forK l lg fb k i (D a j) (T a) = .nx (D a' j') (T a')
      | .error r => forK l lg fb k i (D a j) (T a) = r
  | 0, i, a, j, e, p => by
    have : ws.drop i = [] := List.drop_eq_nil_of_le (by omega)
    rw [this]
    refine ⟨p, j, ?_⟩
    unfold forK
    rw [if_pos (hl a p).fine]
  | k + 1, i, a, j, e, p => by
    have hi : i < ws.length := by omega
    rw [List.drop_eq_getElem_cons hi, List.foldlM_cons]
    have q := h ws[i] (List.getElem_mem hi) a j p
    have it := (hl a p).item (i := i) (v := g ws[i]) (by rw [List.getElem?_map, List.getElem?_eq_getElem hi]; rfl)
    unfold forK
    rw [it]
    simp only
    unfold turn at q
    cases hd : lg (g ws[i]) (T a) (D a j) with
    | none =>
      rw [hd] at q
      cases hs : step a ws[i] with
      | ok a' =>
        rw [hs] at q
        obtain ⟨_, _, q⟩ := q
        cases q
      | error r =>
        rw [hs] at q
        exact q.1
    | some ds1 =>
      rw [hd] at q
      simp only at q ⊢
      cases hs : step a ws[i] with
      | ok a' =>
        rw [hs] at q
        obtain ⟨pa, j', q⟩ := q
        have ih := forK_gen D T step P hl h k (i + 1) a' j' (by omega) pa
        show match (ws.drop (i + 1)).foldlM step a' with | .ok a' => _ | .error r => _
        cases hf : fb ds1 (T a) with
        | nx ds2 S2 =>
          rw [hf] at q
          cases q
          exact ih
        | ct ds2 S2 =>
          rw [hf] at q
          cases q
          exact ih
        | _ => rw [hf] at q; cases q
      | error r =>
        rw [hs] at q
        obtain ⟨q, q2⟩ := q
        show (match fb ds1 (T a) with | .nx ds2 S2 => forK l lg fb k (i + 1) ds2 S2 | .ct ds2 S2 => forK l lg fb k (i + 1) ds2 S2 | .bk ds2 S2 => .nx ds2 S2 | r => r) = r
        cases hf : fb ds1 (T a) with
        | nx ds2 S2 => rw [hf] at q; subst q; exact q2.elim
        | ct ds2 S2 => rw [hf] at q; subst q; exact q2.elim
        | bk ds2 S2 => rw [hf] at q; subst q; exact q2.elim
        | _ => rw [hf] at q; exact q
theorem for_gen {α β J : Type} {lg : LG} {fb : LS} {l : LIt} {ws : List β} {g : β → LV} (D : α → J → Sl) (T : α → Sto) (step : α → β → Except RS α) (P : α → Prop) (hl : ∀ a, P a → ItIs (T a) l (ws.map g))
    (h : ∀ b ∈ ws, ∀ a j, P a → match step a b with
      | .ok a' => P a' ∧ ∃ j', turn lg fb (g b) (D a j) (T a) = .nx (D a' j') (T a')
      | .error r => turn lg fb (g b) (D a j) (T a) = r ∧ (match r with | .nx _ _ => False | .ct _ _ => False | .bk _ _ => False | _ => True)) (a : α) (j : J) (p : P a) :
    match ws.foldlM step a with
      | .ok a' => P a' ∧ ∃ j', forS lg fb (D a j) (.ok l (T a)) = .nx (D a' j') (T a')
      | .error r => forS lg fb (D a j) (.ok l (T a)) = r := by
  have := forK_gen D T step P hl h ws.length 0 a j (by omega) p
  rw [List.drop_zero] at this
  have e : forS lg fb (D a j) (.ok l (T a)) = forK l lg fb ws.length 0 (D a j) (T a) := by
    show forK l lg fb l.n 0 _ _ = _
    rw [(hl a p).n, List.length_map]
  rw [e]
  exact this
theorem foldlM_ok {α β ε : Type} (f : α → β → α) : ∀ (ws : List β) (a : α), ws.foldlM (fun a b => (.ok (f a b) : Except ε α)) a = .ok (ws.foldl f a)
  | [], a => rfl
  | b :: ws, a => by rw [List.foldlM_cons, List.foldl_cons]; exact foldlM_ok f ws (f a b)
/-- .. each turn a step -/
theorem for_fold {α β J : Type} {lg : LG} {fb : LS} {l : LIt} {ws : List β} {g : β → LV} (D : α → J → Sl) (T : α → Sto) (f : α → β → α) (P : α → Prop) (hl : ∀ a, P a → ItIs (T a) l (ws.map g))
    (h : ∀ b ∈ ws, ∀ a j, P a → P (f a b) ∧ ∃ j', turn lg fb (g b) (D a j) (T a) = .nx (D (f a b) j') (T (f a b))) (a : α) (j : J) (p : P a) :
    P (ws.foldl f a) ∧ ∃ j', forS lg fb (D a j) (.ok l (T a)) = .nx (D (ws.foldl f a) j') (T (ws.foldl f a)) := by
  have := for_gen (lg := lg) (fb := fb) (l := l) (ws := ws) (g := g) D T (fun a b => .ok (f a b)) P hl (fun b hb a j p => h b hb a j p) a j p
  rw [foldlM_ok] at this
  exact this
/-- .. a hit ends it -/
theorem for_find {β J : Type} {lg : LG} {fb : LS} {l : LIt} {S : Sto} {ws : List β} {g : β → LV} (D : J → Sl) (p : β → Bool) (r : β → RS) (hl : ItIs S l (ws.map g))
    (h : ∀ b ∈ ws, ∀ j, (p b = false → ∃ j', turn lg fb (g b) (D j) S = .nx (D j') S) ∧ (p b = true → turn lg fb (g b) (D j) S = r b ∧ (match r b with | .nx _ _ => False | .ct _ _ => False | .bk _ _ => False | _ => True))) (j : J) :
    match ws.find? p with
      | some b => forS lg fb (D j) (.ok l S) = r b
      | none => ∃ j', forS lg fb (D j) (.ok l S) = .nx (D j') S := by
  have := for_gen (α := Unit) (lg := lg) (fb := fb) (l := l) (ws := ws) (g := g) (fun _ => D) (fun _ => S) (fun _ b => if p b = true then .error (r b) else .ok ()) (fun _ => True) (fun _ _ => hl) (fun b hb _ j _ => by
    obtain ⟨h1, h2⟩ := h b hb j
    cases hp : p b with
    | true => simp only [if_true]; exact h2 hp
    | false => exact ⟨trivial, h1 hp⟩) () j trivial
  have e : ∀ ws : List β, ws.foldlM (fun (_ : Unit) b => if p b = true then (.error (r b) : Except RS Unit) else .ok ()) () = match ws.find? p with | some b => .error (r b) | none => .ok () := by
    intro ws
    induction ws with
    | nil => rfl
    | cons b ws ih =>
      rw [List.foldlM_cons, List.find?_cons]
      cases hp : p b with
      | true => rfl
      | false => exact ih
  rw [e] at this
  cases hf : ws.find? p with
  | some b => rw [hf] at this; exact this
  | none => rw [hf] at this; exact this.2
/-! ### operators on what is known -/
/-- the signs of a text; the text of one sign -/
def tl (z : Str) : List Nat := z.cps.toList
def one (c : Nat) : Str := ⟨#[c]⟩
theorem signs_tl (z : Str) : LL.signs z = (tl z).map fun c => .str (one c) := (rfl)
section
variable {i j : Int} {y z : Str} {S : Sto} {p q : Bool} {v w : LV} {vs us : List LV}
@[simp] theorem add_ii {t : Bool} : addG t (.int i) (.int j) S = .ok (.int (i + j)) S := (rfl)
theorem add_ss {t : Bool} (h : y.length + z.length ≤ 16777216) : addG t (.str y) (.str z) S = .ok (.str (y ++ z)) S := by simp [addG, small, h]
theorem add_ll {t : Bool} {xs ys : List LV} (hv : lsO v S = some xs) (hw : lsO w S = some ys) (h : xs.length + ys.length ≤ 16777216) : addG t v w S = newL t (xs ++ ys) S := by
  have hn : small (xs.length + ys.length) = true := by unfold small; exact decide_eq_true h
  unfold addG
  split
  · cases hv
  · cases hv
  · cases hv
  · simp only [hv, hw, hn, if_true]
@[simp] theorem ls_l {xs : List LV} : lsO (.lst xs) S = some xs := (rfl)
theorem ls_r {n : Nat} {xs : List LV} (h : S[n]? = some (.lst xs)) : lsO (.ref n) S = some xs := by simp [lsO, h]
theorem add_tt {t : Bool} (h : vs.length + us.length ≤ 16777216) : addG t (.tup vs) (.tup us) S = .ok (.tup (vs ++ us)) S := by simp [addG, small, h]
@[simp] theorem sub_ii : subL (.int i) (.int j) S = .ok (.int (i - j)) S := (rfl)
theorem mul_l {t : Bool} (h : -(2 ^ 64) < i) (h2 : i < 2 ^ 64) : mulG t (.int i) (.int j) S = .ok (.int (i * j)) S := by
  have : okMul i j = true := by simp only [okMul, Bool.or_eq_true, Bool.and_eq_true, decide_eq_true_eq]; exact .inl (.inl ⟨h, h2⟩)
  simp only [mulG, this, if_true]
theorem mul_r {t : Bool} (h : -(2 ^ 64) < j) (h2 : j < 2 ^ 64) : mulG t (.int i) (.int j) S = .ok (.int (i * j)) S := by
  have : okMul i j = true := by simp only [okMul, Bool.or_eq_true, Bool.and_eq_true, decide_eq_true_eq]; exact .inl (.inr ⟨h, h2⟩)
  simp only [mulG, this, if_true]
theorem mul_b {t : Bool} (h : -bigB ≤ i ∧ i ≤ bigB) (h2 : -bigB ≤ j ∧ j ≤ bigB) : mulG t (.int i) (.int j) S = .ok (.int (i * j)) S := by
  have : okMul i j = true := by simp only [okMul, Bool.or_eq_true, Bool.and_eq_true, decide_eq_true_eq]; exact .inr ⟨⟨⟨h.1, h.2⟩, h2.1⟩, h2.2⟩
  simp only [mulG, this, if_true]
theorem div_ii (h : 0 < j) (h2 : j ≤ 10 ^ 70) : divL (.int i) (.int j) S = .ok (.int (i / j)) S := by
  have : okDiv j = true := by unfold okDiv bigB; rw [decide_eq_true h, decide_eq_true h2]; rfl
  simp only [divL, this, if_true]
theorem mod_ii (h : 0 < j) : modL (.int i) (.int j) S = .ok (.int (i % j)) S := by simp only [modL, h, if_true]
theorem pow_ii (h : 0 ≤ j) (h2 : j ≤ 1000000) (h3 : i.natAbs < 2 ^ 64) : powL (.int i) (.int j) S = .ok (.int (i ^ j.toNat)) S := by
  have : okPow i j = true := by simp only [okPow, Bool.and_eq_true, decide_eq_true_eq]; exact ⟨⟨h, h2⟩, h3⟩
  simp only [powL, this, if_true]
@[simp] theorem neg_i : negL (.int i) S = .ok (.int (-i)) S := (rfl)
@[simp] theorem lt_ii : ltL (.int i) (.int j) S = .ok (.bl (decide (i < j))) S := (rfl)
@[simp] theorem le_ii : leL (.int i) (.int j) S = .ok (.bl (decide (i ≤ j))) S := (rfl)
@[simp] theorem gt_ii : gtL (.int i) (.int j) S = .ok (.bl (decide (j < i))) S := (rfl)
@[simp] theorem ge_ii : geL (.int i) (.int j) S = .ok (.bl (decide (j ≤ i))) S := (rfl)
@[simp] theorem lt_ss : ltL (.str y) (.str z) S = .ok (.bl (sLt y z)) S := (rfl)
@[simp] theorem le_ss : leL (.str y) (.str z) S = .ok (.bl (!sLt z y)) S := (rfl)
@[simp] theorem gt_ss : gtL (.str y) (.str z) S = .ok (.bl (sLt z y)) S := (rfl)
@[simp] theorem ge_ss : geL (.str y) (.str z) S = .ok (.bl (!sLt y z)) S := (rfl)
@[simp] theorem eq_ii : eqL (.int i) (.int j) S = .ok (.bl (decide (i = j))) S := (rfl)
theorem tl_beq (y z : Str) : decide (y = z) = (tl y == tl z) := by
  by_cases h : y = z
  · subst h
    rw [decide_eq_true rfl, beq_self_eq_true]
  · rw [decide_eq_false h]
    symm
    exact beq_false_of_ne fun e => h (TL.ext_tl e)
@[simp] theorem eq_ss : eqL (.str y) (.str z) S = .ok (.bl (tl y == tl z)) S := by rw [← tl_beq]; rfl
@[simp] theorem eq_bb : eqL (.bl p) (.bl q) S = .ok (.bl (decide (p = q))) S := (rfl)
@[simp] theorem eq_nn : eqL .non .non S = .ok (.bl true) S := (rfl)
@[simp] theorem eq_in : eqL (.int i) .non S = .ok (.bl false) S := (rfl)
@[simp] theorem eq_ni : eqL .non (.int i) S = .ok (.bl false) S := (rfl)
@[simp] theorem eq_sn : eqL (.str y) .non S = .ok (.bl false) S := (rfl)
@[simp] theorem eq_ns : eqL .non (.str y) S = .ok (.bl false) S := (rfl)
@[simp] theorem eq_is : eqL (.int i) (.str y) S = .ok (.bl false) S := (rfl)
@[simp] theorem eq_si : eqL (.str y) (.int i) S = .ok (.bl false) S := (rfl)
@[simp] theorem ne_ii : neL (.int i) (.int j) S = .ok (.bl (!decide (i = j))) S := (rfl)
@[simp] theorem ne_ss : neL (.str y) (.str z) S = .ok (.bl (!(tl y == tl z))) S := by rw [← tl_beq]; rfl
@[simp] theorem ne_bb : neL (.bl p) (.bl q) S = .ok (.bl (!decide (p = q))) S := (rfl)
@[simp] theorem ne_nn : neL .non .non S = .ok (.bl false) S := (rfl)
@[simp] theorem ne_in : neL (.int i) .non S = .ok (.bl true) S := (rfl)
@[simp] theorem ne_ni : neL .non (.int i) S = .ok (.bl true) S := (rfl)
@[simp] theorem ne_sn : neL (.str y) .non S = .ok (.bl true) S := (rfl)
@[simp] theorem is_n : isL v .non S = .ok (.bl (isN v)) S := by cases v <;> rfl
@[simp] theorem isnot_n : isnotL v .non S = .ok (.bl (!isN v)) S := by cases v <;> rfl
@[simp] theorem is_bb : isL (.bl p) (.bl q) S = .ok (.bl (decide (p = q))) S := (rfl)
@[simp] theorem isnot_bb : isnotL (.bl p) (.bl q) S = .ok (.bl (!decide (p = q))) S := (rfl)
@[simp] theorem isN_n : isN .non = true := (rfl)
@[simp] theorem isN_i : isN (.int i) = false := (rfl)
@[simp] theorem isN_s : isN (.str y) = false := (rfl)
@[simp] theorem isN_b : isN (.bl p) = false := (rfl)
@[simp] theorem isN_t : isN (.tup vs) = false := (rfl)
@[simp] theorem isN_r {n : Nat} : isN (.ref n) = false := (rfl)
@[simp] theorem isX_n : isX .non = false := (rfl)
@[simp] theorem isX_i : isX (.int i) = false := (rfl)
@[simp] theorem isX_s : isX (.str y) = false := (rfl)
@[simp] theorem isX_b : isX (.bl p) = false := (rfl)
@[simp] theorem isX_t : isX (.tup vs) = false := (rfl)
@[simp] theorem isX_r {n : Nat} : isX (.ref n) = false := (rfl)
@[simp] theorem isX_c {ns : List Int} : isX (.scr ns) = false := (rfl)
@[simp] theorem in_ss : inL (.str y) (.str z) S = .ok (.bl (inT y z)) S := (rfl)
@[simp] theorem nin_ss : notinL (.str y) (.str z) S = .ok (.bl (!inT y z)) S := (rfl)
@[simp] theorem inT_1 {c : Nat} : inT (one c) z = decide (c ∈ tl z) := by simp [inT, tl, one]
theorem str_i (h : -(10 ^ 70) ≤ i) (h2 : i ≤ 10 ^ 70) : strL [.int i] S = .ok (.str (toString i)) S := by
  have : okNum i = true := by unfold okNum bigB; rw [decide_eq_true h, decide_eq_true h2]; rfl
  simp only [strL, this, if_true]
theorem len_s (h : z.length ≤ 16777216) : lenL [.str z] S = .ok (.int z.length) S := by simp [lenL, lenO, okStr, small, h]
@[simp] theorem len_c {ns : List Int} : lenL [.scr ns] S = .ok (.int ns.length) S := (rfl)
@[simp] theorem len_t : lenL [.tup vs] S = .ok (.int vs.length) S := (rfl)
@[simp] theorem isi_i {n : String} : isiL [.int i, .ty n] S = (match isiT "int" n with | some b => .ok (.bl b) S | none => .no) := (rfl)
@[simp] theorem isi_b {n : String} : isiL [.bl p, .ty n] S = (match isiT "bool" n with | some b => .ok (.bl b) S | none => .no) := (rfl)
@[simp] theorem isi_s {n : String} : isiL [.str y, .ty n] S = (match isiT "str" n with | some b => .ok (.bl b) S | none => .no) := (rfl)
@[simp] theorem isi_n {n : String} : isiL [.non, .ty n] S = (match isiT "NoneType" n with | some b => .ok (.bl b) S | none => .no) := (rfl)
@[simp] theorem isi_t {n : String} : isiL [.tup vs, .ty n] S = (match isiT "tuple" n with | some b => .ok (.bl b) S | none => .no) := (rfl)
theorem isi_l {n k : String} {S : Sto} {m : Nat} {xs : List LV} (h : S[m]? = some (.lst xs)) : isiL [.ref m, .ty n] S = (match isiT "list" n with | some b => .ok (.bl b) S | none => .no) := by
  simp only [isiL, kindL, h]
  all_goals (cases isiT _ n <;> rfl)
theorem isi_d {n k : String} {S : Sto} {m : Nat} {xs} (h : S[m]? = some (.dct xs)) : isiL [.ref m, .ty n] S = (match isiT "dict" n with | some b => .ok (.bl b) S | none => .no) := by
  simp only [isiL, kindL, h]
  all_goals (cases isiT _ n <;> rfl)
theorem sl_s {t : Bool} {lo hi : Option Int} (h : z.length ≤ 16777216) : slG t (.str z) lo hi S = .ok (.str (cutS z lo hi)) S := by simp [slG, okStr, small, h]
theorem sl_ls {t : Bool} {lo hi : Option Int} {xs : List LV} (h : lsO v S = some xs) : slG t v lo hi S = newL t (cutL xs lo hi) S := by
  unfold slG
  split
  · cases h
  · cases h
  · cases h
  · simp only [h]
@[simp] theorem sl_tp {t : Bool} {lo hi : Option Int} : slG t (.tup vs) lo hi S = .ok (.tup (cutL vs lo hi)) S := (rfl)
@[simp] theorem len_l : lenL [.lst vs] S = .ok (.int vs.length) S := (rfl)
@[simp] theorem iter_l : iterO (.lst vs) S = .ok (itOf vs) S := (rfl)
@[simp] theorem isN_l : isN (.lst vs) = false := (rfl)
@[simp] theorem isX_l : isX (.lst vs) = false := (rfl)
@[simp] theorem isi_ls {n : String} : isiL [.lst vs, .ty n] S = (match isiT "list" n with | some b => .ok (.bl b) S | none => .no) := (rfl)
@[simp] theorem iter_s : iterO (.str z) S = .ok (itOf (LL.signs z)) S := (rfl)
@[simp] theorem iter_c {ns : List Int} : iterO (.scr ns) S = .ok (itOf (ns.map .int)) S := (rfl)
@[simp] theorem iter_t : iterO (.tup vs) S = .ok (itOf vs) S := (rfl)
@[simp] theorem iter_k : iterO (.ktp vs) S = .ok (itOf vs) S := (rfl)
theorem rng1_e (h : -(2 ^ 62) ≤ j) (h2 : j < 2 ^ 62) : rng1O [.int j] S = .ok (itOf (rng 0 j.toNat)) S := by
  have : okRg j = true := by simp only [okRg, Bool.and_eq_true, decide_eq_true_eq]; exact ⟨h, h2⟩
  simp only [rng1O, this, if_true]
theorem rng2_e (h : -(2 ^ 62) ≤ i) (h2 : i < 2 ^ 62) (h3 : -(2 ^ 62) ≤ j) (h4 : j < 2 ^ 62) : rng2O [.int i, .int j] S = .ok (itOf (rng i (j - i).toNat)) S := by
  have : (okRg i && okRg j) = true := by simp only [okRg, Bool.and_eq_true, decide_eq_true_eq]; exact ⟨⟨h, h2⟩, h3, h4⟩
  simp only [rng2O, this, if_true]
@[simp] theorem isiT_ii : isiT "int" "int" = some true := by decide
@[simp] theorem isiT_ib : isiT "int" "bool" = some false := by decide
@[simp] theorem isiT_is : isiT "int" "str" = some false := by decide
@[simp] theorem isiT_il : isiT "int" "list" = some false := by decide
@[simp] theorem isiT_it : isiT "int" "tuple" = some false := by decide
@[simp] theorem isiT_bi : isiT "bool" "int" = some true := by decide
@[simp] theorem isiT_bb : isiT "bool" "bool" = some true := by decide
@[simp] theorem isiT_bs : isiT "bool" "str" = some false := by decide
@[simp] theorem isiT_bl : isiT "bool" "list" = some false := by decide
@[simp] theorem isiT_bt : isiT "bool" "tuple" = some false := by decide
@[simp] theorem isiT_si : isiT "str" "int" = some false := by decide
@[simp] theorem isiT_sb : isiT "str" "bool" = some false := by decide
@[simp] theorem isiT_ss : isiT "str" "str" = some true := by decide
@[simp] theorem isiT_sl : isiT "str" "list" = some false := by decide
@[simp] theorem isiT_st : isiT "str" "tuple" = some false := by decide
@[simp] theorem isiT_ni : isiT "NoneType" "int" = some false := by decide
@[simp] theorem isiT_nb : isiT "NoneType" "bool" = some false := by decide
@[simp] theorem isiT_ns : isiT "NoneType" "str" = some false := by decide
@[simp] theorem isiT_nl : isiT "NoneType" "list" = some false := by decide
@[simp] theorem isiT_nt : isiT "NoneType" "tuple" = some false := by decide
@[simp] theorem isiT_ti : isiT "tuple" "int" = some false := by decide
@[simp] theorem isiT_tb : isiT "tuple" "bool" = some false := by decide
@[simp] theorem isiT_ts : isiT "tuple" "str" = some false := by decide
@[simp] theorem isiT_tl : isiT "tuple" "list" = some false := by decide
@[simp] theorem isiT_tt : isiT "tuple" "tuple" = some true := by decide
@[simp] theorem isiT_li : isiT "list" "int" = some false := by decide
@[simp] theorem isiT_lb : isiT "list" "bool" = some false := by decide
@[simp] theorem isiT_ls : isiT "list" "str" = some false := by decide
@[simp] theorem isiT_ll : isiT "list" "list" = some true := by decide
@[simp] theorem isiT_lt : isiT "list" "tuple" = some false := by decide
@[simp] theorem isiT_di : isiT "dict" "int" = some false := by decide
@[simp] theorem isiT_db : isiT "dict" "bool" = some false := by decide
@[simp] theorem isiT_ds : isiT "dict" "str" = some false := by decide
@[simp] theorem isiT_dl : isiT "dict" "list" = some false := by decide
@[simp] theorem isiT_dt : isiT "dict" "tuple" = some false := by decide
end
end LL


set_option Elab.async false
set_option linter.all false
set_option maxRecDepth 100000
set_option maxHeartbeats 2000000
/-! The logical layer: texts by their signs, subscripts, comparing lists. -/
namespace LL
open PySem PySem.Spec PyProof.Rows L2

theorem tl_ext {y z : Str} (h : tl y = tl z) : y = z := TL.ext_tl h
theorem tl_eq {y z : Str} : y = z ↔ tl y = tl z := ⟨fun h => h ▸ rfl, tl_ext⟩
theorem deq (y z : Str) : decide (y = z) = decide (tl y = tl z) := by
  by_cases h : y = z
  · rw [decide_eq_true h, decide_eq_true (tl_eq.mp h)]
  · rw [decide_eq_false h, decide_eq_false fun k => h (tl_eq.mpr k)]
@[simp] theorem tl_one (c : Nat) : tl (one c) = [c] := (rfl)
@[simp] theorem tl_emp : tl ("" : Str) = [] := (rfl)
@[simp] theorem len_one (c : Nat) : (one c).length = 1 := (rfl)
theorem filter_not_empty {α : Type} (p : α → Bool) : ∀ l : List α, (l.filter (fun c => !p c)).isEmpty = l.all p
  | [] => rfl
  | a :: l => by
    rw [List.filter_cons, List.all_cons]
    cases h : p a
    · simp
    · simp [filter_not_empty p l]
theorem tl_app (y z : Str) : tl (y ++ z) = tl y ++ tl z := TL.tl_append y z
theorem tl_len (z : Str) : z.length = (tl z).length := TL.len_tl z
theorem app_len (y z : Str) : (y ++ z).length = y.length + z.length := by rw [tl_len, tl_app, List.length_append, ← tl_len, ← tl_len]
theorem len_tl (z : Str) : (tl z).length = z.length := (tl_len z).symm
theorem tl_mk (l : List Nat) : tl ⟨l.toArray⟩ = l := (rfl)
theorem tl_cut (z : Str) (lo hi : Option Int) : tl (cutS z lo hi) = ((tl z).drop (HT.sIx z.length 0 lo)).take (HT.sIx z.length z.length hi - HT.sIx z.length 0 lo) := (rfl)
theorem cut_to (z : Str) {k : Int} (h : 0 ≤ k) : tl (cutS z none (some k)) = (tl z).take k.toNat := by
  rw [tl_cut]
  show ((tl z).drop 0).take ((if k < 0 then (k + (z.length : Int)).toNat else min k.toNat z.length) - 0) = _
  rw [if_neg (by omega), List.drop_zero, Nat.sub_zero, tl_len, ← List.take_take, List.take_length]
theorem cut_from (z : Str) {k : Int} (h : 0 ≤ k) : tl (cutS z (some k) none) = (tl z).drop k.toNat := by
  rw [tl_cut]
  show ((tl z).drop (if k < 0 then (k + (z.length : Int)).toNat else min k.toNat z.length)).take (z.length - (if k < 0 then (k + (z.length : Int)).toNat else min k.toNat z.length)) = _
  rw [if_neg (by omega), tl_len]
  by_cases c : k.toNat ≤ (tl z).length
  · rw [Nat.min_eq_left c]
    exact List.take_of_length_le (by rw [List.length_drop]; exact Nat.le_refl _)
  · rw [Nat.min_eq_right (by omega), List.drop_length, List.drop_eq_nil_of_le (by omega)]
    simp
theorem cut_last (z : Str) : tl (cutS z (some (-1)) none) = (tl z).drop ((tl z).length - 1) := by
  rw [tl_cut]
  show ((tl z).drop (if (-1 : Int) < 0 then (-1 + (z.length : Int)).toNat else min (-1 : Int).toNat z.length)).take (z.length - (if (-1 : Int) < 0 then (-1 + (z.length : Int)).toNat else min (-1 : Int).toNat z.length)) = _
  rw [if_pos (by decide), tl_len, show (-1 + ((tl z).length : Int)).toNat = (tl z).length - 1 by omega]
  exact List.take_of_length_le (by rw [List.length_drop]; exact Nat.le_refl _)
theorem cut_len (z : Str) (lo hi : Option Int) : (cutS z lo hi).length ≤ z.length := cutS_length z lo hi
/-- a cell of a script; a sign of a text -/
def cell (ns : List Int) (k : Int) : Int := ns.getD k.toNat 0
def atN (l : List Nat) (i : Int) : Nat := l.getD i.toNat 0
/-- the sign at each of some numbers -/
def codes (g : Int → Nat) (lo : Int) (n : Nat) : List Nat := (List.range n).map fun k : Nat => g (lo + (k : Int))
theorem codes_len (g : Int → Nat) (lo : Int) (n : Nat) : (codes g lo n).length = n := by simp [codes]
theorem codes_all {g : Int → Nat} {lo : Int} {n m : Nat} (h : ∀ k : Nat, k < n → g (lo + k) < m) : ∀ c ∈ codes g lo n, c < m := fun c hc => by
  obtain ⟨k, hk, rfl⟩ := List.mem_map.mp hc
  exact h k (List.mem_range.mp hk)
theorem getD_lt {l : List Nat} {i m : Nat} (h : ∀ c ∈ l, c < m) (hi : i < l.length) : l.getD i 0 < m := by
  rw [List.getD_eq_getElem?_getD, List.getElem?_eq_getElem hi]
  exact h _ (List.getElem_mem hi)
theorem atN_lt {l : List Nat} {i : Int} {m : Nat} (h : ∀ c ∈ l, c < m) (h0 : 0 ≤ i) (hi : i < l.length) : atN l i < m := getD_lt h (by omega)
section
variable {i j : Int} {y z : Str} {S : Sto} {v w : LV} {vs us : List LV}
theorem atI_nn {α : Type} {xs : List α} {j : Int} (h : 0 ≤ j) : atI xs j = xs[j.toNat]? := by
  unfold atI ixN
  rw [if_pos h]
  by_cases c : j < xs.length
  · rw [if_pos c]; rfl
  · rw [if_neg c, List.getElem?_eq_none (by omega)]; rfl
theorem atI_m1 {α : Type} {xs : List α} : atI xs (-1) = xs[xs.length - 1]? := by
  unfold atI ixN
  rw [if_neg (by omega)]
  by_cases c : -(xs.length : Int) ≤ -1
  · rw [if_pos c, show (-1 + (xs.length : Int)).toNat = xs.length - 1 by omega]; rfl
  · rw [if_neg c, List.getElem?_eq_none (by omega)]; rfl
theorem ix_c {ns : List Int} (h : 0 ≤ j) (h2 : j < ns.length) : ixL (.scr ns) (.int j) S = .ok (.int (cell ns j)) S := by
  unfold cell
  simp only [ixL, ixO, atI_nn h]
  have hl : j.toNat < ns.length := by omega
  rw [List.getElem?_eq_getElem hl, List.getD_eq_getElem?_getD, List.getElem?_eq_getElem hl]
  rfl
theorem ix_s (h : 0 ≤ j) (h2 : j < z.length) (h3 : z.length ≤ 16777216) : ixL (.str z) (.int j) S = .ok (.str (one (atN (tl z) j))) S := by
  unfold atN
  have hs : okStr z = true := by unfold okStr small; exact decide_eq_true h3
  simp only [ixL, ixO, atI_nn h, hs, if_true]
  have hl : j.toNat < (tl z).length := by rw [len_tl]; omega
  rw [show z.cps.toList = tl z from rfl, List.getElem?_eq_getElem hl, List.getD_eq_getElem?_getD, List.getElem?_eq_getElem hl]
  rfl
theorem ix_s1 (h2 : 0 < z.length) (h3 : z.length ≤ 16777216) : ixL (.str z) (.int (-1)) S = .ok (.str (one ((tl z).getD ((tl z).length - 1) 0))) S := by
  have hs : okStr z = true := by unfold okStr small; exact decide_eq_true h3
  simp only [ixL, ixO, atI_m1, hs, if_true]
  have hl : (tl z).length - 1 < (tl z).length := by rw [len_tl]; omega
  rw [show z.cps.toList = tl z from rfl, List.getElem?_eq_getElem hl, List.getD_eq_getElem?_getD, List.getElem?_eq_getElem hl]
  rfl
theorem ix_s0 {a : Nat} {l : List Nat} (h : tl z = a :: l) (h3 : z.length ≤ 16777216) : ixL (.str z) (.int 0) S = .ok (.str (one a)) S := by
  rw [ix_s (by omega) (by rw [tl_len, h]; simp) h3, h]; rfl
theorem ix_sl {c : Nat} (h : (tl z).getLast? = some c) (h3 : z.length ≤ 16777216) : ixL (.str z) (.int (-1)) S = .ok (.str (one c)) S := by
  have hl : 0 < z.length := by
    rw [tl_len]
    cases e : tl z with
    | nil => rw [e] at h; cases h
    | cons a l => simp
  rw [ix_s1 hl h3, List.getD_eq_getElem?_getD, ← List.getLast?_eq_getElem?, h]; rfl
theorem ix_l {n : Nat} {xs : List LV} {u : LV} (hn : S[n]? = some (.lst xs)) (h : 0 ≤ j) (hu : xs[j.toNat]? = some u) : ixL (.ref n) (.int j) S = .ok u S := by
  simp only [ixL, ixO, hn, atI_nn h, hu]
theorem ix_t {xs : List LV} {u : LV} (h : 0 ≤ j) (hu : xs[j.toNat]? = some u) : ixL (.tup xs) (.int j) S = .ok u S := by
  simp only [ixL, ixO, atI_nn h, hu]
/-- lists of texts compared with the empty list -/
theorem seqO_strs (S : Sto) (f : Nat) : ∀ zs : List Str, seqO ((zs.map LV.str).map (dat S f)) = some (zs.map PyData.str)
  | [] => rfl
  | z :: zs => by
    rw [List.map_cons, List.map_cons, show dat S f (.str z) = some (.str z) by cases f <;> rfl]
    unfold seqO
    rw [seqO_strs S f zs]
    rfl
theorem strs_lay : ∀ zs : List Str, (∀ z ∈ zs, PyData.strOk z = true) → PyData.canLayAll0 (zs.map PyData.str) = true ∧ PyData.depthAll (zs.map PyData.str) = 0
  | [], _ => ⟨rfl, rfl⟩
  | z :: zs, h => by
    have ih := strs_lay zs fun y hy => h y (List.mem_cons_of_mem _ hy)
    rw [List.map_cons]
    unfold PyData.canLayAll0 PyData.depthAll PyData.canLay0 PyData.depth
    rw [h z (List.mem_cons_self ..), ih.1, ih.2]
    exact ⟨rfl, rfl⟩
theorem eqv_strs_nil {n k : Nat} {zs : List Str} (hn : S[n]? = some (.lst (zs.map .str))) (hk : S[k]? = some (.lst [])) (h : ∀ z ∈ zs, PyData.strOk z = true) : eqV2 (.ref n) (.ref k) S = some zs.isEmpty := by
  have l := strs_lay zs h
  have d1 : dat S 60 (.ref n) = some (.list (zs.map .str)) := by
    show (match S[n]? with | some (.lst xs) => _ | _ => none) = _
    rw [hn]
    simp only
    rw [seqO_strs]
  have d2 : dat S 60 (.ref k) = some (.list []) := by
    show (match S[k]? with | some (.lst xs) => _ | _ => none) = _
    rw [hk]
    rfl
  unfold eqV2
  rw [show eqS (.ref n) (.ref k) = none from rfl]
  simp only
  rw [d1, d2]
  simp only
  have s1 : SeqAt.shaped (.list (zs.map .str)) = true := by
    unfold SeqAt.shaped PyData.canLay0 PyData.depth
    rw [l.1, l.2]
    rfl
  rw [s1, show SeqAt.shaped (.list []) = true from rfl]
  cases zs <;> rfl
theorem eq_strs_nil {n k : Nat} {zs : List Str} (hn : S[n]? = some (.lst (zs.map .str))) (hk : S[k]? = some (.lst [])) (h : ∀ z ∈ zs, PyData.strOk z = true) : eqL (.ref n) (.ref k) S = .ok (.bl zs.isEmpty) S := by
  unfold eqL; rw [eqv_strs_nil hn hk h]
theorem ne_strs_nil {n k : Nat} {zs : List Str} (hn : S[n]? = some (.lst (zs.map .str))) (hk : S[k]? = some (.lst [])) (h : ∀ z ∈ zs, PyData.strOk z = true) : neL (.ref n) (.ref k) S = .ok (.bl !zs.isEmpty) S := by
  unfold neL; rw [eqv_strs_nil hn hk h]
end
end LL


set_option Elab.async false
set_option linter.all false
set_option maxRecDepth 100000
set_option maxHeartbeats 2000000
/-! The logical layer: own exception classes: raise, except, isinstance of what was caught. -/
namespace LL
open PySem PySem.Spec PyProof.Rows L2

/-- what is known of an own class under ValueError -/
structure ExF (K : PySem.W.Frag) (mg : Str → Option Value) (x : Str) (C : Addr) : Prop where
  g : mg x = some (.ref C)
  q : PySem.W.excIn K C [.type "ValueError", .type "Exception", .type "BaseException", .type "object"] "ValueError.__new__" = true
  k : PySem.W.keepIn K (.ref C) = true
  s : PySem.W.subIn K (.ref C) (.type "BaseException") = some true
  t : PySem.W.typeIn K (.ref C) = some (.type "type")
  c : ExcC K C
  v : PySem.W.subIn K (.ref C) (.type "ValueError") = some true
  r : PySem.W.subIn K (.ref C) (.ref C) = some true
theorem ExF.cls {K : PySem.W.Frag} {mg : Str → Option Value} {x : Str} {C : Addr} (F : ExF K mg x C) : (PySem.W.clsIn K C).isSome = true := by
  obtain ⟨cd, hc, _⟩ := PySem.W.any_some F.c.hd
  rw [hc]; rfl
theorem ExF.kit {K : PySem.W.Frag} {mg : Str → Option Value} {x : Str} {C D : Addr} {b : Bool} (F : ExF K mg x C) (h : PySem.W.subIn K (.ref D) (.ref C) = some b) : PySem.W.kitOne K (.ref D) (.ref C) = some b := by
  unfold PySem.W.kitOne PySem.W.kitCls
  have e2 : ((PySem.W.clsIn K C).isSome && PySem.W.typeIn K (.ref C) == some (.type "type")) = true := by rw [F.cls, F.t]; rfl
  split
  · rename_i e
    have : D = C := Value.ref.inj (beq_iff_eq.mp e)
    cases b with
    | true => rfl
    | false => subst this; rw [F.r] at h; cases h
  · show (if ((PySem.W.clsIn K C).isSome && PySem.W.typeIn K (.ref C) == some (.type "type")) = true then PySem.W.subIn K (.ref D) (.ref C) else none) = some b
    rw [if_pos e2]; exact h
theorem ExF.exm {K : PySem.W.Frag} {mg : Str → Option Value} {x : Str} {C D : Addr} {b : Bool} (F : ExF K mg x C) (h : PySem.W.subIn K (.ref D) (.ref C) = some b) : PySem.W.exmOne K (.ref D) (.ref C) = some b :=
  PySem.W.exm_ref F.s F.c.hd F.t h
theorem ExF.kitV {K : PySem.W.Frag} {mg : Str → Option Value} {x : Str} {C : Addr} (F : ExF K mg x C) : PySem.W.kitOne K (.ref C) (.type "ValueError") = some true := by
  unfold PySem.W.kitOne PySem.W.kitCls
  rw [if_neg (by simp)]
  show (if PySem.W.kitMeta "ValueError" = true then PySem.W.subIn K (.ref C) (.type "ValueError") else none) = some true
  rw [if_pos (by decide)]
  exact F.v
/-- raise C('m'), c the code of C -/
def lRaise (c : Nat) : LS := fun ds S => .ex c [] ds S
/-- an exception that the suite holds -/
def ξE (T : Env1) (a : Addr) (cls : Value) (d : Option Addr) : Xi := fun b c fs => b = a ∧ cls = .ref (T.ca c) ∧ fs = [] ∧ d = none
def noX (ds : Sl) : Bool := ds.all fun x => match x with
  | some v => !isX v
  | none => true
def aft (ds : Sl) (S : Sto) (k : Sl → Sto → RS) : RS := if noX ds = true then k ds S else .no
def aftI (i : Nat) : RS → RS
  | .nx ds S => aft (ds.set i none) S .nx
  | .bk ds S => aft (ds.set i none) S .bk
  | .ct ds S => aft (ds.set i none) S .ct
  | .rt v S => .rt v S
  | .ex _ _ _ _ => .no
  | .no => .no
def aft0 : RS → RS
  | .nx ds S => aft ds S .nx
  | .bk ds S => aft ds S .bk
  | .ct ds S => aft ds S .ct
  | .rt v S => .rt v S
  | .ex _ _ _ _ => .no
  | .no => .no
/-- try: a except C as n: b -/
def tryK (i : Nat) (hit : Nat → Option Bool) (b : LS) : RS → RS
  | .ex c [] ds S => match hit c with
    | some true => aftI i (b (ds.set i (some (.exc c []))) S)
    | some false => .ex c [] ds S
    | none => .no
  | .ex _ (_ :: _) _ _ => .no
  | r => r
def lTryAs (i : Nat) (hit : Nat → Option Bool) (a b : LS) : LS := fun ds S => tryK i hit b (a ds S)
def try0 (hit : Nat → Option Bool) (b : LS) : RS → RS
  | .ex c [] ds S => match hit c with
    | some true => aft0 (b ds S)
    | some false => .ex c [] ds S
    | none => .no
  | .ex _ (_ :: _) _ _ => .no
  | r => r
def lTry (hit : Nat → Option Bool) (a b : LS) : LS := fun ds S => try0 hit b (a ds S)
/-- what a table of codes tells -/
def hitA : List (Nat × Bool) → Nat → Option Bool
  | [], _ => none
  | (c, b) :: l, d => if c = d then some b else hitA l d
def AllP (P : Nat → Bool → Prop) : List (Nat × Bool) → Prop
  | [] => True
  | (c, b) :: l => P c b ∧ AllP P l
theorem hit_all {P : Nat → Bool → Prop} : ∀ {l : List (Nat × Bool)}, AllP P l → ∀ c b, hitA l c = some b → P c b
  | [], _, c, b, h => by cases h
  | (d, e) :: l, a, c, b, h => by
    unfold hitA at h
    split at h
    · rename_i q
      subst q
      cases h
      exact a.1
    · exact hit_all a.2 c b h
/-- isinstance(e, C) -/
def lIsE (i : Nat) (f : Nat → Option Bool) : LE := fun ds S => match ds[i]? with
  | some (some (.exc c _)) => match f c with
    | some b => .ok (.bl b) S
    | none => .no
  | _ => .no
section
variable {X : Cx} {T : Env1} {W : WX} {x n : Str} {i : Nat} {c : Value} {C : Addr} {fb fsu : LS} {hit : Nat → Option Bool} {body suite : List Stmt} {b₀ : Stmt} {np pos pos' pos2 : Pos}
theorem sl_raise {m : Str} {j k : Nat} {p p2 : Pos} (hc : X.calm = true) (tk : L2N.Takes X W) (F : ExF X.K X.mg x C) (hC : T.ca k = C) (hg : Gl X x) (hdb : (x == ("__debug__" : Str)) = false := by decide) :
    PS X (.Raise (some (.Call (.Name x p) [.Constant (.str m) j p2] [] pos)) none pos2) (tLS X.K T ξ0 W (lRaise k)) :=
  ps_imp (L2N.ps_raise hc tk (L2N.pmk_own PySem.F.excBase_ValueError F.q F.g F.k (raises_own F.s F.t) hg hdb)) fun D σ H ⟨m, S, ds, r, rs, h⟩ => by
    have := h m H σ (.ref C) none Ext.refl r rs ⟨by rw [hC], .inl ⟨rfl, rfl⟩⟩
    exact this
theorem RSl.of0 {K : PySem.W.Frag} {ξ : Xi} {m : List Addr} {H : Hp} {ds : Sl} {σ : L2.St} (h : RSl K ξ0 m H ds σ) : RSl K ξ m H ds σ := ⟨h.len, fun i v e => by
  obtain ⟨x, h1, h2⟩ := h.at_ i v e
  refine ⟨x, h1, ?_⟩
  cases v with
  | exc c fs =>
    obtain ⟨a, _, h3⟩ := h2
    exact h3.elim
  | _ => exact h2⟩
theorem RSl.un0 {K : PySem.W.Frag} {ξ : Xi} {m : List Addr} {H : Hp} {ds : Sl} {σ : L2.St} (h : RSl K ξ m H ds σ) (n : noX ds = true) : RSl K ξ0 m H ds σ := ⟨h.len, fun i v e => by
  obtain ⟨x, h1, h2⟩ := h.at_ i v e
  refine ⟨x, h1, ?_⟩
  have := List.all_eq_true.mp n _ (List.mem_of_getElem? e)
  exact RVx.of (h2.un (by simpa using this))⟩
theorem RSl.clr {K : PySem.W.Frag} {ξ : Xi} {m : List Addr} {H : Hp} {ds : Sl} {σ : L2.St} (h : RSl K ξ m H ds σ) (i : Nat) : RSl K ξ m H (ds.set i none) (σ.set i none) := ⟨by simp [h.len], fun j w e => by
  by_cases hj : j = i
  · subst hj
    by_cases hl : j < ds.length
    · rw [List.getElem?_set_self hl] at e; cases e
    · rw [List.getElem?_eq_none (by simpa using hl)] at e; cases e
  · rw [List.getElem?_set_ne (Ne.symm hj)] at e ⊢
    exact h.at_ j w e⟩
theorem aft_in {ds : Sl} {S : Sto} {k : Sl → Sto → RS} {K : PySem.W.Frag} {m : List Addr} {H : Hp} {D : Ends} {W : WX} (h : PoS K T ξ0 m H (aft ds S k) D W) : noX ds = true ∧ PoS K T ξ0 m H (k ds S) D W := by
  unfold aft at h
  split at h
  · rename_i e
    exact ⟨e, h⟩
  · exact h.elim
theorem sl_try_as (hN : X.N.Nodup) (hc : Names X x (.ref C)) (tk : L2N.Takes X W)
    (hh : ∀ c b, hit c = some b → PySem.W.exmOne X.K (.ref (T.ca c)) (.ref C) = some b)
    (hb : ∀ (W : WX) (pn : List (Addr × Obj)) (xe : Value → Shared → Prop), L2N.Takes (X.tr pn xe) W → PassesOwn (model X.prog X.w) X.A X.env xe → PSs (X.tr pn xe) body (tLS X.K T ξ0 W fb))
    (hsu : ∀ (a : Addr) (oe : Obj) (cls : Value) (d : Option Addr) (pn : List (Addr × Obj)), L2N.Zn cls d oe → (∃ vs, oe.data = .fields vs) → PSs (X.suite a ((a, oe) :: pn)) (b₀ :: suite) (tLS X.K T (ξE T a cls d) (fun _ _ _ _ => False) fsu))
    (hi : X.N[i]? = some n := by rfl) (hln : X.env.kindOf n = some .local := by rfl) (hs : X.stack = X.env :: X.outer := by rfl) (hf : X.env.frame = some X.env.locals := by rfl) :
    PS X (.Try body [.ExceptHandler (some (.Name x np)) (some n) (b₀ :: suite) pos'] [] [] pos) (tLS X.K T ξ0 W (lTryAs i hit fb fsu)) :=
  ps_imp (L2N.ps_try_as (tb := fun W => tLS X.K T ξ0 W fb) (ts := fun a cls d => tLS X.K T (ξE T a cls d) (fun _ _ _ _ => False) fsu) (Wout := W) hs hf hN hi hln hc tk hb hsu) fun D σ H ⟨m, S, ds, r, rs, h⟩ => by
    refine ⟨m, S, ds, r, rs, ?_⟩
    unfold lTryAs at h
    cases q : fb ds S with
    | nx ds1 S1 => rw [q] at h; exact h
    | rt ds1 S1 => rw [q] at h; exact h
    | bk ds1 S1 => rw [q] at h; exact h
    | ct ds1 S1 => rw [q] at h; exact h
    | no => rw [q] at h; exact h.elim
    | ex c fs ds1 S1 =>
      rw [q] at h
      cases fs with
      | cons f fs => exact h.elim
      | nil =>
        unfold tryK at h
        simp only at h
        split at h
        · rename_i e
          intro m1 H1 σ1 cls d E r1 rs1 rx
          obtain ⟨ec, ed⟩ := rx
          have ed' : d = none := by
            rcases ed with ⟨_, e⟩ | ⟨v, x, dd, e, _⟩
            · exact e
            · cases e
          subst ec ed'
          refine ⟨true, hh _ _ e, fun _ a _ => ?_, fun z => nomatch z⟩
          refine ⟨m1, S1, _, r1, (RSl.of0 rs1).set i (v := .exc c []) ⟨a, rfl, rfl, rfl, rfl, rfl⟩, ?_⟩
          replace h := PoS.mono E h
          cases q2 : fsu (ds1.set i (some (.exc c []))) S1 with
          | nx ds2 S2 =>
            rw [q2] at h
            obtain ⟨e2, h⟩ := aft_in h
            exact fun m2 H2 σ2 E2 r2 rs2 => h m2 H2 _ E2 r2 ((rs2.clr i).un0 e2)
          | bk ds2 S2 =>
            rw [q2] at h
            obtain ⟨e2, h⟩ := aft_in h
            exact fun m2 H2 σ2 E2 r2 rs2 => h m2 H2 _ E2 r2 ((rs2.clr i).un0 e2)
          | ct ds2 S2 =>
            rw [q2] at h
            obtain ⟨e2, h⟩ := aft_in h
            exact fun m2 H2 σ2 E2 r2 rs2 => h m2 H2 _ E2 r2 ((rs2.clr i).un0 e2)
          | rt v S2 => rw [q2] at h; exact h
          | ex => rw [q2] at h; exact h.elim
          | no => rw [q2] at h; exact h.elim
        · rename_i e
          intro m1 H1 σ1 cls d E r1 rs1 rx
          obtain ⟨ec, ed⟩ := rx
          subst ec
          exact ⟨false, hh _ _ e, fun z => absurd z (by decide), fun _ => h m1 H1 σ1 _ d E r1 rs1 ⟨rfl, ed⟩⟩
        · exact h.elim
theorem sl_try (hc : Names X x (.ref C)) (tk : L2N.Takes X W)
    (hh : ∀ c b, hit c = some b → PySem.W.exmOne X.K (.ref (T.ca c)) (.ref C) = some b)
    (hb : ∀ (W : WX) (pn : List (Addr × Obj)) (xe : Value → Shared → Prop), L2N.Takes (X.tr pn xe) W → PassesOwn (model X.prog X.w) X.A X.env xe → PSs (X.tr pn xe) body (tLS X.K T ξ0 W fb))
    (hsu : ∀ (a : Addr) (oe : Obj) (cls : Value) (d : Option Addr) (pn : List (Addr × Obj)), L2N.Zn cls d oe → (∃ vs, oe.data = .fields vs) → PSs (X.suite a ((a, oe) :: pn)) (b₀ :: suite) (tLS X.K T ξ0 (fun _ _ _ _ => False) fsu))
    (hs : X.stack = X.env :: X.outer := by rfl) (hf : X.env.frame = some X.env.locals := by rfl) :
    PS X (.Try body [.ExceptHandler (some (.Name x np)) none (b₀ :: suite) pos'] [] [] pos) (tLS X.K T ξ0 W (lTry hit fb fsu)) :=
  ps_imp (L2N.ps_try_many (tb := fun W => tLS X.K T ξ0 W fb) (Wout := W) hs hf tk hb (.cons (ts := fun a cls d => tLS X.K T ξ0 (fun _ _ _ _ => False) fsu) hc hsu .nil)) fun D σ H ⟨m, S, ds, r, rs, h⟩ => by
    refine ⟨m, S, ds, r, rs, ?_⟩
    unfold lTry at h
    cases q : fb ds S with
    | nx ds1 S1 => rw [q] at h; exact h
    | rt ds1 S1 => rw [q] at h; exact h
    | bk ds1 S1 => rw [q] at h; exact h
    | ct ds1 S1 => rw [q] at h; exact h
    | no => rw [q] at h; exact h.elim
    | ex c fs ds1 S1 =>
      rw [q] at h
      cases fs with
      | cons f fs => exact h.elim
      | nil =>
        unfold try0 at h
        simp only at h
        split at h
        · rename_i e
          intro m1 H1 σ1 cls d E r1 rs1 rx
          obtain ⟨ec, ed⟩ := rx
          subst ec
          refine ⟨true, hh _ _ e, fun _ a _ => ?_, fun z => nomatch z⟩
          refine ⟨m1, S1, _, r1, rs1, ?_⟩
          replace h := PoS.mono E h
          cases q2 : fsu ds1 S1 with
          | nx ds2 S2 =>
            rw [q2] at h
            obtain ⟨e2, h⟩ := aft_in h
            exact h
          | bk ds2 S2 =>
            rw [q2] at h
            obtain ⟨e2, h⟩ := aft_in h
            exact h
          | ct ds2 S2 =>
            rw [q2] at h
            obtain ⟨e2, h⟩ := aft_in h
            exact h
          | rt v S2 => rw [q2] at h; exact h
          | ex => rw [q2] at h; exact h.elim
          | no => rw [q2] at h; exact h.elim
        · rename_i e
          intro m1 H1 σ1 cls d E r1 rs1 rx
          obtain ⟨ec, ed⟩ := rx
          subst ec
          exact ⟨false, hh _ _ e, fun z => absurd z (by decide), fun _ => h m1 H1 σ1 _ d E r1 rs1 ⟨rfl, ed⟩⟩
        · exact h.elim
/-- the context is this one -/
def XIs (X : Cx) : Prop := True
theorem xis {X : Cx} {W : WX} (tk : L2N.Takes X W) : XIs X := trivial
theorem pl_isE {a : Addr} {oe : Obj} {cls : Value} {d : Option Addr} {pn : List (Addr × Obj)} {f : Nat → Option Bool} {y : Str} {cv : Value} {eC : Expr} {cx : V} {p pe : Pos} (hX : XIs X) (hz : L2N.Zn cls d oe) (hv : ∃ vs, oe.data = .fields vs)
    (hC : PE (X.suite a ((a, oe) :: pn)) eC (tC cx)) (hu : ∀ u, RelV cx u → u = cv)
    (hf : ∀ c b, f c = some b → ExcC X.K (T.ca c) ∧ PySem.W.kitOne X.K (.ref (T.ca c)) cv = some b)
    (hg : Gl X "isinstance") (hm : X.mg "isinstance" = none) (hN : X.N[i]? = some y := by rfl) (hvv : Vis X.env.scope y := by first | exact Or.inl rfl | exact Or.inr (Or.inl rfl) | exact Or.inr (Or.inr rfl)) (hd : (y == ("__debug__" : Str)) = false := by decide)
    (hcd : (y == ("__classdict__" : Str)) = false := by decide)
    (he : starEach (.Name y pe :: [eC]) X.env = (false, eval (.Name y pe) X.env) :: starEach [eC] X.env := by rfl) (hpl : (backTo pos (starEach [eC] X.env)).any (·.1) = false := by rfl) (hst : starEach (eC :: []) X.env = (false, eval eC X.env) :: starEach [] X.env := by rfl) :
    PE (X.suite a ((a, oe) :: pn)) (.Call (.Name "isinstance" p) [.Name y pe, eC] [] pos) (tL X.K T (ξE T a cls d) W (lIsE i f)) := by
  refine ⟨fun pins s σ H Q I h => ?_⟩
  obtain ⟨m, S, ds, r, rs, h⟩ := h
  unfold lIsE at h
  split at h
  · rename_i c fs hi
    split at h
    · rename_i b hb
      obtain ⟨xx, h1, h2⟩ := rs.at_ i _ hi
      obtain ⟨a', rfl, ea, ec, ef, ed⟩ := h2
      subst ea ec ed
      obtain ⟨C0, k0⟩ := hf c b hb
      refine (pe_callB (X := X.suite a' ((a', oe) :: pn)) (call_isE (X := X) (a := a') (D := T.ca c) (oe := oe) (pn := pn) C0 hz.zc hv) hg hm (by decide +kernel) (pa_cons (pe_var (i := i) hN hvv hd hcd) (pa_cons hC pa_nil hst) he) (by decide) (by decide) he hpl).run pins s σ H Q I ?_
      exact ⟨_, h1, cx, cv, b, rfl, hu, k0, h.here r rfl⟩
    · exact h.elim
  · exact h.elim
/-- an own class by its name; a built-in one -/
theorem pe_exc (F : ExF X.K X.mg x C) (hg : Gl X x) (hd : (x == ("__debug__" : Str)) = false := by decide) : PE X (.Name x pos) (tC (.ref C)) := pe_glob hg F.g rfl hd
theorem pe_exV (hg : Gl X "ValueError") (hm : X.mg "ValueError" = none) : PE X (.Name "ValueError" pos) (tC (.ty "ValueError")) := pe_bltn (v := .ty "ValueError") hg hm (by decide +kernel) rfl (by decide) (by decide)
end
/-! ### reckoning -/
section
variable {i c : Nat} {hit : Nat → Option Bool} {a b : LS} {ds : Sl} {S : Sto} {v : LV} {fs : List LV}
theorem e_raise : lRaise c ds S = .ex c [] ds S := (rfl)
theorem e_tryAs : lTryAs i hit a b ds S = tryK i hit b (a ds S) := (rfl)
theorem e_try : lTry hit a b ds S = try0 hit b (a ds S) := (rfl)
@[simp] theorem tryK_nx : tryK i hit b (.nx ds S) = .nx ds S := (rfl)
@[simp] theorem tryK_rt : tryK i hit b (.rt v S) = .rt v S := (rfl)
@[simp] theorem tryK_bk : tryK i hit b (.bk ds S) = .bk ds S := (rfl)
@[simp] theorem tryK_ct : tryK i hit b (.ct ds S) = .ct ds S := (rfl)
theorem tryK_t (h : hit c = some true) : tryK i hit b (.ex c [] ds S) = aftI i (b (ds.set i (some (.exc c []))) S) := by unfold tryK; simp only [h]
theorem tryK_f (h : hit c = some false) : tryK i hit b (.ex c [] ds S) = .ex c [] ds S := by unfold tryK; simp only [h]
@[simp] theorem try0_nx : try0 hit b (.nx ds S) = .nx ds S := (rfl)
@[simp] theorem try0_rt : try0 hit b (.rt v S) = .rt v S := (rfl)
@[simp] theorem try0_bk : try0 hit b (.bk ds S) = .bk ds S := (rfl)
@[simp] theorem try0_ct : try0 hit b (.ct ds S) = .ct ds S := (rfl)
theorem try0_t (h : hit c = some true) : try0 hit b (.ex c [] ds S) = aft0 (b ds S) := by unfold try0; simp only [h]
theorem try0_f (h : hit c = some false) : try0 hit b (.ex c [] ds S) = .ex c [] ds S := by unfold try0; simp only [h]
@[simp] theorem aftI_rt : aftI i (.rt v S) = .rt v S := (rfl)
@[simp] theorem aft0_rt : aft0 (.rt v S) = .rt v S := (rfl)
@[simp] theorem aftI_nx : aftI i (.nx ds S) = aft (ds.set i none) S .nx := (rfl)
@[simp] theorem aft0_nx : aft0 (.nx ds S) = aft ds S .nx := (rfl)
@[simp] theorem aftI_ct : aftI i (.ct ds S) = aft (ds.set i none) S .ct := (rfl)
@[simp] theorem aft0_ct : aft0 (.ct ds S) = aft ds S .ct := (rfl)
theorem aft_ok {k : Sl → Sto → RS} (h : noX ds = true) : aft ds S k = k ds S := by unfold aft; rw [if_pos h]
@[simp] theorem noX_nil : noX [] = true := (rfl)
@[simp] theorem noX_none : noX (none :: ds) = noX ds := by simp [noX]
@[simp] theorem noX_some : noX (some v :: ds) = (!isX v && noX ds) := by simp [noX]
@[simp] theorem isE_S {f : Nat → Option Bool} {x : Option LV} : lIsE (i + 1) f (x :: ds) S = lIsE i f ds S := by simp [lIsE]
theorem isE_0 {f : Nat → Option Bool} {k : Bool} (h : f c = some k) : lIsE 0 f (some (.exc c fs) :: ds) S = .ok (.bl k) S := by simp [lIsE, h]
end
end LL


set_option Elab.async false
set_option linter.all false
set_option maxRecDepth 100000
set_option maxHeartbeats 2000000
/-! The logical layer: o[i] = v. -/
namespace LL
open PySem PySem.Spec PyProof.Rows L2

/-- a dict of values with a key written -/
def putL {κ : Type} [DecidableEq κ] (kvs : List (κ × LV)) (k : κ) (v : LV) : List (κ × LV) :=
  if (kvs.any fun kv => decide (kv.1 = k)) = true then kvs.map (fun kv => if kv.1 = k then (kv.1, v) else kv) else kvs ++ [(k, v)]
def putO (o i v : LV) (S : Sto) : Option Sto := match o with
  | .ref n => match S[n]? with
    | some (.lst xs) => match i with
      | .int k => match ixN xs.length k with
        | some j => some (S.set n (.lst (xs.set j v)))
        | none => none
      | _ => none
    | some (.dct kvs) => match keyL i with
      | some k => if small (kvs.length + 1) = true then some (S.set n (.dct (putL kvs k v))) else none
      | none => none
    | some (.dcT kvs) => match i with
      | .tup xs => match keysL xs with
        | some k => if small (kvs.length + 1) = true then some (S.set n (.dcT (putL kvs k v))) else none
        | none => none
      | _ => none
    | _ => none
  | _ => none
def lSub (fv fo fi : LE) : LS := fun ds S => bindS (fv ds S) ds fun v S1 => bindS (fo ds S1) ds fun o S2 => bindS (fi ds S2) ds fun i S3 => match putO o i v S3 with
  | some S4 => .nx ds S4
  | none => .no
section
variable {K : PySem.W.Frag} {T : Env1} {m : List Addr} {H : Hp} {S : Sto}
theorem RVs.setAt {v : LV} {x : V} (rv : RV K m H v x) : ∀ {vs : List LV} {xs : List V} (j : Nat), RVs K m H vs xs → RVs K m H (vs.set j v) (xs.set j x)
  | [], xs, j, h => by rw [h.nilE]; exact RVs.nil
  | u :: vs, xs, j, h => by
    unfold RVs at h
    obtain ⟨y, r, rfl, h1, h2⟩ := h
    cases j with
    | zero => exact RVs.cons rv h2
    | succ j => exact RVs.cons h1 (RVs.setAt rv j h2)
theorem put_rel {κ : Type} [DecidableEq κ] {v : LV} {x : V} (k : κ) (rv : RV K m H v x) : ∀ {kvs : List (κ × LV)} {ws : List (κ × V)}, ws.map (·.1) = kvs.map (·.1) → RVs K m H (kvs.map (·.2)) (ws.map (·.2)) →
    (putK ws k x).map (·.1) = (putL kvs k v).map (·.1) ∧ RVs K m H ((putL kvs k v).map (·.2)) ((putK ws k x).map (·.2)) := by
  intro kvs ws e h
  have ea : (ws.any fun kv => decide (kv.1 = k)) = (kvs.any fun kv => decide (kv.1 = k)) := by
    have := congrArg (fun l : List κ => l.any fun z => decide (z = k)) e
    simpa [List.any_map, Function.comp_def] using this
  unfold putK putL
  rw [ea]
  split
  · rename_i ca
    clear ca ea
    induction kvs generalizing ws with
    | nil =>
      have : ws = [] := by simpa using e
      subst this
      exact ⟨rfl, RVs.nil⟩
    | cons p kvs ih =>
      cases ws with
      | nil => simp at e
      | cons q ws =>
        simp only [List.map_cons, List.cons.injEq] at e h ⊢
        unfold RVs at h
        obtain ⟨y, r, e2, h1, h2⟩ := h
        simp only [List.cons.injEq] at e2
        obtain ⟨rfl, rfl⟩ := e2
        have i := ih e.2 h2
        by_cases c : p.1 = k
        · have c2 : q.1 = k := e.1.trans c
          rw [if_pos c, if_pos c2]
          exact ⟨⟨e.1, i.1⟩, RVs.cons rv i.2⟩
        · have c2 : ¬ q.1 = k := fun z => c (e.1.symm.trans z)
          rw [if_neg c, if_neg c2]
          exact ⟨⟨e.1, i.1⟩, RVs.cons h1 i.2⟩
  · rw [List.map_append, List.map_append, List.map_append, List.map_append, e]
    exact ⟨rfl, h.append (RVs.cons rv RVs.nil)⟩
end
/-- .. by values, lists and dicts -/
def rSetU : TSet := fun o i v H Q => rSetL o i v H Q ∨ rSetD o i v H Q
theorem set_U {X : Cx} (hu : X.A.units + 1 < cLine) : PSet X rSetU := fun pins s σ H o i v ov iv u Q I ro ri rv h => h.elim (set_list pins s σ H o i v ov iv u Q I ro ri rv) (set_dict hu pins s σ H o i v ov iv u Q I ro ri rv)
section
variable {X : Cx} {T : Env1} {ξ : Xi} {W : WX} {k : Nat} {fv fo fi : LE} {e o i : Expr} {pos pos' : Pos}
theorem put_ok {m : List Addr} {S S4 : Sto} {H : Hp} {vo vi v : LV} {xo xi x : V} {Q : Hp → Prop} (r : RelS X.K T m S H) (ro : RV X.K m H vo xo) (ri : RV X.K m H vi xi) (rv : RV X.K m H v x) (e : putO vo vi v S = some S4)
    (h : ∀ H', Ext m H m H' → RelS X.K T m S4 H' → Q H') : rSetU xo xi x H Q := by
  unfold putO at e
  split at e
  · rename_i n
    split at e
    · rename_i xs hn
      split at e
      · rename_i k
        split at e
        · rename_i j hj
          cases e
          obtain ⟨a, zs, rfl, hm, ha, hs⟩ := ro.lst r hn
          refine .inl ⟨a, zs, k, j, rfl, ri, ha, by rw [← hs.len]; exact hj, ?_⟩
          have E : Ext m H m (upd H a (.lst (zs.set j x))) := Ext.write r (List.mem_of_getElem? hm) ha
          exact h _ E (r.write hm ha ⟨_, upd_same, (RVs.setAt rv j hs).mono E⟩)
        · cases e
      · cases e
    · rename_i kvs hn
      split at e
      · rename_i k hk
        split at e
        · rename_i hz
          cases e
          unfold RV at ro
          obtain ⟨a, rfl, hm⟩ := ro
          obtain ⟨ws, h1, h2, h3⟩ := r.ob n a _ hm hn
          have hl : ws.length = kvs.length := by have := congrArg List.length h2; simpa using this
          refine .inr ⟨a, upd H a (.dK (putK ws k x)), rfl, ?_, ?_⟩
          · rw [keyL_ok hk ri]
            have := small_ok hz
            exact DPut.k h1 (by omega)
          · have E : Ext m H m (upd H a (.dK (putK ws k x))) := Ext.write r (List.mem_of_getElem? hm) h1
            have p := put_rel k rv h2 h3
            exact h _ E (r.write hm h1 ⟨_, upd_same, p.1, p.2.mono E⟩)
        · cases e
      · cases e
    · rename_i kvs hn
      split at e
      · rename_i xs
        split at e
        · rename_i k hk
          split at e
          · rename_i hz
            cases e
            unfold RV at ro
            obtain ⟨a, rfl, hm⟩ := ro
            obtain ⟨ws, h1, h2, h3⟩ := r.ob n a _ hm hn
            have hl : ws.length = kvs.length := by have := congrArg List.length h2; simpa using this
            obtain ⟨b, us, rfl, hb, hu⟩ := ri.tupE
            have eu := keysL_ok hk hu
            subst eu
            refine .inr ⟨a, upd H a (.dT (putK ws k x)), rfl, ?_, ?_⟩
            · have := small_ok hz
              exact DPut.t h1 hb (by omega)
            · have E : Ext m H m (upd H a (.dT (putK ws k x))) := Ext.write r (List.mem_of_getElem? hm) h1
              have p := put_rel k rv h2 h3
              exact h _ E (r.write hm h1 ⟨_, upd_same, p.1, p.2.mono E⟩)
          · cases e
        · cases e
      · cases e
    · cases e
  · cases e
theorem sl_sub (hr : Room k X.A) (he : PE X e (tL X.K T ξ W fv)) (ho : PE X o (tL X.K T ξ W fo)) (hi : PE X i (tL X.K T ξ W fi))
    (ha : ∀ v, assign (.Subscript o i pos') X.env v = (do
      let ov ← holding [v] (eval o X.env)
      let iv ← holding [v, ov] (eval i X.env)
      standAt pos'
      holding [v, ov, iv] (setItem ov iv v)
      release [v, ov, iv] []) := by intro _; rfl)
    (hs : swapsWithSole [.Subscript o i pos'] e pos.line X.env = pure false := by rfl) (hw : swappedStores [.Subscript o i pos'] e X.env = pure none := by rfl)
    (h1 : (assignEach [.Subscript o i pos'] X.env).map (·.2) = [assign (.Subscript o i pos') X.env] := by rfl) : PS X (.Assign [.Subscript o i pos'] e pos) (tLS X.K T ξ W (lSub fv fo fi)) :=
  ps_imp (ps_asg he (pg_sub ho hi (set_U (hu_of hr)) ha) hs hw h1) fun D σ H ⟨m, S, ds, r, rs, h⟩ =>
    tL.bindS r rs h fun v S1 m1 H1 x E r1 rs1 rv h1 => tL.bindS r1 rs1 h1 fun vo S2 m2 H2 xo E2 r2 rs2 ro h2 => tL.bindS r2 rs2 h2 fun vi S3 m3 H3 xi E3 r3 rs3 ri h3 => by
      split at h3
      · rename_i S4 e4
        exact put_ok r3 (ro.mono E3) ri ((rv.mono E2).mono E3) e4 fun H' E' r' => h3 _ _ _ E' r' (rs3.mono E')
      · exact h3.elim
end
/-! ### reckoning -/
def sub3 (v o : LV) (ds : Sl) : R → RS
  | .ok i S => match putO o i v S with
    | some S4 => .nx ds S4
    | none => .no
  | .ex c fs S => .ex c fs ds S
  | .no => .no
def sub2 (v : LV) (fi : LE) (ds : Sl) : R → RS
  | .ok o S => sub3 v o ds (fi ds S)
  | .ex c fs S => .ex c fs ds S
  | .no => .no
def sub1 (fo fi : LE) (ds : Sl) : R → RS
  | .ok v S => sub2 v fi ds (fo ds S)
  | .ex c fs S => .ex c fs ds S
  | .no => .no
section
variable {v o i : LV} {fv fo fi : LE} {ds : Sl} {S S4 : Sto} {n : Nat} {xs : List LV} {k : Int}
theorem e_sub : lSub fv fo fi ds S = sub1 fo fi ds (fv ds S) := by
  unfold lSub
  cases fv ds S with
  | ok v S1 =>
    show bindS (fo ds S1) ds _ = sub2 v fi ds (fo ds S1)
    cases fo ds S1 with
    | ok o S2 =>
      show bindS (fi ds S2) ds _ = sub3 v o ds (fi ds S2)
      cases fi ds S2 <;> rfl
    | _ => rfl
  | _ => rfl
@[simp] theorem sub1_ok : sub1 fo fi ds (.ok v S) = sub2 v fi ds (fo ds S) := (rfl)
@[simp] theorem sub2_ok : sub2 v fi ds (.ok o S) = sub3 v o ds (fi ds S) := (rfl)
theorem sub3_ok (h : putO o i v S = some S4) : sub3 v o ds (.ok i S) = .nx ds S4 := by unfold sub3; simp only [h]
theorem put_l (hn : S[n]? = some (.lst xs)) (h : 0 ≤ k) (h2 : k < xs.length) : putO (.ref n) (.int k) v S = some (S.set n (.lst (xs.set k.toNat v))) := by
  simp only [putO, hn, ixN, h, h2, if_true]
end
end LL


set_option Elab.async false
set_option linter.all false
set_option maxRecDepth 100000
set_option maxHeartbeats 2000000
/-! The logical layer: texts that may be handled, joins, numbers in texts, loops as folds. -/
namespace LL
open PySem PySem.Spec PyProof.Rows L2

/-- a text that may be handled -/
structure Fine (n : Nat) (z : Str) : Prop where
  len : z.length ≤ n
  sg : ∀ c ∈ tl z, c < 128
theorem Fine.mono {n m : Nat} {z : Str} (h : Fine n z) (k : n ≤ m) : Fine m z := ⟨Nat.le_trans h.len k, h.sg⟩
theorem Fine.app {n m : Nat} {y z : Str} (h : Fine n y) (k : Fine m z) : Fine (n + m) (y ++ z) := ⟨by rw [app_len]; have := h.len; have := k.len; omega, fun c hc => by
  rw [tl_app, List.mem_append] at hc
  rcases hc with hc | hc
  · exact h.sg c hc
  · exact k.sg c hc⟩
theorem Fine.cut {n : Nat} {z : Str} (h : Fine n z) (lo hi : Option Int) : Fine n (cutS z lo hi) := ⟨Nat.le_trans (cut_len z lo hi) h.len, fun c hc => by
  rw [tl_cut] at hc
  exact h.sg c (List.mem_of_mem_drop (List.mem_of_mem_take hc))⟩
theorem Fine.one {c : Nat} (h : c < 128) : Fine 1 (one c) := ⟨Nat.le_refl _, fun d hd => by
  have : d = c := by simpa using hd
  omega⟩
theorem Fine.ok {n : Nat} {z : Str} (h : Fine n z) : PyData.strOk z = true := by
  unfold PyData.strOk
  rw [← Array.all_toList, List.all_eq_true]
  intro c hc
  have := h.sg c hc
  simp
  omega
/-- a comprehension of those signs of a text that a test lets by -/
theorem lc_signs {t : Bool} (i : Nat) (ft : LE) (ds : Sl) (z : Str) (S : Sto) (p : Nat → Bool) (hz : z.length ≤ 16777216) (hi : i < ds.length) (h : ∀ c ∈ tl z, ∀ S, ft (ds.set i (some (.str (one c)))) S = .ok (.bl (p c)) S) :
    lcR t (gNm i) ft (lVar i) ds (.ok (itOf (LL.signs z)) S) = newL t (((tl z).filter p).map fun c => .str (one c)) S := by
  rw [signs_tl]
  refine lcR_map p (fun c => .str (one c)) .of (by rw [len_tl]; exact hz) (fun c hc acc => ⟨_, rfl, h c hc _, fun _ => ?_⟩) fun _ _ _ => rfl
  show (match (ds.set i (some (.str (one c))))[i]? with | some (some v) => if isX v = true then R.no else .ok v _ | _ => .no) = _
  rw [List.getElem?_set_self hi]
  rfl
theorem take1 (a : List Nat) (c : Nat) : (a.take 1 == [c]) = (a.head? == some c) := by
  cases a <;> simp
theorem dropl (a : List Nat) (c : Nat) : (a.drop (a.length - 1) == [c]) = (a.getLast? == some c) := by
  rcases List.eq_nil_or_concat a with rfl | ⟨b, d, rfl⟩
  · simp
  · simp
theorem tl_sp : tl (" " : Str) = [32] := rfl
abbrev digT : Str := ("0123456789" : Str)
/-- a number without its sign -/
def absN (a : List Nat) : List Nat := if (a.take 1 == [45]) = true then a.drop 1 else a
/-- the number that a text writes -/
def numN (a : List Nat) : Option Int :=
  if (30 : Int) < a.length then none
  else if (absN a == []) = true then none
  else if (absN a).all (fun c => decide (c ∈ tl digT)) = false then none
  else if ((absN a).head? == some 48 && !(a == [48])) = true then none
  else some (if (a.take 1 == [45]) = true then -((NumText.digitsVal (absN a) : Nat) : Int) else ((NumText.digitsVal (absN a) : Nat) : Int))
def optV : Option Int → LV
  | some i => .int i
  | none => .non
theorem digT_iff (c : Nat) : c ∈ tl digT ↔ 48 ≤ c ∧ c ≤ 57 := by
  rw [show tl digT = [48, 49, 50, 51, 52, 53, 54, 55, 56, 57] from rfl]
  simp
  omega
theorem all_dig {a : List Nat} (h : a.all (fun c => decide (c ∈ tl digT)) = true) : NumText.AllDigits a := fun c hc => by
  have := List.all_eq_true.mp h c hc
  exact (digT_iff c).mp (of_decide_eq_true this)
theorem absN_len (a : List Nat) : (absN a).length ≤ a.length := by
  unfold absN
  split
  · rw [List.length_drop]; omega
  · exact Nat.le_refl _
theorem intText_num {z : Str} (h1 : z.length ≤ 640) (h2 : absN (tl z) ≠ []) (h3 : NumText.AllDigits (absN (tl z))) : intText? z = some (if ((tl z).take 1 == [45]) = true then -((NumText.digitsVal (absN (tl z)) : Nat) : Int) else ((NumText.digitsVal (absN (tl z)) : Nat) : Int)) := by
  unfold absN at h2 h3 ⊢
  cases c : ((tl z).take 1 == [45]) with
  | true =>
    simp only [c, if_true] at h2 h3 ⊢
    cases e : tl z with
    | nil => rw [e] at c; cases c
    | cons a l =>
      rw [e] at c h2 h3
      simp at c h2 h3 ⊢
      subst c
      exact intText_neg e h3 h2 (by omega)
  | false =>
    rw [c] at h2 h3
    exact intText_digits h3 h2 (by omega)
theorem tl_mi : tl ("-" : Str) = [45] := rfl
theorem tl_0 : tl ("0" : Str) = [48] := rfl
theorem head_ix {z : Str} (h : tl z ≠ []) : ∃ a l, tl z = a :: l := by
  cases e : tl z with
  | nil => exact absurd e h
  | cons a l => exact ⟨a, l, rfl⟩
/-- the number's text without its sign -/
def absS (z : Str) : Str := if (tl (cutS z none (some 1)) == [45]) = true then cutS z (some 1) none else z
theorem tl_absS (z : Str) : tl (absS z) = absN (tl z) := by
  unfold absS absN
  rw [cut_to z (by omega), show (1 : Int).toNat = 1 from rfl]
  cases c : ((tl z).take 1 == [45]) with
  | true =>
    simp only [if_true]
    exact cut_from z (by omega)
  | false => rfl
theorem dig_ix (c : Nat) (h : 48 ≤ c ∧ c ≤ 57) (S : Sto) : sindexL (.str digT) [.str (one c)] S = .ok (.int ((c : Int) - 48)) S := by
  have : c = 48 ∨ c = 49 ∨ c = 50 ∨ c = 51 ∨ c = 52 ∨ c = 53 ∨ c = 54 ∨ c = 55 ∨ c = 56 ∨ c = 57 := by omega
  rcases this with rfl | rfl | rfl | rfl | rfl | rfl | rfl | rfl | rfl | rfl <;> with_unfolding_all rfl
theorem head_take (a : List Nat) (c d : Nat) (l : List Nat) (h : a = c :: l) : (a.take 1 == [d]) = (c == d) := by
  subst h; simp
theorem joinL_one : ∀ cs : List Nat, TL.joinL [] (cs.map fun c => [c]) = cs
  | [] => rfl
  | [c] => rfl
  | c :: d :: l => by
    have ih := joinL_one (d :: l)
    show [c] ++ ([] ++ TL.joinL [] ((d :: l).map fun c => [c])) = _
    rw [ih]; rfl
theorem join_one (cs : List Nat) : tl (Txt.join ("" : Str) (cs.map one)) = cs := by
  have e : Txt.join (SX.S []) ((cs.map fun c => [c]).map SX.S) = SX.S (TL.joinL [] (cs.map fun c => [c])) := SX.join_S _ _
  rw [joinL_one, List.map_map] at e
  have e2 : Txt.join ("" : Str) (cs.map one) = SX.S cs := e
  rw [e2]
  rfl
theorem strsL_map : ∀ ys : List Str, strsL (ys.map LV.str) = some ys
  | [] => rfl
  | y :: ys => by
    have ih := strsL_map ys
    unfold strsL at ih ⊢
    rw [List.map_cons, List.map_cons]
    unfold seqO
    rw [ih]
theorem sum_one (cs : List Nat) : (((cs.map one).map (·.length)).sum + (cs.map one).length * ("" : Str).length) = cs.length := by
  have : ("" : Str).length = 0 := rfl
  rw [this, Nat.mul_zero, Nat.add_zero]
  induction cs with
  | nil => rfl
  | cons c cs ih => simp at ih ⊢; omega
/-- one-sign texts joined -/
theorem join_ones {v : LV} {S : Sto} {cs : List Nat} (h : lsO v S = some (cs.map fun c => .str (one c))) (hl : cs.length ≤ 16777216) : joinL2 (.str ("" : Str)) [v] S = .ok (.str (Txt.join ("" : Str) (cs.map one))) S := by
  rw [show (cs.map fun c => LV.str (one c)) = (cs.map one).map LV.str by rw [List.map_map]; rfl] at h
  have hi : itemsO v S = some ((cs.map one).map LV.str) := by
    unfold itemsO
    split
    · cases h
    · cases h
    · cases h
    · exact h
  simp only [joinL2, hi, strsL_map, sum_one, hl, decide_true, if_true]
theorem fine_join {n : Nat} {cs : List Nat} (h : cs.length ≤ n) (k : ∀ c ∈ cs, c < 128) : Fine n (Txt.join ("" : Str) (cs.map one)) := ⟨by rw [tl_len, join_one]; exact h, by rw [join_one]; exact k⟩
theorem mem_rng {v : LV} {lo : Int} {n : Nat} (h : v ∈ rng lo n) : ∃ k : Nat, k < n ∧ v = .int (lo + k) := by
  unfold rng at h
  obtain ⟨k, hk, rfl⟩ := List.mem_map.mp h
  exact ⟨k, List.mem_range.mp hk, rfl⟩
/-- one-sign texts, one for each number -/
theorem lc_ones {t : Bool} (i : Nat) (fe : LE) (ds : Sl) (lo : Int) (n : Nat) (S : Sto) (g : Int → Nat) (hn : n ≤ 16777216) (h : ∀ k : Nat, k < n → ∀ S, fe (ds.set i (some (.int (lo + k)))) S = .ok (.str (one (g (lo + k)))) S) :
    lcR t (gNm i) lYes fe ds (.ok (itOf (rng lo n)) S) = newL t ((codes g lo n).map fun c => .str (one c)) S := by
  unfold rng
  rw [lcR_all (fun k : Nat => .str (one (g (lo + (k : Int))))) .of (by simpa using hn) (fun k hk acc => ⟨_, rfl, h k (List.mem_range.mp hk) _⟩) fun _ _ => rfl]
  unfold codes
  rw [List.map_map]
  rfl
abbrev abcT : Str := ("abcdefghijklmnopqrstuvwxyz" : Str)
theorem abc_len : abcT.length = 26 := by decide
theorem abc_sg : ∀ c ∈ tl abcT, c < 128 := by decide
theorem tl_int (i : Int) : tl (toString i : Str) = if i < 0 then 45 :: TL.numL i.natAbs else TL.numL i.natAbs := by
  cases i with
  | ofNat n =>
    rw [if_neg (by simp)]
    exact TL.tl_num n
  | negSucc n =>
    rw [if_pos (Int.negSucc_lt_zero n)]
    show TL.tl (Str.ofString ("-" ++ Nat.repr (n + 1))) = _
    rw [TL.tl_ofString, String.toList_append, List.map_append]
    have := TL.tl_num (n + 1)
    rw [TL.tl_ofString] at this
    exact congrArg (List.cons 45) this
theorem fine_int {i : Int} {k : Nat} (hk : 0 < k) (h : i.natAbs < 10 ^ k) : Fine (k + 1) (toString i : Str) := by
  have hl := TL.numL_len hk h
  have hd := TL.numL_digits i.natAbs
  refine ⟨?_, fun c hc => ?_⟩
  · rw [tl_len, tl_int]
    split
    · rw [List.length_cons]; omega
    · omega
  · rw [tl_int] at hc
    split at hc
    · rcases List.mem_cons.mp hc with rfl | hc
      · decide
      · have := hd c hc; omega
    · have := hd c hc; omega

/-! ### loops as folds -/
section
variable {α β : Type} {S : Sto} {lg : LG} {fb : LS} {fc : LE}
/-- for, each turn a step -/
theorem forL_fold (D : α → Option LV → Sl) (g : β → LV) (f : α → β → α) (P : α → Prop) (hg : ∀ a x b, lg (g b) S (D a x) = some (D a (some (g b)))) :
    ∀ (xs : List β) (a : α) (x : Option LV), (∀ a b, b ∈ xs → P a → fb (D a (some (g b))) S = .nx (D (f a b) (some (g b))) S ∧ P (f a b)) → P a → ∃ x', forL lg fb (xs.map g) (D a x) S = .nx (D (xs.foldl f a) x') S ∧ P (xs.foldl f a)
  | [], a, x, _, p => ⟨x, rfl, p⟩
  | b :: xs, a, x, h, p => by
    obtain ⟨h1, p1⟩ := h a b (List.mem_cons_self ..) p
    obtain ⟨x', h2, p2⟩ := forL_fold D g f P hg xs (f a b) (some (g b)) (fun a b hb => h a b (List.mem_cons_of_mem _ hb)) p1
    refine ⟨x', ?_, p2⟩
    rw [List.map_cons, List.foldl_cons, ← h2]
    conv => lhs; unfold forL
    rw [hg]
    simp only
    rw [h1]
/-- for, which a hit ends -/
theorem forL_exit (D : Option LV → Sl) (g : β → LV) (p : β → Bool) (v : LV) (hg : ∀ x b, lg (g b) S (D x) = some (D (some (g b)))) :
    ∀ (xs : List β) (x : Option LV), (∀ b ∈ xs, fb (D (some (g b))) S = if p b = true then .rt v S else .nx (D (some (g b))) S) → ∃ x', forL lg fb (xs.map g) (D x) S = if xs.any p = true then .rt v S else .nx (D x') S
  | [], x, _ => ⟨x, rfl⟩
  | b :: xs, x, h => by
    have h1 := h b (List.mem_cons_self ..)
    obtain ⟨x', h2⟩ := forL_exit D g p v hg xs (some (g b)) (fun b hb => h b (List.mem_cons_of_mem _ hb))
    refine ⟨x', ?_⟩
    rw [List.map_cons, List.any_cons]
    conv => lhs; unfold forL
    rw [hg]
    simp only
    rw [h1]
    cases p b with
    | true => simp
    | false => simpa using h2
/-- while, each turn a step that comes nearer -/
theorem wh_run (D : α → Sl) (c : α → Bool) (f : α → α) (P : α → Prop) (μ : α → Nat) (hc : ∀ a, P a → fc (D a) S = .ok (.bl (c a)) S)
    (hb : ∀ a, P a → c a = true → fb (D a) S = .nx (D (f a)) S ∧ P (f a) ∧ μ (f a) < μ a) : ∀ (n : Nat) (a : α), P a → μ a < n → ∃ b, P b ∧ c b = false ∧ lWh n fc fb (D a) S = .nx (D b) S
  | 0, a, _, h => absurd h (Nat.not_lt_zero _)
  | n + 1, a, p, h => by
    have h1 := hc a p
    cases e : c a with
    | false =>
      refine ⟨a, p, e, ?_⟩
      unfold lWh whK
      rw [h1, e]
      rfl
    | true =>
      obtain ⟨h2, p2, m2⟩ := hb a p e
      obtain ⟨b, pb, eb, hb2⟩ := wh_run D c f P μ hc hb n (f a) p2 (by omega)
      refine ⟨b, pb, eb, ?_⟩
      rw [← hb2]
      unfold lWh
      conv => lhs; unfold whK
      rw [h1, e]
      show (match fb (D a) S with | .nx ds2 S2 => whK fc fb n ds2 S2 | .ct ds2 S2 => whK fc fb n ds2 S2 | .bk ds2 S2 => .nx ds2 S2 | r => r) = _
      rw [h2]
end
theorem e_wh {n : Nat} {fc : LE} {fb : LS} {ds : Sl} {S : Sto} : lWh n fc fb ds S = whK fc fb n ds S := (rfl)
end LL


set_option Elab.async false
set_option linter.all false
set_option maxRecDepth 100000
set_option maxHeartbeats 2000000
/-! The logical layer: the calendar in plain numbers; tuples of numbers compared. -/
namespace LL
open PySem PySem.Spec PyProof.Rows L2

def leap (y : Int) : Bool := decide (y % 4 = 0) && (!decide (y % 100 = 0) || decide (y % 400 = 0))
def ahead (y : Int) : Int := 365 * (y - 2000) + ((y - 2000 + 3) / 4 - (y - 2000 + 99) / 100 + (y - 2000 + 399) / 400)
def longT : List Int := [31, 28, 31, 30, 31, 30, 31, 31, 30, 31, 30, 31]
def mlen (y m : Int) : Int := if m = 2 ∧ leap y = true then 29 else longT.getD (m - 1).toNat 0
def cumT : List Int := [0, 31, 59, 90, 120, 151, 181, 212, 243, 273, 304, 334, 365]
def befo (y m : Int) : Int := cumT.getD (m - 1).toNat 0 + (if 2 < m ∧ leap y = true then 1 else 0)
theorem m12 {m : Int} (h : 1 ≤ m) (h2 : m ≤ 12) : m = 1 ∨ m = 2 ∨ m = 3 ∨ m = 4 ∨ m = 5 ∨ m = 6 ∨ m = 7 ∨ m = 8 ∨ m = 9 ∨ m = 10 ∨ m = 11 ∨ m = 12 := by omega
theorem befo_step {y m : Int} (h : 1 ≤ m) (h2 : m ≤ 12) : befo y (m + 1) = befo y m + mlen y m := by
  cases hl : leap y <;> rcases m12 h h2 with rfl | rfl | rfl | rfl | rfl | rfl | rfl | rfl | rfl | rfl | rfl | rfl <;> simp [befo, mlen, cumT, longT, hl]
theorem befo_1 (y : Int) : befo y 1 = 0 := by simp [befo, cumT]
theorem befo_13 (y : Int) : befo y 13 = 365 + (if leap y = true then 1 else 0) := by simp [befo, cumT]
theorem mlen_b {y m : Int} (h : 1 ≤ m) (h2 : m ≤ 12) : 28 ≤ mlen y m ∧ mlen y m ≤ 31 := by
  cases hl : leap y <;> rcases m12 h h2 with rfl | rfl | rfl | rfl | rfl | rfl | rfl | rfl | rfl | rfl | rfl | rfl <;> simp [mlen, longT, hl]
theorem befo_b {y m : Int} (h : 1 ≤ m) (h2 : m ≤ 12) : 0 ≤ befo y m ∧ befo y m ≤ 335 := by
  cases hl : leap y <;> rcases m12 h h2 with rfl | rfl | rfl | rfl | rfl | rfl | rfl | rfl | rfl | rfl | rfl | rfl <;> simp [befo, cumT, hl]
theorem befo_le {y m : Int} (h : 1 ≤ m) (h2 : m ≤ 12) : befo y m + mlen y m ≤ befo y 13 := by
  cases hl : leap y <;> rcases m12 h h2 with rfl | rfl | rfl | rfl | rfl | rfl | rfl | rfl | rfl | rfl | rfl | rfl <;> simp [befo, mlen, cumT, longT, hl]
theorem befo_mono {y m n : Int} (h : 1 ≤ m) (h2 : m < n) (h3 : n ≤ 12) : befo y m + mlen y m ≤ befo y n := by
  cases hl : leap y <;> rcases m12 (m := m) (by omega) (by omega) with rfl | rfl | rfl | rfl | rfl | rfl | rfl | rfl | rfl | rfl | rfl | rfl <;>
  rcases m12 (m := n) (by omega) (by omega) with rfl | rfl | rfl | rfl | rfl | rfl | rfl | rfl | rfl | rfl | rfl | rfl <;> first | omega | simp [befo, mlen, cumT, longT, hl]
theorem ahead_step {y : Int} (h : 2000 ≤ y) : ahead (y + 1) = ahead y + befo y 13 := by
  rw [befo_13]
  unfold ahead leap
  by_cases h4 : y % 4 = 0 <;> by_cases h1 : y % 100 = 0 <;> by_cases h0 : y % 400 = 0 <;> simp [h4, h1, h0] <;> omega
theorem ahead_2000 : ahead 2000 = 0 := by decide
theorem ahead_2400 : ahead 2400 = 146097 := by decide
theorem ahead_mono {y z : Int} (h : 2000 ≤ y) (h2 : y ≤ z) : ahead y ≤ ahead z := by unfold ahead; omega
theorem ahead_lt {y z : Int} (h : 2000 ≤ y) (h2 : y < z) : ahead (y + 1) ≤ ahead z := ahead_mono (by omega) (by omega)
theorem ahead_guess {d : Int} (h : 0 ≤ d) : ahead (2000 + d / 366) ≤ d := by unfold ahead; omega
/-- a day's parts -/
structure Day (y m p : Int) : Prop where
  y0 : 2000 ≤ y
  y1 : y ≤ 2399
  m0 : 1 ≤ m
  m1 : m ≤ 12
  p0 : 1 ≤ p
  p1 : p ≤ mlen y m
def dayN (y m p : Int) : Int := ahead y + befo y m + p - 1
theorem Day.in_year {y m p : Int} (h : Day y m p) : ahead y ≤ dayN y m p ∧ dayN y m p < ahead (y + 1) := by
  have h1 := befo_le (y := y) h.m0 h.m1
  have h2 := befo_b (y := y) h.m0 h.m1
  have h3 := ahead_step h.y0
  have := h.p0
  have := h.p1
  unfold dayN
  omega
theorem Day.range {y m p : Int} (h : Day y m p) : 0 ≤ dayN y m p ∧ dayN y m p ≤ 146096 := by
  have h1 := h.in_year
  have h2 := ahead_mono (y := 2000) (z := y) (by omega) h.y0
  have h3 := ahead_mono (y := y + 1) (z := 2400) (by have := h.y0; omega) (by have := h.y1; omega)
  rw [ahead_2000] at h2
  rw [ahead_2400] at h3
  omega
theorem Day.uniq {y m p y' m' p' : Int} (h : Day y m p) (h' : Day y' m' p') (e : dayN y m p = dayN y' m' p') : y = y' ∧ m = m' ∧ p = p' := by
  have a := h.in_year
  have b := h'.in_year
  have ey : y = y' := by
    rcases Int.lt_trichotomy y y' with c | c | c
    · have := ahead_lt h.y0 c; omega
    · exact c
    · have := ahead_lt h'.y0 c; omega
  subst ey
  have em : m = m' := by
    have := h.p0; have := h.p1; have := h'.p0; have := h'.p1
    unfold dayN at e
    rcases Int.lt_trichotomy m m' with c | c | c
    · have := befo_mono (y := y) h.m0 c h'.m1; omega
    · exact c
    · have := befo_mono (y := y) h'.m0 c h.m1; omega
  subst em
  unfold dayN at e
  exact ⟨rfl, rfl, by omega⟩
/-- the day behind -/
theorem Day.next {y m p : Int} (h : Day y m p) (hd : dayN y m p < 146096) :
    (p < mlen y m ∧ Day y m (p + 1) ∧ dayN y m (p + 1) = dayN y m p + 1) ∨ (p = mlen y m ∧ m < 12 ∧ Day y (m + 1) 1 ∧ dayN y (m + 1) 1 = dayN y m p + 1) ∨ (p = mlen y m ∧ m = 12 ∧ Day (y + 1) 1 1 ∧ dayN (y + 1) 1 1 = dayN y m p + 1) := by
  obtain ⟨y0, y1, m0, m1, p0, p1⟩ := h
  by_cases c : p < mlen y m
  · exact .inl ⟨c, ⟨y0, y1, m0, m1, by omega, by omega⟩, by unfold dayN; omega⟩
  · have ep : p = mlen y m := by omega
    by_cases cm : m < 12
    · refine .inr (.inl ⟨ep, cm, ⟨y0, y1, by omega, by omega, by omega, ?_⟩, ?_⟩)
      · have := mlen_b (y := y) (m := m + 1) (by omega) (by omega); omega
      · have := befo_step (y := y) m0 m1
        unfold dayN; omega
    · have em : m = 12 := by omega
      subst em
      have hs := ahead_step y0
      have hb := befo_step (y := y) (m := 12) (by omega) (by omega)
      have hb' : befo y 13 = befo y 12 + mlen y 12 := hb
      have h1 := befo_1 (y + 1)
      have hy : y + 1 ≤ 2399 := by
        rcases Int.lt_or_le 2398 y with c | c
        · have : y = 2399 := by omega
          subst this
          have := ahead_2400
          unfold dayN at hd
          rw [show (2399 : Int) + 1 = 2400 by omega, this] at hs
          omega
        · omega
      refine .inr (.inr ⟨ep, rfl, ⟨by omega, hy, by omega, by omega, by omega, ?_⟩, ?_⟩)
      · have := mlen_b (y := y + 1) (m := 1) (by omega) (by omega); omega
      · unfold dayN; omega
/-- a month by its number -/
def monY (k : Int) : Int := 2000 + k / 12
def monM (k : Int) : Int := 1 + k % 12
def monF (k : Int) : Int := ahead (monY k) + befo (monY k) (monM k)
def monL (k : Int) : Int := monF k + mlen (monY k) (monM k) - 1
theorem monM_b (k : Int) : 1 ≤ monM k ∧ monM k ≤ 12 := by unfold monM; omega
theorem mon_day {k p : Int} (h : 0 ≤ k) (h2 : k ≤ 4799) (h3 : 1 ≤ p) (h4 : p ≤ mlen (monY k) (monM k)) : Day (monY k) (monM k) p := ⟨by unfold monY; omega, by unfold monY; omega, (monM_b k).1, (monM_b k).2, h3, h4⟩
theorem mon_of (y m : Int) (h : 1 ≤ m) (h2 : m ≤ 12) : monY (12 * (y - 2000) + m - 1) = y ∧ monM (12 * (y - 2000) + m - 1) = m := by unfold monY monM; omega
theorem mon_next {k : Int} (h : 0 ≤ k) : monF (k + 1) = monL k + 1 := by
  unfold monL monF
  by_cases c : k % 12 = 11
  · have e1 : monY (k + 1) = monY k + 1 := by unfold monY; omega
    have e2 : monM (k + 1) = 1 := by unfold monM; omega
    have e3 : monM k = 12 := by unfold monM; omega
    rw [e1, e2, e3, befo_1, ahead_step (by unfold monY; omega)]
    have hb : befo (monY k) 13 = befo (monY k) 12 + mlen (monY k) 12 := befo_step (y := monY k) (m := 12) (by omega) (by omega)
    omega
  · have e1 : monY (k + 1) = monY k := by unfold monY; omega
    have e2 : monM (k + 1) = monM k + 1 := by unfold monM; omega
    rw [e1, e2, befo_step (monM_b k).1 (monM_b k).2]
    omega
theorem monF_0 : monF 0 = 0 := by decide
theorem monL_4799 : monL 4799 = 146096 := by decide
theorem day_of_mon (k p : Int) : dayN (monY k) (monM k) p = monF k + p - 1 := rfl
/-! ### values by their kind -/
structure Okv (S : Sto) (v : LV) : Prop where
  nx : isX v = false
  kd : ∃ k, kindL v S = some k
def wI : LV → Option Int
  | .int i => some i
  | _ => none
def wS : LV → Option Str
  | .str z => some z
  | _ => none
theorem wI_some {v : LV} {i : Int} (h : wI v = some i) : v = .int i := by
  cases v with
  | int k => injection h with h; rw [h]
  | _ => cases h
theorem wS_some {v : LV} {i : Str} (h : wS v = some i) : v = .str i := by
  cases v with
  | str k => injection h with h; rw [h]
  | _ => cases h
theorem kind_ref {n : Nat} {S : Sto} {k : String} (h : kindL (.ref n) S = some k) : k = "list" ∨ k = "dict" := by
  unfold kindL at h
  cases e : S[n]? with
  | none => simp [e] at h
  | some o => cases o <;> simp [e] at h <;> first | exact .inl h.symm | exact .inr h.symm
theorem kind_int {v : LV} {S : Sto} (h : kindL v S = some "int") : ∃ i, wI v = some i := by
  cases v with
  | int k => exact ⟨k, rfl⟩
  | ref n => rcases kind_ref h with e | e <;> exact absurd e (by decide)
  | non => exact absurd h (by simp [kindL])
  | bl b => exact absurd h (by simp [kindL])
  | str b => exact absurd h (by simp [kindL])
  | tup b => exact absurd h (by simp [kindL])
  | _ => exact absurd h (by simp [kindL])
theorem kind_str {v : LV} {S : Sto} (h : kindL v S = some "str") : ∃ z, v = .str z := by
  cases v with
  | str k => exact ⟨k, rfl⟩
  | ref n => rcases kind_ref h with e | e <;> exact absurd e (by decide)
  | non => exact absurd h (by simp [kindL])
  | bl b => exact absurd h (by simp [kindL])
  | int b => exact absurd h (by simp [kindL])
  | tup b => exact absurd h (by simp [kindL])
  | _ => exact absurd h (by simp [kindL])
theorem isi_str {v : LV} {S : Sto} (o : Okv S v) (w : wS v = none) : isiL [v, .ty "str"] S = .ok (.bl false) S := by
  obtain ⟨nx, k, hk⟩ := o
  have : k ≠ "str" := fun e => by
    subst e
    obtain ⟨z, rfl⟩ := kind_str hk
    cases w
  simp [isiL, hk, isiT, this]
theorem Okv.int {S : Sto} (i : Int) : Okv S (.int i) := ⟨rfl, _, rfl⟩
theorem Okv.str {S : Sto} (i : Str) : Okv S (.str i) := ⟨rfl, _, rfl⟩
theorem Okv.bl {S : Sto} (i : Bool) : Okv S (.bl i) := ⟨rfl, _, rfl⟩
theorem Okv.non {S : Sto} : Okv S .non := ⟨rfl, _, rfl⟩
theorem Okv.tup {S : Sto} (xs : List LV) : Okv S (.tup xs) := ⟨rfl, _, rfl⟩
theorem Okv.lst {S : Sto} {n : Nat} {xs : List LV} (h : S[n]? = some (.lst xs)) : Okv S (.ref n) := ⟨rfl, "list", by simp [kindL, h]⟩
theorem Okv.dct {S : Sto} {n : Nat} {xs} (h : S[n]? = some (.dct xs)) : Okv S (.ref n) := ⟨rfl, "dict", by simp [kindL, h]⟩
/-- the day that parts write -/
def dayOpt : Option Int → Option Int → Option Int → Option (Int × Int × Int)
  | some y, some m, some p => if 2000 ≤ y ∧ y ≤ 2399 ∧ 1 ≤ m ∧ m ≤ 12 ∧ 1 ≤ p ∧ p ≤ mlen y m then some (y, m, p) else none
  | _, _, _ => none
theorem dayOpt_day {a b c : Option Int} {y m p : Int} (h : dayOpt a b c = some (y, m, p)) : Day y m p := by
  unfold dayOpt at h
  split at h
  · split at h
    · rename_i q
      cases h
      exact ⟨q.1, q.2.1, q.2.2.1, q.2.2.2.1, q.2.2.2.2.1, q.2.2.2.2.2⟩
    · cases h
  · cases h
theorem dayOpt_of {y m p : Int} (h : Day y m p) : dayOpt (some y) (some m) (some p) = some (y, m, p) := if_pos ⟨h.y0, h.y1, h.m0, h.m1, h.p0, h.p1⟩
theorem cut_mid (z : Str) {i j : Int} (h : 0 ≤ i) (h2 : i ≤ j) : tl (cutS z (some i) (some j)) = ((tl z).drop i.toNat).take (j.toNat - i.toNat) := by
  rw [tl_cut]
  show ((tl z).drop (if i < 0 then (i + (z.length : Int)).toNat else min i.toNat z.length)).take ((if j < 0 then (j + (z.length : Int)).toNat else min j.toNat z.length) - (if i < 0 then (i + (z.length : Int)).toNat else min i.toNat z.length)) = _
  rw [if_neg (by omega), if_neg (by omega), tl_len]
  by_cases c : i.toNat ≤ (tl z).length
  · rw [Nat.min_eq_left c]
    by_cases d : j.toNat ≤ (tl z).length
    · rw [Nat.min_eq_left d]
    · rw [Nat.min_eq_right (by omega), List.take_of_length_le (by rw [List.length_drop]; omega), List.take_of_length_le (by rw [List.length_drop]; omega)]
  · rw [Nat.min_eq_right (a := i.toNat) (by omega), List.drop_length, List.drop_eq_nil_of_le (by omega)]
    simp
theorem ten {l : List Nat} (h : l.length = 10) : ∃ a b c d e f g i j k, l = [a, b, c, d, e, f, g, i, j, k] := by
  match l, h with
  | [a, b, c, d, e, f, g, i, j, k], _ => exact ⟨a, b, c, d, e, f, g, i, j, k, rfl⟩
/-- the parts that a text writes -/
def dateOpt (l : List Nat) : Option (Int × Int × Int) := match l with
  | [a, b, c, d, e, f, g, i, j, k] => if (e == 45 && i == 45 && [a, b, c, d, f, g, j, k].all fun x => decide (x ∈ tl digT)) = true then
      dayOpt (some (NumText.digitsVal [a, b, c, d] : Nat)) (some (NumText.digitsVal [f, g] : Nat)) (some (NumText.digitsVal [j, k] : Nat)) else none
  | _ => none
theorem int_dig {z : Str} {S : Sto} {l : List Nat} (e : tl z = l) (hl : l.length ≤ 640) (hn : l ≠ []) (h : l.all (fun x => decide (x ∈ tl digT)) = true) : intL [.str z] S = .ok (.int (NumText.digitsVal l : Nat)) S := by
  have hz : z.length ≤ 640 := by rw [tl_len, e]; exact hl
  have := intText_digits (x := z) (by rw [show z.cps.toList = tl z from rfl, e]; exact all_dig h) (by rw [show z.cps.toList = tl z from rfl, e]; exact hn) (by omega)
  rw [show z.cps.toList = tl z from rfl, e] at this
  simp [intL, this, hz]
theorem dateOpt_day {l : List Nat} {y m p : Int} (h : dateOpt l = some (y, m, p)) : Day y m p := by
  unfold dateOpt at h
  split at h
  · split at h
    · exact dayOpt_day h
    · cases h
  · cases h
theorem num4 {n : Nat} (h : 1000 ≤ n) (h2 : n < 10000) : TL.numL n = [48 + n / 1000, 48 + n / 100 % 10, 48 + n / 10 % 10, 48 + n % 10] := by
  rw [TL.numL_step (by omega), TL.numL_step (by omega), TL.numL_step (by omega), TL.numL_lt (by omega)]
  simp
  omega
theorem date_text {y m p : Int} (h : Day y m p) : dateOpt (tl (toString y : Str) ++ [45, 48 + (m / 10).toNat, 48 + (m % 10).toNat, 45, 48 + (p / 10).toNat, 48 + (p % 10).toNat]) = some (y, m, p) := by
  have hb := mlen_b (y := y) h.m0 h.m1
  have y0 := h.y0
  have y1 := h.y1
  have p0 := h.p0
  have p1 := h.p1
  have m0 := h.m0
  have m1 := h.m1
  obtain ⟨n, rfl⟩ := Int.eq_ofNat_of_zero_le (show 0 ≤ y by omega)
  obtain ⟨a, rfl⟩ := Int.eq_ofNat_of_zero_le (show 0 ≤ m by omega)
  obtain ⟨b, rfl⟩ := Int.eq_ofNat_of_zero_le (show 0 ≤ p by omega)
  rw [tl_int, if_neg (by omega), show ((n : Int)).natAbs = n by omega, num4 (by omega) (by omega)]
  have dg : ∀ k : Nat, k < 10 → decide (48 + k ∈ tl digT) = true := fun k hk => decide_eq_true ((digT_iff _).mpr ⟨by omega, by omega⟩)
  have e1 : ((a : Int) / 10).toNat = a / 10 := by omega
  have e2 : ((a : Int) % 10).toNat = a % 10 := by omega
  have e3 : ((b : Int) / 10).toNat = b / 10 := by omega
  have e4 : ((b : Int) % 10).toNat = b % 10 := by omega
  rw [e1, e2, e3, e4]
  show (if ((45 : Nat) == 45 && (45 : Nat) == 45 && [48 + n / 1000, 48 + n / 100 % 10, 48 + n / 10 % 10, 48 + n % 10, 48 + a / 10, 48 + a % 10, 48 + b / 10, 48 + b % 10].all fun x => decide (x ∈ tl digT)) = true then
      dayOpt (some (NumText.digitsVal [48 + n / 1000, 48 + n / 100 % 10, 48 + n / 10 % 10, 48 + n % 10] : Nat)) (some (NumText.digitsVal [48 + a / 10, 48 + a % 10] : Nat)) (some (NumText.digitsVal [48 + b / 10, 48 + b % 10] : Nat)) else none) = _
  rw [if_pos (by simp only [List.all_cons, List.all_nil]; rw [dg _ (by omega), dg _ (by omega), dg _ (by omega), dg _ (by omega), dg _ (by omega), dg _ (by omega), dg _ (by omega), dg _ (by omega)]; rfl)]
  rw [show NumText.digitsVal [48 + n / 1000, 48 + n / 100 % 10, 48 + n / 10 % 10, 48 + n % 10] = n by simp [NumText.digitsVal]; omega,
    show NumText.digitsVal [48 + a / 10, 48 + a % 10] = a by simp [NumText.digitsVal]; omega, show NumText.digitsVal [48 + b / 10, 48 + b % 10] = b by simp [NumText.digitsVal]; omega]
  exact dayOpt_of h
/-! ### tuples of whole numbers compared -/
section
variable {S : Sto} {a b c d e f : Int}
theorem eqV_t3 : eqV2 (.tup [.int a, .int b, .int c]) (.tup [.int d, .int e, .int f]) S = some (a == d && (b == e && (c == f && true))) := by
  unfold eqV2
  rw [show eqS (.tup [.int a, .int b, .int c]) (.tup [.int d, .int e, .int f]) = none from rfl]
  simp only
  rw [show dat S 60 (.tup [.int a, .int b, .int c]) = some (.tuple [.int a, .int b, .int c]) from rfl, show dat S 60 (.tup [.int d, .int e, .int f]) = some (.tuple [.int d, .int e, .int f]) from rfl]
  simp only
  rw [show SeqAt.shaped (.tuple [.int a, .int b, .int c]) = true from rfl, show SeqAt.shaped (.tuple [.int d, .int e, .int f]) = true from rfl]
  rfl
theorem eq_t3 : eqL (.tup [.int a, .int b, .int c]) (.tup [.int d, .int e, .int f]) S = .ok (.bl (a == d && (b == e && c == f))) S := by
  unfold eqL; rw [eqV_t3, Bool.and_true]
theorem ne_t3 : neL (.tup [.int a, .int b, .int c]) (.tup [.int d, .int e, .int f]) S = .ok (.bl !(a == d && (b == e && c == f))) S := by
  unfold neL; rw [eqV_t3, Bool.and_true]
theorem ix_k {xs : List LV} {u : LV} {j : Int} (h : 0 ≤ j) (hu : xs[j.toNat]? = some u) : ixL (.ktp xs) (.int j) S = .ok u S := by
  simp only [ixL, ixO, atI_nn h, hu]
theorem ix_l0 {xs : List LV} {u : LV} {j : Int} (h : 0 ≤ j) (hu : xs[j.toNat]? = some u) : ixL (.ref S.length) (.int j) (S ++ [.lst xs]) = .ok u (S ++ [.lst xs]) := ix_l (by rw [get_app0]; rfl) h hu
theorem ix_l1 {o : LO} {xs : List LV} {u : LV} {j : Int} (h : 0 ≤ j) (hu : xs[j.toNat]? = some u) : ixL (.ref (S.length + 1)) (.int j) (S ++ [o, .lst xs]) = .ok u (S ++ [o, .lst xs]) := ix_l (by rw [get_app]; rfl) h hu
theorem ix_lk {U : Sto} {n : Nat} {xs : List LV} {u : LV} {j : Int} (hU : U[n]? = some (.lst xs)) (h : 0 ≤ j) (hu : xs[j.toNat]? = some u) : ixL (.ref (S.length + n)) (.int j) (S ++ U) = .ok u (S ++ U) := ix_l (by rw [get_app]; exact hU) h hu
theorem get_ex {α : Type} {xs : List α} {j : Int} (h : 0 ≤ j) (h2 : j < xs.length) : ∃ u, xs[j.toNat]? = some u := ⟨_, List.getElem?_eq_getElem (by omega)⟩
theorem gtp_e {gs : LGs} {xs : List LV} {ds : Sl} : asgK (gTp gs) ds (.tup xs) S = (match gs xs S ds with | some ds1 => .nx ds1 S | none => .no) := (rfl)
@[simp] theorem gs_nil {ds : Sl} : gsNil [] S ds = some ds := (rfl)
@[simp] theorem gs_cons {i : Nat} {gs : LGs} {v : LV} {xs : List LV} {ds : Sl} : gsCons (gNm i) gs (v :: xs) S ds = gs xs S (ds.set i (some v)) := (rfl)
@[simp] theorem min_ii : minL [.int a, .int b] S = .ok (.int (if b < a then b else a)) S := (rfl)
@[simp] theorem max_ii : maxL [.int a, .int b] S = .ok (.int (if b > a then b else a)) S := (rfl)
@[simp] theorem int_b {k : Bool} : intL [.bl k] S = .ok (.int (if k = true then 1 else 0)) S := (rfl)
@[simp] theorem int_i {k : Int} : intL [.int k] S = .ok (.int k) S := (rfl)
@[simp] theorem abs_i {k : Int} : absL [.int k] S = .ok (.int (if k < 0 then -k else k)) S := (rfl)
end
end LL


set_option Elab.async false
set_option linter.all false
set_option maxRecDepth 100000
set_option maxHeartbeats 2000000
/-! The logical layer: lists of digits, amounts in texts. -/
namespace LL
open PySem PySem.Spec PyProof.Rows L2

abbrev dval (a : List Nat) : Nat := NumText.digitsVal a
theorem fold_val (a : List Nat) : ∀ s : Nat, a.foldl (fun acc c => acc * 10 + (c - 48)) s = s * 10 ^ a.length + dval a := by
  induction a with
  | nil => intro s; simp [NumText.digitsVal]
  | cons c a ih =>
    intro s
    show a.foldl _ (s * 10 + (c - 48)) = s * 10 ^ (a.length + 1) + a.foldl _ (0 * 10 + (c - 48))
    rw [ih, ih, Nat.pow_succ, Nat.add_mul, Nat.zero_mul, Nat.zero_add, Nat.mul_assoc, Nat.mul_comm 10]
    omega
theorem val_cons (c : Nat) (a : List Nat) : dval (c :: a) = (c - 48) * 10 ^ a.length + dval a := by
  show a.foldl _ (0 * 10 + (c - 48)) = _
  rw [fold_val, Nat.zero_mul, Nat.zero_add]
theorem val_lt {a : List Nat} (h : NumText.AllDigits a) : dval a < 10 ^ a.length := by
  induction a with
  | nil => decide
  | cons c a ih =>
    rw [val_cons, List.length_cons, Nat.pow_succ]
    have := ih h.tail
    have hc := h.head
    have : (c - 48) * 10 ^ a.length ≤ 9 * 10 ^ a.length := Nat.mul_le_mul_right _ (by omega)
    omega
theorem val_ge {c : Nat} {a : List Nat} (h : NumText.AllDigits (c :: a)) (hc : c ≠ 48) : 10 ^ a.length ≤ dval (c :: a) := by
  rw [val_cons]
  have := h.head
  have : 1 * 10 ^ a.length ≤ (c - 48) * 10 ^ a.length := Nat.mul_le_mul_right _ (by omega)
  omega
theorem dig_inj : ∀ {a b : List Nat}, NumText.AllDigits a → NumText.AllDigits b → a.length = b.length → dval a = dval b → a = b
  | [], [], _, _, _, _ => rfl
  | [], _ :: _, _, _, h, _ => by simp at h
  | _ :: _, [], _, _, h, _ => by simp at h
  | c :: a, d :: b, ha, hb, hl, hv => by
    have hl' : a.length = b.length := by simpa using hl
    rw [val_cons, val_cons, hl'] at hv
    have va := val_lt ha.tail
    have vb := val_lt hb.tail
    rw [hl'] at va
    have c1 := ha.head
    have d1 := hb.head
    generalize 10 ^ b.length = P at hv va vb
    have e : c - 48 = d - 48 := by
      rcases Nat.lt_trichotomy (c - 48) (d - 48) with q | q | q
      · have : (c - 48 + 1) * P ≤ (d - 48) * P := Nat.mul_le_mul_right _ q
        rw [Nat.add_mul] at this
        omega
      · exact q
      · have : (d - 48 + 1) * P ≤ (c - 48) * P := Nat.mul_le_mul_right _ q
        rw [Nat.add_mul] at this
        omega
    rw [e] at hv
    have := dig_inj ha.tail hb.tail hl' (by omega)
    rw [this, show c = d by omega]
theorem numL_len_gt {n k : Nat} (h : 10 ^ k ≤ n) : k < (TL.numL n).length := by
  have := val_lt (TL.numL_digits n)
  rw [show dval (TL.numL n) = n from TL.numL_val n] at this
  exact (Nat.pow_lt_pow_iff_right (by decide : 1 < 10)).mp (Nat.lt_of_le_of_lt h this)
theorem numL_pos (n : Nat) : 0 < (TL.numL n).length := by
  cases e : TL.numL n with
  | nil => exact absurd e (TL.numL_ne n)
  | cons c l => simp
theorem numL_head {n : Nat} (h : (TL.numL n).head? = some 48) : (TL.numL n).length = 1 := by
  cases e : TL.numL n with
  | nil => exact absurd e (TL.numL_ne n)
  | cons c l =>
    rw [e] at h
    have hc : c = 48 := by simpa using h
    cases l with
    | nil => rfl
    | cons d l =>
      have hd := TL.numL_digits n
      rw [e] at hd
      have hv : n = dval (c :: d :: l) := by rw [← e]; exact (TL.numL_val n).symm
      rw [val_cons, hc] at hv
      have lt := val_lt hd.tail
      have := TL.numL_len (n := n) (k := (d :: l).length) (by simp) (by omega)
      rw [e] at this
      simp at this
      omega
/-- so many digits at least -/
def padF (v k : Nat) : List Nat := List.replicate (k - (TL.numL v).length) 48 ++ TL.numL v
theorem padF_digits (v k : Nat) : NumText.AllDigits (padF v k) := fun c hc => by
  rcases List.mem_append.mp hc with hc | hc
  · rw [List.eq_of_mem_replicate hc]; omega
  · exact TL.numL_digits v c hc
theorem padF_len (v k : Nat) : (padF v k).length = max (TL.numL v).length k := by
  unfold padF
  rw [List.length_append, List.length_replicate]
  omega
theorem padF_val (v k : Nat) : dval (padF v k) = v := by
  unfold padF
  generalize k - (TL.numL v).length = m
  induction m with
  | zero => exact TL.numL_val v
  | succ m ih =>
    rw [List.replicate_succ, List.cons_append, val_cons, ih]
    omega
theorem pad_of {F : List Nat} {k : Nat} (hd : NumText.AllDigits F) (hk : 1 ≤ k) (hl : k ≤ F.length) (hh : F.length = k ∨ F.head? ≠ some 48) : F = padF (dval F) k := by
  refine dig_inj hd (padF_digits _ _) ?_ (padF_val _ _).symm
  rw [padF_len]
  have le : (TL.numL (dval F)).length ≤ F.length := TL.numL_len (by omega) (val_lt hd)
  rcases hh with hh | hh
  · omega
  · cases F with
    | nil => simp at hl; omega
    | cons c F =>
      have := numL_len_gt (val_ge hd (fun e => hh (by rw [e]; rfl)))
      rw [List.length_cons] at *
      omega
theorem padF_head {v k : Nat} (h : k < (padF v k).length) (hk : 1 ≤ k) : (padF v k).head? ≠ some 48 := by
  rw [padF_len] at h
  have e : padF v k = TL.numL v := by
    unfold padF
    rw [show k - (TL.numL v).length = 0 by omega]; rfl
  rw [e]
  intro z
  have := numL_head z
  omega
/-- a point ahead of the last so many -/
def midF (F : List Nat) (pl : Nat) : List Nat := if pl = 0 then F else F.take (F.length - pl) ++ 46 :: F.drop (F.length - pl)
def AT (n : Int) (pl : Nat) : List Nat := (if n < 0 then [45] else []) ++ midF (padF n.natAbs (pl + 1)) pl
def isDg (c : Nat) : Bool := decide (c ∈ tl digT)
theorem isDg_iff (c : Nat) : isDg c = true ↔ 48 ≤ c ∧ c ≤ 57 := by
  unfold isDg
  rw [decide_eq_true_eq]
  exact digT_iff c
theorem all_isDg {a : List Nat} : a.all isDg = true ↔ NumText.AllDigits a := by
  rw [List.all_eq_true]
  exact ⟨fun h c hc => (isDg_iff c).mp (h c hc), fun h c hc => (isDg_iff c).mpr (h c hc)⟩
theorem filter_dig {F : List Nat} (h : NumText.AllDigits F) : F.filter isDg = F := List.filter_eq_self.mpr fun c hc => (isDg_iff c).mpr (h c hc)
theorem mid_filter {F : List Nat} (h : NumText.AllDigits F) (pl : Nat) : (midF F pl).filter isDg = F := by
  unfold midF
  split
  · exact filter_dig h
  · rw [List.filter_append, List.filter_cons, show isDg 46 = false by decide]
    simp only [Bool.false_eq_true, if_false]
    rw [← List.filter_append, List.take_append_drop]
    exact filter_dig h
theorem mid_len {F : List Nat} {pl : Nat} (h : pl ≤ F.length) : (midF F pl).length = F.length + (if pl = 0 then 0 else 1) := by
  unfold midF
  split
  · rfl
  · rw [List.length_append, List.length_take, List.length_cons, List.length_drop]
    omega
theorem mid_head {F : List Nat} {pl : Nat} (hd : NumText.AllDigits F) (h : pl + 1 ≤ F.length) : (midF F pl).take 1 ≠ [45] := by
  cases F with
  | nil => simp at h
  | cons c F =>
    have hc := hd.head
    have : (midF (c :: F) pl).take 1 = [c] := by
      unfold midF
      split
      · rfl
      · rw [List.length_cons] at h ⊢
        obtain ⟨j, hj⟩ : ∃ j, F.length + 1 - pl = j + 1 := ⟨F.length - pl, by omega⟩
        rw [hj]
        rfl
    rw [this]
    simp
    omega
/-- what amount_of tells -/
def amtN (a : List Nat) : Int := if (a.take 1 == [45]) = true then -(dval (a.filter isDg) : Int) else (dval (a.filter isDg) : Int)
def amtOf (a : List Nat) (pl : Nat) : Option Int :=
  if 20 < a.length then none
  else if (a.filter isDg).isEmpty = true then none
  else if ((dval (a.filter isDg) ≤ 10 ^ 15) ∧ AT (amtN a) pl = a) then some (amtN a)
  else none
def bodyF (a : List Nat) : List Nat := if (a.take 1 == [45]) = true then a.drop 1 else a
def figF (b : List Nat) (pl : Nat) : List Nat := if pl = 0 then b else b.take (b.length - pl - 1) ++ b.drop (b.length - pl)
def dueOf (a : List Nat) (pl : Nat) : Option Int :=
  if pl ≠ 0 ∧ ((bodyF a).length < pl + 2 ∨ atN (bodyF a) (((bodyF a).length - pl - 1 : Nat) : Int) ≠ 46) then none
  else if (figF (bodyF a) pl).length ≤ pl ∨ (figF (bodyF a) pl).all isDg = false then none
  else if pl + 1 < (figF (bodyF a) pl).length ∧ (figF (bodyF a) pl).head? = some 48 then none
  else if 10 ^ 15 < dval (figF (bodyF a) pl) ∨ ((a.take 1 == [45]) = true ∧ dval (figF (bodyF a) pl) = 0) then none
  else some (if (a.take 1 == [45]) = true then -(dval (figF (bodyF a) pl) : Int) else (dval (figF (bodyF a) pl) : Int))
theorem AT_parts (n : Int) (pl : Nat) : ((AT n pl).take 1 == [45]) = decide (n < 0) ∧ bodyF (AT n pl) = midF (padF n.natAbs (pl + 1)) pl ∧ (AT n pl).filter isDg = padF n.natAbs (pl + 1) := by
  have hd := padF_digits n.natAbs (pl + 1)
  have hl : pl + 1 ≤ (padF n.natAbs (pl + 1)).length := by rw [padF_len]; omega
  by_cases h : n < 0
  · have e : AT n pl = 45 :: midF (padF n.natAbs (pl + 1)) pl := by unfold AT; rw [if_pos h]; rfl
    have t : ((AT n pl).take 1 == [45]) = true := by rw [e]; rfl
    refine ⟨by rw [t, decide_eq_true h], ?_, ?_⟩
    · unfold bodyF; rw [t, e]; rfl
    · rw [e, List.filter_cons, show isDg 45 = false by decide]
      simp only [Bool.false_eq_true, if_false]
      exact mid_filter hd pl
  · have e : AT n pl = midF (padF n.natAbs (pl + 1)) pl := by unfold AT; rw [if_neg h]; rfl
    have t : ((AT n pl).take 1 == [45]) = false := by
      rw [e]
      exact beq_false_of_ne (mid_head hd hl)
    refine ⟨by rw [t, decide_eq_false h], ?_, ?_⟩
    · unfold bodyF; rw [t, e]; rfl
    · rw [e]; exact mid_filter hd pl
theorem amt_iff {a : List Nat} {pl : Nat} {n : Int} (hp : pl ≤ 4) : amtOf a pl = some n ↔ n.natAbs ≤ 10 ^ 15 ∧ a = AT n pl := by
  constructor
  · intro h
    unfold amtOf at h
    split at h
    · cases h
    · split at h
      · cases h
      · split at h
        · rename_i q
          injection h with h
          rw [h] at q
          refine ⟨?_, q.2.symm⟩
          have : n.natAbs = dval (a.filter isDg) := by rw [← h]; unfold amtN; split <;> omega
          rw [this]; exact q.1
        · cases h
  · rintro ⟨h, rfl⟩
    obtain ⟨t, _, f⟩ := AT_parts n pl
    have hl : (AT n pl).length ≤ 20 := by
      unfold AT
      rw [List.length_append, mid_len (by rw [padF_len]; omega), padF_len]
      have : (TL.numL n.natAbs).length ≤ 16 := TL.numL_len (by decide) (by omega)
      split <;> split <;> simp <;> omega
    have v : dval ((AT n pl).filter isDg) = n.natAbs := by rw [f]; exact padF_val _ _
    have e : amtN (AT n pl) = n := by
      unfold amtN
      rw [t, v]
      by_cases q : n < 0
      · rw [decide_eq_true q, if_pos rfl]; omega
      · rw [decide_eq_false q, if_neg (by decide)]; omega
    unfold amtOf
    rw [if_neg (by omega), if_neg (by
      rw [f]
      cases c : padF n.natAbs (pl + 1) with
      | nil => have := padF_len n.natAbs (pl + 1); rw [c] at this; simp at this; omega
      | cons => simp), if_pos ⟨by rw [v]; exact h, by rw [e]⟩, e]
theorem fig_mid {F : List Nat} {pl : Nat} (h : pl + 1 ≤ F.length) : figF (midF F pl) pl = F := by
  unfold figF
  split
  · rename_i e; unfold midF; rw [if_pos e]
  · rename_i e
    have ml := mid_len (F := F) (pl := pl) (by omega)
    rw [if_neg e] at ml
    rw [ml]
    unfold midF
    rw [if_neg e, show F.length + 1 - pl - 1 = (F.take (F.length - pl)).length by rw [List.length_take]; omega, List.take_left, show F.length + 1 - pl = (F.take (F.length - pl)).length + 1 by rw [List.length_take]; omega]
    rw [List.drop_append, List.drop_eq_nil_of_le (by omega), show (F.take (F.length - pl)).length + 1 - (F.take (F.length - pl)).length = 1 by omega]
    show F.take (F.length - pl) ++ ([] ++ F.drop (F.length - pl)) = F
    rw [List.nil_append, List.take_append_drop]
theorem mid_fig {b : List Nat} {pl : Nat} (h : pl ≠ 0 → pl + 2 ≤ b.length ∧ atN b ((b.length - pl - 1 : Nat) : Int) = 46) : midF (figF b pl) pl = b := by
  unfold figF midF
  by_cases e : pl = 0
  · rw [if_pos e, if_pos e]
  · obtain ⟨h1, h2⟩ := h e
    rw [if_neg e, if_neg e]
    have l : (b.take (b.length - pl - 1) ++ b.drop (b.length - pl)).length - pl = (b.take (b.length - pl - 1)).length := by
      rw [List.length_append, List.length_take, List.length_drop]; omega
    rw [l, List.take_left, List.drop_left]
    have hi : b.length - pl - 1 < b.length := by omega
    have g : b[b.length - pl - 1] = 46 := by
      unfold atN at h2
      rw [Int.toNat_natCast, List.getD_eq_getElem?_getD, List.getElem?_eq_getElem hi] at h2
      exact h2
    rw [show b.drop (b.length - pl) = b.drop (b.length - pl - 1 + 1) by congr 1; omega, ← g, ← List.drop_eq_getElem_cons hi, List.take_append_drop]
theorem due_iff {a : List Nat} {pl : Nat} {n : Int} : dueOf a pl = some n ↔ n.natAbs ≤ 10 ^ 15 ∧ a = AT n pl := by
  constructor
  · intro h
    unfold dueOf at h
    split at h
    · cases h
    · rename_i c1
      split at h
      · cases h
      · rename_i c2
        split at h
        · cases h
        · rename_i c3
          split at h
          · cases h
          · rename_i c4
            injection h with h
            have hl : pl < (figF (bodyF a) pl).length := by
              rcases Nat.lt_or_ge pl (figF (bodyF a) pl).length with q | q
              · exact q
              · exact absurd (.inl q) c2
            have hd : NumText.AllDigits (figF (bodyF a) pl) := all_isDg.mp (by
              cases q : (figF (bodyF a) pl).all isDg with
              | true => rfl
              | false => exact absurd (.inr q) c2)
            have hv : dval (figF (bodyF a) pl) ≤ 10 ^ 15 := by
              rcases Nat.lt_or_ge (10 ^ 15) (dval (figF (bodyF a) pl)) with q | q
              · exact absurd (.inl q) c4
              · exact q
            have hF := pad_of (k := pl + 1) hd (by omega) hl (by
              rcases Nat.lt_or_ge (pl + 1) (figF (bodyF a) pl).length with q | q
              · exact .inr fun z => c3 ⟨q, z⟩
              · exact .inl (by omega))
            have hb := mid_fig (b := bodyF a) (pl := pl) fun e => by
              refine ⟨?_, ?_⟩
              · rcases Nat.lt_or_ge (bodyF a).length (pl + 2) with q | q
                · exact absurd ⟨e, .inl q⟩ c1
                · exact q
              · rcases Nat.decEq (atN (bodyF a) (((bodyF a).length - pl - 1 : Nat) : Int)) 46 with q | q
                · exact absurd ⟨e, .inr q⟩ c1
                · exact q
            have na : n.natAbs = dval (figF (bodyF a) pl) := by rw [← h]; split <;> omega
            refine ⟨by rw [na]; exact hv, ?_⟩
            unfold AT
            rw [na, ← hF, hb]
            cases t : (a.take 1 == [45]) with
            | true =>
              rw [t, if_pos rfl] at h
              have : dval (figF (bodyF a) pl) ≠ 0 := fun z => c4 (.inr ⟨t, z⟩)
              rw [if_pos (by omega)]
              unfold bodyF
              rw [t, if_pos rfl]
              cases a with
              | nil => cases t
              | cons c l =>
                simp at t
                rw [t]; rfl
            | false =>
              rw [t, if_neg (by decide)] at h
              rw [if_neg (by omega)]
              unfold bodyF
              rw [t, if_neg (by decide)]; rfl
  · rintro ⟨h, rfl⟩
    obtain ⟨t, b, _⟩ := AT_parts n pl
    have hd := padF_digits n.natAbs (pl + 1)
    have hl : pl + 1 ≤ (padF n.natAbs (pl + 1)).length := by rw [padF_len]; omega
    have v := padF_val n.natAbs (pl + 1)
    have f := fig_mid hl
    have ml := mid_len (F := padF n.natAbs (pl + 1)) (pl := pl) (by omega)
    unfold dueOf
    rw [b, f, if_neg (by
      rintro ⟨e, q | q⟩
      · rw [ml, if_neg e] at q; omega
      · apply q
        rw [ml, if_neg e]
        unfold midF atN
        rw [if_neg e, Int.toNat_natCast, List.getD_eq_getElem?_getD, List.getElem?_append_right (by rw [List.length_take]; omega),
          show (padF n.natAbs (pl + 1)).length + 1 - pl - 1 - (List.take ((padF n.natAbs (pl + 1)).length - pl) (padF n.natAbs (pl + 1))).length = 0 by rw [List.length_take]; omega]
        rfl), if_neg (by
      rintro (q | q)
      · omega
      · rw [all_isDg.mpr hd] at q; cases q), if_neg (by
      rintro ⟨q, z⟩
      exact padF_head q (by omega) z), t, v, if_neg (by
      rintro (q | ⟨q, z⟩)
      · omega
      · have := of_decide_eq_true q; omega)]
    congr 1
    by_cases q : n < 0
    · rw [decide_eq_true q, if_pos rfl]; omega
    · rw [decide_eq_false q, if_neg (by decide)]; omega
theorem cut_negto (z : Str) {k : Int} (h : 0 < k) (h2 : k ≤ z.length) : tl (cutS z none (some (-k))) = (tl z).take (z.length - k.toNat) := by
  rw [tl_cut]
  show ((tl z).drop 0).take ((if -k < 0 then (-k + (z.length : Int)).toNat else min (-k).toNat z.length) - 0) = _
  rw [if_pos (by omega), List.drop_zero, Nat.sub_zero, show (-k + (z.length : Int)).toNat = z.length - k.toNat by omega]
theorem cut_negfrom (z : Str) {k : Int} (h : 0 < k) (h2 : k ≤ z.length) : tl (cutS z (some (-k)) none) = (tl z).drop (z.length - k.toNat) := by
  rw [tl_cut]
  show ((tl z).drop (if -k < 0 then (-k + (z.length : Int)).toNat else min (-k).toNat z.length)).take (z.length - (if -k < 0 then (-k + (z.length : Int)).toNat else min (-k).toNat z.length)) = _
  rw [if_pos (by omega), show (-k + (z.length : Int)).toNat = z.length - k.toNat by omega]
  exact List.take_of_length_le (by rw [List.length_drop, len_tl]; omega)
theorem mul_zero_txt (k : Int) : tl (Txt.mul ("0" : Str) k) = List.replicate k.toNat 48 := by
  unfold Txt.mul
  by_cases h : k < 1
  · rw [if_pos h, show k.toNat = 0 by omega]; rfl
  · rw [if_neg h]
    by_cases h1 : k = 1
    · subst h1; rfl
    · rw [if_neg (by simp [h1]; decide)]
      have : ∀ (m : Nat) (acc : Array Nat), ((List.replicate m ("0" : Str).cps).foldl (· ++ ·) acc).toList = acc.toList ++ List.replicate m 48 := by
        intro m
        induction m with
        | zero => intro acc; simp
        | succ m ih =>
          intro acc
          rw [List.replicate_succ, List.foldl_cons, ih, Array.toList_append, List.replicate_succ, List.append_assoc]
          rfl
      show ((List.replicate k.toNat ("0" : Str).cps).foldl (· ++ ·) #[]).toList = _
      rw [this]
      rfl
theorem amt_due {a : List Nat} {pl : Nat} (hp : pl ≤ 4) : amtOf a pl = dueOf a pl := by
  cases e : amtOf a pl with
  | some n => exact (due_iff.mpr ((amt_iff hp).mp e)).symm
  | none =>
    cases e2 : dueOf a pl with
    | none => rfl
    | some n =>
      rw [(amt_iff hp).mpr (due_iff.mp e2)] at e
      cases e
end LL


set_option Elab.async false
set_option linter.all false
set_option maxRecDepth 100000
set_option maxHeartbeats 4000000
/-! The logical layer: a tuple times 0, 1, ..; isinstance of what was caught and several classes. -/
namespace LL
open PySem PySem.Spec PyProof.Rows L2

theorem tup_mul1 (l : Addr) (items : Array Value) (n : Nat) (dd : Option Addr) (sl : Array (Option Value)) (u : Tok) :
    Meets (Builtin.«tuple.__mul__» ⟨[.ref l, .int 1 u], []⟩) (fun _ R s => s.heap.get? l = some { cls := .type "tuple", dict := dd, data := .seq items n, slots := sl } ∧ R (.ok (.ret (Value.ref l))) s) :=
  .of_wp fun prog w A R s h => by
    obtain ⟨hp, g, d, tk, os⟩ := s
    obtain ⟨hl, h⟩ := h
    have f1 := AutoSeq1.idx_int
    wp_walk using wpAny_loadPart' hl
    exact ⟨_, rfl, h⟩
theorem tup_mul0 (l : Addr) (items : Array Value) (n : Nat) (dd : Option Addr) (sl : Array (Option Value)) (u : Tok) (hi : items.isEmpty = false) :
    Meets (Builtin.«tuple.__mul__» ⟨[.ref l, .int 0 u], []⟩) (fun _ R s => s.heap.get? l = some { cls := .type "tuple", dict := dd, data := .seq items n, slots := sl } ∧
      R (.ok (.ret (Value.ref s.heap.objs.size))) { s with heap := s.heap.push { cls := Value.type "tuple", data := Data.seq #[] }, toks := s.toks }) :=
  .of_wp fun prog w A R s h => by
    obtain ⟨hp, g, d, tk, os⟩ := s
    obtain ⟨hl, h⟩ := h
    have f1 := AutoSeq1.idx_int
    wp_walk using wpAny_loadPart' hl
    exact ⟨_, rfl, h⟩
def rRep01 (K : PySem.W.Frag) : R2 := fun x y H Q => ∃ l k xs, x = .ref l ∧ y = .int k ∧ SqT K H l xs ∧ xs ≠ [] ∧ ((k = 1 ∧ Q x H) ∨ (k = 0 ∧ ∀ p, H p = none → Q (.ref p) (upd H p (.tup []))))
theorem op_rep01 {X : Cx} : OpR X (binaryOp .Mult) (rRep01 X.K) := by
  intro pins s σ H x y v u Q I rx ry h
  obtain ⟨l, k, xs, rfl, rfl, hT, hne, q⟩ := h
  cases rx
  obtain ⟨t, rfl⟩ := ry
  obtain ⟨its, r, ⟨⟨cls, dd, data, sl⟩, ho, hc, n, hd⟩, hs⟩ := I.tuple hT
  simp only at hc hd
  subst hc hd
  have hle : its.length = xs.length := r.length.symm
  have hn : its ≠ [] := fun e => hne (by
    rw [e] at hle
    exact List.eq_nil_of_length_eq_zero hle.symm)
  have hi : its.toArray.isEmpty = false := by
    cases its with
    | nil => exact absurd rfl hn
    | cons a b => rfl
  rcases q with ⟨rfl, q⟩ | ⟨rfl, q⟩
  · refine wpAny_binaryOp_repeat_ref (T := "tuple") (U := "int") (by decide) ⟨_, ho, rfl⟩ (fun s' => typeIs_int s' 1 t) noFill_tuple_mul F.fills_int_mul F.slot_int_rmul repeat_tuple F.slot_int_index.lookup
      (call_meets F.slot_int_rmul (typeIs_int s 1 t) F.entry_int_rmul (F.args_int_rmul_2 _ _) (int_rmul_tuple 1 t l its.toArray n dd sl)
        ⟨ho, rfl, ⟨_, ho, rfl⟩, call_meets F.slot_tuple_mul ⟨_, ho, rfl⟩ F.entry_tuple_mul (F.args_tuple_mul_2 _ _) (tup_mul1 l its.toArray n dd sl t) ⟨ho, ?_⟩⟩)
    exact ⟨.ref l, H, I, rfl, q⟩
  · refine wpAny_binaryOp_repeat_ref (T := "tuple") (U := "int") (by decide) ⟨_, ho, rfl⟩ (fun s' => typeIs_int s' 0 t) noFill_tuple_mul F.fills_int_mul F.slot_int_rmul repeat_tuple F.slot_int_index.lookup
      (call_meets F.slot_int_rmul (typeIs_int s 0 t) F.entry_int_rmul (F.args_int_rmul_2 _ _) (int_rmul_tuple 0 t l its.toArray n dd sl)
        ⟨ho, rfl, ⟨_, ho, rfl⟩, call_meets F.slot_tuple_mul ⟨_, ho, rfl⟩ F.entry_tuple_mul (F.args_tuple_mul_2 _ _) (tup_mul0 l its.toArray n dd sl t hi) ⟨ho, ?_⟩⟩)
    refine ⟨.ref s.heap.objs.size, _, I.laid (t' := s.toks) (o := .tup []) (fun b ob q => Heap.get?_push_of_some _ q) (Nat.le_refl _) ?_, rfl, q _ (I.hok.fresh (Nat.le_refl _))⟩
    exact ⟨by rw [sizeLine_eq]; decide, [], .nil, IsTup.new _ _⟩
/-- a tuple times 0 or 1 -/
def mulTL : Op2
  | .tup (x :: xs), .int k, S => if k = 1 then .ok (.tup (x :: xs)) S else if k = 0 then .ok (.tup []) S else .no
  | _, _, _ => .no
theorem ol_mulT {K : PySem.W.Frag} {T : Env1} : OpL K T (rRep01 K) mulTL := fun m S H v w x y Q W r rv rw h => by
  unfold mulTL at h
  split at h
  · rename_i u us k
    have rv0 := rv
    obtain ⟨a, vs, rfl, ht, hs⟩ := rv.tupE
    refine ⟨a, k, vs, rfl, rw, SqT.of ht, fun e => ?_, ?_⟩
    · rw [e] at hs
      have := hs.len
      simp at this
    · split at h
      · rename_i e
        exact .inl ⟨e, h.here r rv0⟩
      · split at h
        · rename_i e
          exact .inr ⟨e, fin_tup r RVs.nil h⟩
        · exact h.elim
  · exact h.elim
section
variable {X : Cx} {T : Env1} {ξ : Xi} {W : WX} {a b : Expr} {fa fb : LE} {pos : Pos}
theorem pl_mulT (ha : PE X a (tL X.K T ξ W fa)) (hb : PE X b (tL X.K T ξ W fb)) : PE X (.BinOp a .Mult b pos) (tL X.K T ξ W (lOp mulTL fa fb)) := pl_bin op_rep01 ol_mulT ha hb
end
/-! ### isinstance(e, (C, D, ..)) -/
def rIsET (K : PySem.W.Frag) (D a : Addr) : List V → Hp → VK → Prop := fun xs H Q => ∃ (tp : Addr) (cs : List V) (us : List Value) (b : Bool), xs = [.ref a, .ref tp] ∧ H tp = some (.tup cs) ∧ Paired ClsV cs us ∧ PySem.W.kitAny K (.ref D) us = some b ∧ Q (.bl b) H
theorem call_isET {X : Cx} {a D : Addr} {oe : Obj} {pn : List (Addr × Obj)} (C : ExcC X.K D) (hz : Zc (.ref D) none oe) (hf : ∃ vs, oe.data = .fields vs) : CallR (X.suite a ((a, oe) :: pn)) (.builtin "isinstance") (rIsET X.K D a) := by
  intro pins s σ H xs us Q I r h
  obtain ⟨tp, cs, ws, b, rfl, hT, k, e, q⟩ := h
  obtain ⟨u1, u2, rfl, r1, r2⟩ := vals2 r
  cases (show u1 = Value.ref a from r1)
  cases (show u2 = Value.ref tp from r2)
  obtain ⟨_, its, rv, o, h1, h2, n, h3⟩ := (show ObjOk X.prog X.w H s.heap tp (.tup cs) from I.hok tp _ hT)
  have e3 := ClsV.all k rv
  subst e3
  obtain ⟨oc, od, dt, sl⟩ := o
  simp only at h2 h3
  subst h2 h3
  obtain ⟨hget, _⟩ := I.pin (a, oe) (List.mem_append.mpr (.inl List.mem_cons_self))
  obtain ⟨vs, hv⟩ := hf
  have J : PySem.W.InstAt s.heap a oe D none := by
    obtain ⟨oc, od, oda, osl⟩ := oe
    obtain ⟨h1, h2⟩ := hz
    dsimp only at h1 h2 hv
    subst h1 h2 hv
    exact ⟨hget, rfl, rfl, trivial⟩
  exact PySem.W.kia_tup (PySem.W.handS_kitx_exc C.hg C.hk C.hs C.hd C.ha C.hn C.ht C.hm) I.kIn J h1 e (fun z => nomatch z) fun tk => ⟨.bl b, H, I.kept (t' := tk) fun _ _ z => z, rfl, q⟩
section
variable {X : Cx} {T : Env1} {W : WX} {i : Nat} {pos : Pos}
theorem pl_isET {a : Addr} {oe : Obj} {cls : Value} {d : Option Addr} {pn : List (Addr × Obj)} {f : Nat → Option Bool} {y : Str} {es : List Expr} {x1} {cs : List V} {us : List Value} {ta : TA} {p pe ptp : Pos} (hX : XIs X) (hz : L2N.Zn cls d oe) (hv : ∃ vs, oe.data = .fields vs)
    (hC : PA (X.suite a ((a, oe) :: pn)) es ta) (hcs : ∀ σ H (Q : List V → Hp → Prop), Q cs H → ta σ H Q) (hu : Paired ClsV cs us) (hl : cs.length ≤ 1000)
    (hf : ∀ c b, f c = some b → ExcC X.K (T.ca c) ∧ PySem.W.kitAny X.K (.ref (T.ca c)) us = some b)
    (hg : Gl X "isinstance") (hm : X.mg "isinstance" = none) (hN : X.N[i]? = some y := by rfl) (hvv : Vis X.env.scope y := by first | exact Or.inl rfl | exact Or.inr (Or.inl rfl) | exact Or.inr (Or.inr rfl)) (hd : (y == ("__debug__" : Str)) = false := by decide)
    (hcd : (y == ("__classdict__" : Str)) = false := by decide)
    (he : starEach (.Name y pe :: [.Tuple es x1 ptp]) X.env = (false, eval (.Name y pe) X.env) :: starEach [.Tuple es x1 ptp] X.env := by rfl) (hpl : (backTo pos (starEach [.Tuple es x1 ptp] X.env)).any (·.1) = false := by rfl) (hst : starEach (.Tuple es x1 ptp :: []) X.env = (false, eval (.Tuple es x1 ptp) X.env) :: starEach [] X.env := by rfl) :
    PE (X.suite a ((a, oe) :: pn)) (.Call (.Name "isinstance" p) [.Name y pe, .Tuple es x1 ptp] [] pos) (tL X.K T (ξE T a cls d) W (lIsE i f)) := by
  refine ⟨fun pins s σ H Q I h => ?_⟩
  obtain ⟨m, S, ds, r, rs, h⟩ := h
  unfold lIsE at h
  split at h
  · rename_i c fs hi
    split at h
    · rename_i b hb
      obtain ⟨xx, h1, h2⟩ := rs.at_ i _ hi
      obtain ⟨a', rfl, ea, ec, ef, ed⟩ := h2
      subst ea ec ed
      obtain ⟨C0, k0⟩ := hf c b hb
      refine (pe_callB (X := X.suite a' ((a', oe) :: pn)) (call_isET (X := X) (a := a') (D := T.ca c) (oe := oe) (pn := pn) C0 hz.zc hv) hg hm (by decide +kernel) (pa_cons (pe_var (i := i) hN hvv hd hcd) (pa_cons (pe_tup hC) pa_nil hst) he) (by decide) (by decide) he hpl).run pins s σ H Q I ?_
      refine ⟨_, h1, hcs _ _ _ ⟨by rw [sizeLine_eq]; omega, fun tp hp => ?_⟩⟩
      have E : Ext m H m (upd H tp (.tup cs)) := Ext.side hp
      exact ⟨tp, cs, us, b, rfl, upd_same, hu, k0, h _ _ _ E (r.side hp) rfl⟩
    · exact h.elim
  · exact h.elim
end
section
variable {k : Int} {x : LV} {xs : List LV} {S : Sto}
@[simp] theorem mulT_1 : mulTL (.tup (x :: xs)) (.int 1) S = .ok (.tup (x :: xs)) S := (rfl)
@[simp] theorem mulT_0 : mulTL (.tup (x :: xs)) (.int 0) S = .ok (.tup []) S := (rfl)
end
end LL


set_option Elab.async false
set_option linter.all false
set_option maxRecDepth 100000
set_option maxHeartbeats 2000000
/-! The logical layer: texts by their colons, names, paths. -/
namespace LL
open PySem PySem.Spec PyProof.Rows L2

/-- the parts of a text between its colons -/
def sp : List Nat → List (List Nat)
  | [] => [[]]
  | c :: r => if c = 58 then [] :: sp r else match sp r with
    | h :: t => (c :: h) :: t
    | [] => [[c]]
theorem sp_col (r : List Nat) : sp (58 :: r) = [] :: sp r := by
  show (if (58 : Nat) = 58 then [] :: sp r else _) = _
  exact if_pos rfl
theorem sp_oth {c : Nat} (r : List Nat) (h : c ≠ 58) : sp (c :: r) = match sp r with | h :: t => (c :: h) :: t | [] => [[c]] := by
  show (if c = 58 then [] :: sp r else match sp r with | h :: t => (c :: h) :: t | [] => [[c]]) = _
  exact if_neg h
theorem sp_ne : ∀ a : List Nat, sp a ≠ []
  | [] => by simp [sp]
  | c :: r => by
    unfold sp
    split
    · simp
    · split <;> simp
theorem spl_sp : ∀ (a acc : List Nat), TL.spl [58] 0 acc a = match sp a with | h :: t => (acc ++ h) :: t | [] => [acc]
  | [], acc => by rw [TL.spl_nil]; simp [sp]
  | c :: r, acc => by
    by_cases h : c = 58
    · subst h
      rw [TL.spl_hit (by rfl)]
      show acc :: TL.spl [58] 0 [] r = _
      rw [spl_sp r [], sp_col]
      cases e : sp r with
      | nil => exact absurd e (sp_ne r)
      | cons x t => simp
    · rw [TL.spl_miss (by
        unfold TL.pre
        simp
        exact h), spl_sp r, sp_oth r h]
      cases e : sp r with
      | nil => exact absurd e (sp_ne r)
      | cons x t => simp
abbrev colT : Str := (":" : Str)
theorem split_sp (z : Str) : (Txt.split z colT).map tl = sp (tl z) := by
  have h : (Txt.split z colT).map TL.tl = TL.spl (TL.tl colT) 0 [] (TL.tl z) := TL.split_spl z colT (by decide) (TL.kind_ok (by decide +kernel))
  have h2 : (Txt.split z colT).map tl = TL.spl [58] 0 [] (tl z) := h
  rw [h2, spl_sp]
  cases e : sp (tl z) with
  | nil => exact absurd e (sp_ne _)
  | cons x t => rfl
theorem split_len (z : Str) : (Txt.split z colT).length = (sp (tl z)).length := by rw [← split_sp, List.length_map]
theorem join_col (ys : List Str) : tl (Txt.join colT ys) = TL.joinL [58] (ys.map tl) := by
  rw [TL.join_eq]
  exact TL.tl_join colT ys
theorem join_sp : ∀ a : List Nat, TL.joinL [58] (sp a) = a
  | [] => rfl
  | c :: r => by
    have ih := join_sp r
    by_cases h : c = 58
    · subst h
      rw [sp_col]
      cases e : sp r with
      | nil => exact absurd e (sp_ne r)
      | cons x t =>
        rw [e] at ih
        show [] ++ ([58] ++ TL.joinL [58] (x :: t)) = _
        rw [ih]; rfl
    · rw [sp_oth r h]
      cases e : sp r with
      | nil => exact absurd e (sp_ne r)
      | cons x t =>
        rw [e] at ih
        cases t with
        | nil => show c :: x = _; rw [← ih]; rfl
        | cons y t =>
          show (c :: x) ++ ([58] ++ TL.joinL [58] (y :: t)) = _
          rw [← ih]; rfl
theorem sp_join {ps : List (List Nat)} (h : ps ≠ []) (hp : ∀ p ∈ ps, 58 ∉ p) : sp (TL.joinL [58] ps) = ps := by
  have e := TL.spl_join (S := []) h hp
  rw [spl_sp] at e
  cases q : sp (TL.joinL [58] ps) with
  | nil => exact absurd q (sp_ne _)
  | cons x t => rw [q] at e; exact e
/-- what a name is -/
def nameOk (a : List Nat) : Bool := decide ((a.length : Int) ≤ 12) && a.all (fun c => decide (c ∈ tl abcT)) && !(a == [])
def nameV : LV → Bool
  | .str z => nameOk (tl z)
  | _ => false
def pathOk (a : List Nat) : Bool := decide ((sp a).length ≤ 6) && (sp a).all nameOk
theorem abc_iff (c : Nat) : c ∈ tl abcT ↔ 97 ≤ c ∧ c ≤ 122 := by
  rw [show tl abcT = [97, 98, 99, 100, 101, 102, 103, 104, 105, 106, 107, 108, 109, 110, 111, 112, 113, 114, 115, 116, 117, 118, 119, 120, 121, 122] by decide]
  simp
  omega
theorem nameOk_free {a : List Nat} (h : nameOk a = true) : 58 ∉ a := fun m => by
  unfold nameOk at h
  simp only [Bool.and_eq_true] at h
  have := (abc_iff 58).mp (of_decide_eq_true (List.all_eq_true.mp h.1.2 58 m))
  omega
/-- a list's own loop, where each turn leaves the store -/
theorem for_fixAux (lg : LG) (fb : LS) (G : Sl → Prop) (n : Nat) (xs : List LV) (S : Sto) (hn : S[n]? = some (.lst xs))
    (h : ∀ v ∈ xs, ∀ ds ds1, G ds → lg v S ds = some ds1 → match fb ds1 S with | .nx ds2 S2 => S2 = S ∧ G ds2 | .ct ds2 S2 => S2 = S ∧ G ds2 | _ => True) :
    ∀ (k i : Nat) (ds : Sl), i + k = xs.length → G ds → forK (itRef n xs.length) lg fb k i ds S = forL lg fb (xs.drop i) ds S
  | 0, i, ds, e, g => by
    have : xs.drop i = [] := List.drop_eq_nil_of_le (by omega)
    rw [this]
    unfold forK forL
    show (if refF n xs.length S = true then _ else _) = _
    unfold refF
    rw [hn]
    simp
  | k + 1, i, ds, e, g => by
    have hi : i < xs.length := by omega
    rw [List.drop_eq_getElem_cons hi]
    have e1 : xs[i]? = some xs[i] := List.getElem?_eq_getElem hi
    unfold forK forL
    have e2 : (itRef n xs.length).item i S = some xs[i] := by
      show refI n xs.length i S = _
      unfold refI
      rw [hn]
      simp [e1]
    rw [e2]
    simp only
    cases hl : lg xs[i] S ds with
    | none => rfl
    | some ds1 =>
      simp only
      have q := h xs[i] (List.getElem_mem hi) ds ds1 g hl
      cases h2 : fb ds1 S with
      | nx ds2 S2 => rw [h2] at q; obtain ⟨rfl, g2⟩ := q; exact for_fixAux lg fb G n xs S2 hn h k (i + 1) ds2 (by omega) g2
      | ct ds2 S2 => rw [h2] at q; obtain ⟨rfl, g2⟩ := q; exact for_fixAux lg fb G n xs S2 hn h k (i + 1) ds2 (by omega) g2
      | _ => rfl
theorem forS_fix {lg : LG} {fb : LS} {n : Nat} {xs : List LV} {S : Sto} {ds : Sl} (G : Sl → Prop) (hn : S[n]? = some (.lst xs))
    (h : ∀ v ∈ xs, ∀ ds ds1, G ds → lg v S ds = some ds1 → match fb ds1 S with | .nx ds2 S2 => S2 = S ∧ G ds2 | .ct ds2 S2 => S2 = S ∧ G ds2 | _ => True) (g : G ds) :
    forS lg fb ds (.ok (itRef n xs.length) S) = forL lg fb xs ds S := by
  show forK (itRef n xs.length) lg fb xs.length 0 ds S = _
  rw [for_fixAux lg fb G n xs S hn h _ _ _ (by omega) g, List.drop_zero]
theorem iter_ref {n : Nat} {xs : List LV} {S : Sto} (hn : S[n]? = some (.lst xs)) : iterO (.ref n) S = .ok (itRef n xs.length) S := by simp [iterO, hn]
theorem len_ref {n : Nat} {xs : List LV} {S : Sto} (hn : S[n]? = some (.lst xs)) : lenL [.ref n] S = .ok (.int xs.length) S := by simp [lenL, lenO, hn]
/-- a value that may be asked as a name -/
structure Nv (S : Sto) (v : LV) : Prop where
  ok : Okv S v
  sz : ∀ z, v = .str z → z.length ≤ 16777216
theorem Nv.nx {S : Sto} {v : LV} (h : Nv S v) : isX v = false := h.ok.nx
theorem Nv.str {S : Sto} {z : Str} (h : z.length ≤ 16777216) : Nv S (.str z) := ⟨Okv.str z, fun y e => by cases e; exact h⟩
theorem starts_pre {x y : Str} (hy : tl y ≠ []) : Txt.startswith x y = ((tl x).take (tl y).length == tl y) := by
  have h := TL.at_iff (x := x) (y := y) hy 0
  have hl : TL.tl x = tl x := rfl
  have hl2 : TL.tl y = tl y := rfl
  rw [hl, hl2, List.drop_zero] at h
  cases c : ((tl x).take (tl y).length == tl y) with
  | true =>
    obtain ⟨h1, h2⟩ := h.mpr c
    unfold Txt.startswith
    rw [decide_eq_true h1, h2]; rfl
  | false =>
    cases q : Txt.startswith x y with
    | false => rfl
    | true =>
      unfold Txt.startswith at q
      rw [Bool.and_eq_true] at q
      have := h.mp ⟨of_decide_eq_true q.1, q.2⟩
      have c' : TL.pre (tl y) (tl x) = false := c
      rw [c'] at this
      cases this
theorem sum_le : ∀ (ys : List Str) (m : Nat), (∀ y ∈ ys, y.length ≤ m) → (ys.map (·.length)).sum ≤ ys.length * m
  | [], m, _ => by simp
  | y :: ys, m, h => by
    have := sum_le ys m fun z hz => h z (List.mem_cons_of_mem _ hz)
    have hy := h y (List.mem_cons_self ..)
    rw [List.map_cons, List.sum_cons, List.length_cons, Nat.add_mul]
    omega
theorem get_more {S U : Sto} {n : Nat} {o : LO} (h : S[n]? = some o) : (S ++ U)[n]? = some o := by
  rw [List.getElem?_append_left (List.getElem?_eq_some_iff.mp h).1]; exact h
theorem cut_take {α : Type} (xs : List α) {j : Int} (h : 0 ≤ j) : cutL xs none (some j) = xs.take j.toNat := by
  unfold cutL
  show (xs.drop 0).take ((if j < 0 then (j + (xs.length : Int)).toNat else min j.toNat xs.length) - 0) = _
  rw [if_neg (by omega), List.drop_zero, Nat.sub_zero, ← List.take_take, List.take_length]
theorem sl_ref {t : Bool} {S : Sto} {n : Nat} {xs : List LV} {lo hi : Option Int} (h : S[n]? = some (.lst xs)) : slG t (.ref n) lo hi S = newL t (cutL xs lo hi) S := sl_ls (ls_r h)
theorem items_ls {v : LV} {S : Sto} {xs : List LV} (h : lsO v S = some xs) : itemsO v S = some xs := by
  unfold itemsO
  split
  · cases h
  · cases h
  · cases h
  · exact h
/-- texts joined by colons -/
theorem joinC {v : LV} {S : Sto} {ys : List Str} {m : Nat} (hn : lsO v S = some (ys.map .str)) (h : ∀ y ∈ ys, y.length ≤ m) (hs : ys.length * m + ys.length ≤ 16777216) : joinL2 (.str colT) [v] S = .ok (.str (Txt.join colT ys)) S := by
  have := sum_le ys m h
  have c1 : colT.length = 1 := rfl
  simp only [joinL2, items_ls hn, strsL_map, c1]
  rw [if_pos (decide_eq_true (by omega))]
/-- the signs of a text between its colons are its own -/
theorem sp_all (p : Nat → Bool) : ∀ a : List Nat, (sp a).all (fun x => x.all p) = a.all (fun c => c == 58 || p c)
  | [] => rfl
  | c :: r => by
    by_cases h : c = 58
    · subst h
      rw [sp_col, List.all_cons, List.all_cons, sp_all p r]
      simp
    · rw [sp_oth r h, List.all_cons, ← sp_all p r, beq_false_of_ne h, Bool.false_or]
      cases e : sp r with
      | nil => exact absurd e (sp_ne r)
      | cons x t => simp [Bool.and_assoc]
end LL


set_option Elab.async false
set_option linter.all false
set_option maxRecDepth 100000
set_option maxHeartbeats 2000000
/-! The logical layer: values compared as data. -/
namespace LL
open PySem PySem.Spec PyProof.Rows L2
/-- a value that is compared as data, of so much depth -/
def fz : Nat → LV → Bool
  | _, .non => true
  | _, .bl _ => true
  | _, .int _ => true
  | _, .str z => PyData.strOk z
  | f + 1, .tup xs => xs.all (fz f)
  | f + 1, .lst xs => xs.all (fz f)
  | _, _ => false
mutual
def veq : LV → LV → Bool
  | .non, .non => true
  | .bl a, .bl b => a == b
  | .bl a, .int j => (if a = true then 1 else 0) == j
  | .int i, .bl b => i == (if b = true then 1 else 0)
  | .int i, .int j => i == j
  | .str x, .str y => tl x == tl y
  | .tup xs, .tup ys => veqs xs ys
  | .lst xs, .lst ys => veqs xs ys
  | _, _ => false
def veqs : List LV → List LV → Bool
  | [], [] => true
  | x :: xs, y :: ys => veq x y && veqs xs ys
  | _, _ => false
end
mutual
def pd : LV → PyData
  | .bl b => .bool b
  | .int i => .int i
  | .str z => .str z
  | .tup xs => .tuple (pds xs)
  | .lst xs => .list (pds xs)
  | _ => .none
def pds : List LV → List PyData
  | [] => []
  | x :: xs => pd x :: pds xs
end
theorem all_cons {f : LV → Bool} {x : LV} {xs : List LV} (h : (x :: xs).all f = true) : f x = true ∧ xs.all f = true := by
  rw [List.all_cons, Bool.and_eq_true] at h
  exact h
theorem dat_pds {S : Sto} {f : Nat} (ih : ∀ v, fz f v = true → dat S f v = some (pd v)) : ∀ xs : List LV, xs.all (fz f) = true → seqO (xs.map (dat S f)) = some (pds xs)
  | [], _ => rfl
  | x :: xs, h => by
    obtain ⟨h1, h2⟩ := all_cons h
    rw [List.map_cons, ih x h1]
    unfold seqO
    rw [dat_pds ih xs h2]
    rfl
theorem dat_pd {S : Sto} : ∀ (f : Nat) (v : LV), fz f v = true → dat S f v = some (pd v) := by
  intro f
  induction f with
  | zero => intro v h; cases v <;> first | rfl | cases h
  | succ f ih =>
    intro v h
    cases v with
    | tup xs => unfold dat; rw [dat_pds ih xs h]; rfl
    | lst xs => unfold dat; rw [dat_pds ih xs h]; rfl
    | _ => first | rfl | cases h
theorem lay_pds {f : Nat} (ih : ∀ v, fz f v = true → PyData.canLay0 (pd v) = true ∧ PyData.depth (pd v) ≤ f) : ∀ xs : List LV, xs.all (fz f) = true → PyData.canLayAll0 (pds xs) = true ∧ PyData.depthAll (pds xs) ≤ f
  | [], _ => ⟨rfl, Nat.zero_le _⟩
  | x :: xs, h => by
    obtain ⟨h1, h2⟩ := all_cons h
    obtain ⟨a1, a2⟩ := ih x h1
    obtain ⟨b1, b2⟩ := lay_pds ih xs h2
    unfold pds PyData.canLayAll0 PyData.depthAll
    rw [a1, b1]
    exact ⟨rfl, by omega⟩
theorem lay_pd : ∀ (f : Nat) (v : LV), fz f v = true → PyData.canLay0 (pd v) = true ∧ PyData.depth (pd v) ≤ f := by
  intro f
  induction f with
  | zero =>
    intro v h
    cases v with
    | str z => exact ⟨h, Nat.le_refl _⟩
    | non => exact ⟨rfl, Nat.zero_le _⟩
    | bl b => exact ⟨rfl, Nat.zero_le _⟩
    | int b => exact ⟨rfl, Nat.zero_le _⟩
    | _ => cases h
  | succ f ih =>
    intro v h
    cases v with
    | str z => exact ⟨h, Nat.zero_le _⟩
    | non => exact ⟨rfl, Nat.zero_le _⟩
    | bl b => exact ⟨rfl, Nat.zero_le _⟩
    | int b => exact ⟨rfl, Nat.zero_le _⟩
    | tup xs =>
      obtain ⟨a, b⟩ := lay_pds ih xs h
      unfold pd PyData.canLay0 PyData.depth
      exact ⟨a, by omega⟩
    | lst xs =>
      obtain ⟨a, b⟩ := lay_pds ih xs h
      unfold pd PyData.canLay0 PyData.depth
      exact ⟨a, by omega⟩
    | _ => cases h
theorem sbeq (y z : Str) : (y == z) = (tl y == tl z) := by
  by_cases h : y = z
  · subst h; rw [beq_self_eq_true, beq_self_eq_true]
  · rw [beq_false_of_ne h, beq_false_of_ne fun k => h (tl_ext k)]
theorem eqv_pds {f : Nat} (ih : ∀ v w g, fz f v = true → fz g w = true → PyData.eqv (pd v) (pd w) = veq v w) : ∀ (xs ys : List LV) (g : Nat), xs.all (fz f) = true → ys.all (fz g) = true → PyData.eqvAll (pds xs) (pds ys) = veqs xs ys
  | [], [], _, _, _ => rfl
  | [], _ :: _, _, _, _ => rfl
  | _ :: _, [], _, _, _ => rfl
  | x :: xs, y :: ys, g, h, k => by
    obtain ⟨h1, h2⟩ := all_cons h
    obtain ⟨k1, k2⟩ := all_cons k
    unfold pds PyData.eqvAll veqs
    rw [ih x y g h1 k1, eqv_pds ih xs ys g h2 k2]
theorem eqv_pd : ∀ (f : Nat) (v w : LV) (g : Nat), fz f v = true → fz g w = true → PyData.eqv (pd v) (pd w) = veq v w := by
  intro f
  induction f with
  | zero =>
    intro v w g h k
    cases v <;> first
      | (cases h; done)
      | (cases w <;> first | (cases g <;> cases k <;> done) | (unfold pd PyData.eqv veq; first | rfl | exact sbeq _ _))
  | succ f ih =>
    intro v w g h k
    cases v with
    | tup xs =>
      cases w with
      | tup ys =>
        cases g with
        | zero => cases k
        | succ g => unfold pd PyData.eqv veq; exact eqv_pds ih xs ys g h k
      | _ => first | (cases g <;> cases k <;> done) | (unfold pd PyData.eqv veq; rfl)
    | lst xs =>
      cases w with
      | lst ys =>
        cases g with
        | zero => cases k
        | succ g => unfold pd PyData.eqv veq; exact eqv_pds ih xs ys g h k
      | _ => first | (cases g <;> cases k <;> done) | (unfold pd PyData.eqv veq; rfl)
    | _ => first
      | (cases h; done)
      | (cases w <;> first | (cases g <;> cases k <;> done) | (unfold pd PyData.eqv veq; first | rfl | exact sbeq _ _))
theorem eqS_veq {v w : LV} {b : Bool} (h : eqS v w = some b) : b = veq v w := by
  unfold eqS at h
  split at h <;> first
    | (cases h; unfold veq; rfl)
    | (cases h; unfold veq; exact (tl_beq _ _))
    | (cases h; unfold veq; rename_i i j; cases i <;> cases j <;> rfl)
    | cases h
theorem shaped_fz {v : LV} (h : fz 60 v = true) : SeqAt.shaped (pd v) = true := by
  obtain ⟨a, b⟩ := lay_pd 60 v h
  unfold SeqAt.shaped
  rw [a, Bool.true_and, decide_eq_true (by omega)]
theorem eqV_fz {v w : LV} {S : Sto} (hv : fz 60 v = true) (hw : fz 60 w = true) : eqV2 v w S = some (veq v w) := by
  unfold eqV2
  cases e : eqS v w with
  | some b => rw [eqS_veq e]
  | none =>
    simp only
    rw [dat_pd 60 v hv, dat_pd 60 w hw]
    simp only
    rw [shaped_fz hv, shaped_fz hw, ← eqv_pd 60 v w 60 hv hw]
    rfl
theorem eq_fz {v w : LV} {S : Sto} (hv : fz 60 v = true) (hw : fz 60 w = true) : eqL v w S = .ok (.bl (veq v w)) S := by
  unfold eqL; rw [eqV_fz hv hw]
theorem ne_fz {v w : LV} {S : Sto} (hv : fz 60 v = true) (hw : fz 60 w = true) : neL v w S = .ok (.bl !(veq v w)) S := by
  unfold neL; rw [eqV_fz hv hw]
theorem veqs_refl {f : Nat} (ih : ∀ v, fz f v = true → veq v v = true) : ∀ xs : List LV, xs.all (fz f) = true → veqs xs xs = true
  | [], _ => by unfold veqs; rfl
  | x :: xs, h => by
    obtain ⟨h1, h2⟩ := all_cons h
    unfold veqs
    rw [ih x h1, veqs_refl ih xs h2]; rfl
theorem veq_refl : ∀ (f : Nat) (v : LV), fz f v = true → veq v v = true := by
  intro f
  induction f with
  | zero => intro v h; cases v <;> first | (cases h; done) | (unfold veq; simp)
  | succ f ih =>
    intro v h
    cases v with
    | tup xs => unfold veq; exact veqs_refl ih xs h
    | lst xs => unfold veq; exact veqs_refl ih xs h
    | _ => first | (cases h; done) | (unfold veq; simp)
theorem eq_same {v : LV} {S : Sto} (hv : fz 60 v = true) : eqL v v S = .ok (.bl true) S := by rw [eq_fz hv hv, veq_refl 60 v hv]
theorem ne_same {v : LV} {S : Sto} (hv : fz 60 v = true) : neL v v S = .ok (.bl false) S := by rw [ne_fz hv hv, veq_refl 60 v hv]; rfl
/-- a list with a number, compared -/
theorem eqV_ref {S : Sto} {n : Nat} {xs : List LV} {w : LV} (h : S[n]? = some (.lst xs)) : eqV2 (.ref n) w S = eqV2 (.lst xs) w S ∧ eqV2 w (.ref n) S = eqV2 w (.lst xs) S := by
  have d : dat S 60 (.ref n) = dat S 60 (.lst xs) := by
    show (match S[n]? with | some (.lst xs) => _ | _ => none) = _
    rw [h]; rfl
  unfold eqV2
  constructor
  · rw [show eqS (.ref n) w = none by cases w <;> rfl, show eqS (.lst xs) w = none by cases w <;> rfl, d]
  · rw [show eqS w (.ref n) = none by cases w <;> rfl, show eqS w (.lst xs) = none by cases w <;> rfl, d]
theorem eq_refL {S : Sto} {n : Nat} {xs : List LV} {w : LV} (h : S[n]? = some (.lst xs)) : eqL (.ref n) w S = eqL (.lst xs) w S := by unfold eqL; rw [(eqV_ref h).1]
theorem eq_refR {S : Sto} {n : Nat} {xs : List LV} {w : LV} (h : S[n]? = some (.lst xs)) : eqL w (.ref n) S = eqL w (.lst xs) S := by unfold eqL; rw [(eqV_ref h).2]
theorem ne_refL {S : Sto} {n : Nat} {xs : List LV} {w : LV} (h : S[n]? = some (.lst xs)) : neL (.ref n) w S = neL (.lst xs) w S := by unfold neL; rw [(eqV_ref h).1]
theorem ne_refR {S : Sto} {n : Nat} {xs : List LV} {w : LV} (h : S[n]? = some (.lst xs)) : neL w (.ref n) S = neL w (.lst xs) S := by unfold neL; rw [(eqV_ref h).2]
section
variable {f : Nat} {i j : Int} {y z : Str} {b c : Bool} {xs ys : List LV} {v w : LV}
@[simp] theorem fz_non : fz f .non = true := by cases f <;> rfl
@[simp] theorem fz_bl : fz f (.bl b) = true := by cases f <;> rfl
@[simp] theorem fz_int : fz f (.int i) = true := by cases f <;> rfl
@[simp] theorem fz_str : fz f (.str z) = PyData.strOk z := by cases f <;> rfl
@[simp] theorem fz_tup : fz (f + 1) (.tup xs) = xs.all (fz f) := (rfl)
@[simp] theorem fz_lst : fz (f + 1) (.lst xs) = xs.all (fz f) := (rfl)
theorem fz_tup' {n : Nat} : fz n (.tup xs) = (decide (0 < n) && xs.all (fz (n - 1))) := by cases n <;> rfl
theorem fz_lst' {n : Nat} : fz n (.lst xs) = (decide (0 < n) && xs.all (fz (n - 1))) := by cases n <;> rfl
@[simp] theorem veq_ii : veq (.int i) (.int j) = (i == j) := (rfl)
@[simp] theorem veq_ss : veq (.str y) (.str z) = (tl y == tl z) := (rfl)
@[simp] theorem veq_bb : veq (.bl b) (.bl c) = (b == c) := (rfl)
@[simp] theorem veq_nn : veq .non .non = true := (rfl)
@[simp] theorem veq_tt : veq (.tup xs) (.tup ys) = veqs xs ys := (rfl)
@[simp] theorem veq_ll : veq (.lst xs) (.lst ys) = veqs xs ys := (rfl)
@[simp] theorem veqs_nil : veqs [] [] = true := (rfl)
@[simp] theorem veqs_cons : veqs (v :: xs) (w :: ys) = (veq v w && veqs xs ys) := (rfl)
@[simp] theorem veqs_nc : veqs [] (w :: ys) = false := (rfl)
@[simp] theorem veqs_cn : veqs (v :: xs) [] = false := (rfl)
theorem veqs_map {α : Type} [DecidableEq α] {e : α → LV} (h : ∀ a b, veq (e a) (e b) = decide (a = b)) : ∀ as bs : List α, veqs (as.map e) (bs.map e) = decide (as = bs)
  | [], [] => rfl
  | [], _ :: _ => rfl
  | _ :: _, [] => rfl
  | a :: as, b :: bs => by
    rw [List.map_cons, List.map_cons, veqs_cons, h, veqs_map h as bs]
    by_cases e1 : a = b
    · subst e1
      by_cases e2 : as = bs
      · subst e2; simp
      · simp [e2]
    · simp [e1]
theorem fz_strOk {n : Nat} {z : Str} (h : Fine n z) : PyData.strOk z = true := h.ok
end
end LL


set_option Elab.async false
set_option linter.all false
set_option maxRecDepth 100000
set_option maxHeartbeats 2000000
/-! The logical layer: own classes: fields, methods, C(..). -/
namespace LL
open PySem PySem.Spec PyProof.Rows L2
/-! ### names in a row -/
def idxF : List Str → Str → Option Nat
  | [], _ => none
  | x :: xs, f => if x = f then some 0 else match idxF xs f with
    | some i => some (i + 1)
    | none => none
theorem lookup_idx {f : Str} : ∀ {nm : List Str} {ws : List (Str × V)} {i k : Nat} {v : V}, ws.map (·.1) = nm.take k → idxF nm f = some i → (ws.map (·.2))[i]? = some v → ws.lookup f = some v
  | [], ws, i, k, v, e, h, hv => by cases h
  | n :: nm, [], i, k, v, e, h, hv => by simp at hv
  | n :: nm, (g, x) :: ws, i, 0, v, e, h, hv => by simp at e
  | n :: nm, (g, x) :: ws, i, k + 1, v, e, h, hv => by
    simp only [List.map_cons, List.take_succ_cons, List.cons.injEq] at e
    obtain ⟨rfl, e⟩ := e
    unfold idxF at h
    rw [List.lookup_cons]
    split at h
    · rename_i q
      subst q
      cases h
      simp at hv
      rw [beq_self_eq_true, hv]
    · rename_i q
      rw [beq_false_of_ne (fun z => q z.symm)]
      split at h
      · rename_i j hj
        cases h
        exact lookup_idx e hj (by simpa using hv)
      · cases h
theorem lookup_no {m : Str} : ∀ {nm : List Str} {ws : List (Str × V)} {k : Nat}, ws.map (·.1) = nm.take k → idxF nm m = none → ws.lookup m = none
  | nm, [], k, e, h => rfl
  | [], (g, x) :: ws, k, e, h => by simp at e
  | n :: nm, (g, x) :: ws, 0, e, h => by simp at e
  | n :: nm, (g, x) :: ws, k + 1, e, h => by
    simp only [List.map_cons, List.take_succ_cons, List.cons.injEq] at e
    obtain ⟨rfl, e⟩ := e
    unfold idxF at h
    rw [List.lookup_cons]
    split at h
    · cases h
    · rename_i q
      rw [beq_false_of_ne (fun z => q z.symm)]
      split at h
      · cases h
      · rename_i hj
        exact lookup_no e hj
/-- a field's new value -/
def setAt (i : Nat) (u : α) (vs : List α) : List α := if i < vs.length then vs.set i u else vs ++ [u]
theorem putF_idx {f : Str} {y : V} : ∀ {nm : List Str} {ws : List (Str × V)} {i k : Nat}, ws.map (·.1) = nm.take k → k = ws.length → idxF nm f = some i → i ≤ k → (putF f y ws).map (·.1) = nm.take (setAt i y (ws.map (·.2))).length ∧ (putF f y ws).map (·.2) = setAt i y (ws.map (·.2))
  | [], ws, i, k, e, ek, h, hi => by cases h
  | n :: nm, [], i, k, e, ek, h, hi => by
    simp at ek
    subst ek
    have : i = 0 := by omega
    subst this
    unfold idxF at h
    split at h
    · rename_i q
      subst q
      exact ⟨rfl, rfl⟩
    · split at h
      · cases h
      · cases h
  | n :: nm, (g, x) :: ws, i, 0, e, ek, h, hi => by simp at e
  | n :: nm, (g, x) :: ws, i, k + 1, e, ek, h, hi => by
    simp only [List.map_cons, List.take_succ_cons, List.cons.injEq] at e
    obtain ⟨rfl, e⟩ := e
    simp only [List.length_cons, Nat.add_right_cancel_iff] at ek
    unfold idxF at h
    unfold putF
    split at h
    · rename_i q
      subst q
      cases h
      rw [if_pos rfl]
      unfold setAt
      simp only [List.map_cons, List.length_cons, List.length_map, Nat.zero_lt_succ, if_true, List.set_cons_zero, List.take_succ_cons, List.cons.injEq, true_and, and_true]
      rw [e, ek]
    · rename_i q
      rw [if_neg q]
      split at h
      · rename_i j hj
        cases h
        obtain ⟨h1, h2⟩ := putF_idx (y := y) e ek hj (by omega)
        unfold setAt at h1 h2 ⊢
        simp only [List.map_cons, List.length_cons, List.length_map, Nat.add_lt_add_iff_right] at h1 h2 ⊢
        rw [h1, h2]
        by_cases c : j < ws.length
        · simp [c]
        · simp [c]
      · cases h
theorem rvs_setAt {K : PySem.W.Frag} {m : List Addr} {H : Hp} {vs : List LV} {xs : List V} {v : LV} {x : V} (i : Nat) (h : RVs K m H vs xs) (rv : RV K m H v x) : RVs K m H (setAt i v vs) (setAt i x xs) := by
  unfold setAt
  rw [← h.len]
  split
  · exact h.set i rv
  · exact h.append (RVs.cons rv RVs.nil)
/-! ### o.f -/
def fldO (c i : Nat) (v : LV) (S : Sto) : Option LV := match v with
  | .ref n => match S[n]? with
    | some (.ins d vs) => if d = c then vs[i]? else none
    | _ => none
  | _ => none
def fldL (c i : Nat) : Op1 := fun v S => match fldO c i v S with
  | some u => .ok u S
  | none => .no
def pfO (c i : Nat) (v u : LV) (S : Sto) : Option Sto := match v with
  | .ref n => match S[n]? with
    | some (.ins d vs) => if d = c ∧ i ≤ vs.length ∧ vs.length < 900 then some (S.set n (.ins d (setAt i u vs))) else none
    | _ => none
  | _ => none
def lSfl (c i : Nat) (fv fo : LE) : LS := fun ds S => bindS (fv ds S) ds fun u S1 => bindS (fo ds S1) ds fun v S2 => match pfO c i v u S2 with
  | some S3 => .nx ds S3
  | none => .no
section
variable {X : Cx} {T : Env1} {ξ : Xi} {W : WX} {e o : Expr} {f m : Str} {pos pos' apos p : Pos} {fa fv fo : LE} {ga : LA} {c i k : Nat} {C : Addr} {nm : List Str} {es : List Expr}
theorem pl_fld (hC : T.ca c = C) (hN : T.fl c = nm) (hi : idxF nm f = some i) (cl : Cls X.K C) (na : NoAttr X.K C f) (he : PE X e (tL X.K T ξ W fa)) (hb : attributeBase e f X.env (eval e X.env) = eval e X.env := by rfl) : PE X (.Attribute e f pos) (tL X.K T ξ W (lUn (fldL c i) fa)) :=
  pe_imp (pe_fld he hb) fun σ H Q ⟨m, S, ds, r0, rs, h⟩ => tL.bind r0 rs h fun v S1 m1 H1 x E r1 rs1 rv h1 => by
    unfold fldL at h1
    split at h1
    · rename_i u hu
      unfold fldO at hu
      split at hu
      · split at hu
        · rename_i n d vs hn
          split at hu
          · rename_i q
            subst q
            unfold RV at rv
            obtain ⟨a, rfl, hm⟩ := rv
            obtain ⟨dx, ws, h2, h3, h4⟩ := r1.at hm hn
            obtain ⟨z, hz, rz⟩ := h4.get hu
            rw [hN] at h3
            rw [hC] at h2
            exact ⟨a, C, dx, ws, z, rfl, h2, cl, na, lookup_idx h3 hi hz, h1.here r1 rz⟩
          · cases hu
        · cases hu
      · cases hu
    · exact h1.elim
theorem sl_fld (hC : T.ca c = C) (hN : T.fl c = nm) (hi : idxF nm f = some i) (cl : Cls X.K C) (na : NoAttr X.K C f) (hv : PE X e (tL X.K T ξ W fv)) (ho : PE X o (tL X.K T ξ W fo)) (hs : swapsWith e (some (.Attribute o f pos')) pos.line X.env = pure false := by rfl) :
    PS X (.Assign [.Attribute o f pos'] e pos) (tLS X.K T ξ W (lSfl c i fv fo)) :=
  ps_imp (ps_fld ho hv hs) fun D σ H ⟨m, S, ds, r, rs, h⟩ => tL.bindS r rs h fun u S1 m1 H1 y E r1 rs1 ru h1 => tL.bindS r1 rs1 h1 fun v S2 m2 H2 x E2 r2 rs2 rv h2 => by
    split at h2
    · rename_i S3 hS
      unfold pfO at hS
      split at hS
      · split at hS
        · rename_i n d vs hn
          split at hS
          · rename_i q
            obtain ⟨rfl, q1, q2⟩ := q
            cases hS
            unfold RV at rv
            obtain ⟨a, rfl, hm⟩ := rv
            obtain ⟨dx, ws, w2, w3, w4⟩ := r2.at hm hn
            rw [hN] at w3
            rw [hC] at w2
            have hl : vs.length = ws.length := by rw [w4.len, List.length_map]
            refine ⟨a, C, dx, ws, rfl, w2, cl, na, by omega, ?_⟩
            obtain ⟨p1, p2⟩ := putF_idx (y := y) w3 hl hi q1
            have EW : Ext m2 H2 m2 (upd H2 a (.ins C dx (putF f y ws))) := Ext.write r2 (List.mem_of_getElem? hm) w2
            have rn := rvs_setAt i w4 (ru.mono E2)
            refine h2 m2 _ σ EW (r2.write hm w2 ⟨dx, putF f y ws, by rw [hC]; exact upd_same, ?_, ?_⟩) (rs2.mono EW)
            · rw [hN, p1, rn.len]
            · rw [p2]
              exact rn.mono EW
          · cases hS
        · cases hS
      · cases hS
    · exact h2.elim
/-! ### o.m(..) -/
def clsO (v : LV) (S : Sto) : Option Nat := match v with
  | .ref n => match S[n]? with
    | some (.ins d _) => some d
    | _ => none
  | _ => none
def methK (tab : Nat → Option Fn) (fa : LA) (ds : Sl) : LV → Sto → R := fun v S => match clsO v S with
  | some d => match tab d with
    | some g => (fa ds S).bind fun vs S2 => g (v :: vs) S2
    | none => .no
  | none => .no
def lMeth (tab : Nat → Option Fn) (fo : LE) (fa : LA) : LE := fun ds S => (fo ds S).bind (methK tab fa ds)
def tabA : List (Nat × Fn) → Nat → Option Fn
  | [], _ => none
  | (c, g) :: l, d => if c = d then some g else tabA l d
/-- what is known of a method of a class -/
def MeF (X : Cx) (T : Env1) (m : Str) (c : Nat) (g : Fn) : Prop := ∃ (C f : Addr) (fd : FuncData) (ps nm : List Str) (k : Nat), T.ca c = C ∧ T.fl c = nm ∧ Cls X.K C ∧ Meth X.K C m f ∧ idxF nm m = none ∧ FnOk X.prog X.w X.K X.mg X.base (L2N.CX X.prog X.w) k f fd ps (spF X.K T g) ∧ Room k X.A ∧ Binds X.K fd ps []
def AllM (X : Cx) (T : Env1) (m : Str) : List (Nat × Fn) → Prop
  | [] => True
  | (c, g) :: l => MeF X T m c g ∧ AllM X T m l
theorem tab_all {m : Str} : ∀ {l : List (Nat × Fn)}, AllM X T m l → ∀ c g, tabA l c = some g → MeF X T m c g
  | [], _, c, g, h => by cases h
  | (d, e) :: l, a, c, g, h => by
    unfold tabA at h
    split at h
    · rename_i q
      subst q
      cases h
      exact a.1
    · exact tab_all a.2 c g h
/-- the rule's question -/
def tMethU (X : Cx) (m : Str) (E : L2.St → XK) (ta : TE) (t : TA) : TE := fun σ H Q => ta σ H fun x H1 => ∃ (a C dx f : Addr) (fs : List (Str × V)) (fd : FuncData) (ps : List Str) (k : Nat) (sp : Sp), x = .ref a ∧ H1 a = some (.ins C dx fs) ∧ Cls X.K C ∧ Meth X.K C m f ∧ fs.lookup m = none ∧
  FnOk X.prog X.w X.K X.mg X.base (L2N.CX X.prog X.w) k f fd ps sp ∧ Room k X.A ∧ Binds X.K fd ps [] ∧ t σ H1 fun vs H2 => sp (x :: vs) H2 Q (E σ)
theorem pe_methU {pl : Sem Bool} {E : L2.St → XK} {ta : TE} {t : TA} (he : PE X o ta) (hx : ∀ σ, PassesAt (L2N.CX X.prog X.w) X σ (E σ)) (ha : PA X (e :: es) t)
    (hst : starEach (e :: es) X.env = (false, eval e X.env) :: starEach es X.env := by rfl) (hpl : (backTo pos (starEach es X.env)).any (·.1) = false := by rfl)
    (ht : eval (.Call (.Attribute o m apos) (e :: es) [] pos) X.env = (do
      let ov ← eval o X.env
      standAt apos.atName
      let (f, first) ← holding [ov] (getMethod ov m pl)
      callWith pos f first (backTo pos (starEach (e :: es) X.env)) (backToKw pos (keywordEach [] X.env))) := by rfl) :
    PE X (.Call (.Attribute o m apos) (e :: es) [] pos) (tMethU X m E ta t) := by
  refine ⟨fun pins s σ H Q I h => ?_⟩
  refine PySem.W.methodCall_KW (pl := pl) (thn (he.run pins s σ H _ I h) fun u s1 ⟨x, H1, I1, rx, a, C, dx, f, fs, fd, ps, k, sp, ex, ea, c, hm, l, F, hr, hb, q⟩ => ?_) ht
  subst ex
  obtain rfl : u = Value.ref a := rx
  refine getmeth_ok I1 ea c hm l ?_
  refine PySem.W.callWith_K (first := [.ref a]) (h₀ := X.base) I.ok.mod.kin hm.kp (thn (ha.run pos pins s1 σ H1 _ I1 q) fun us s2 ⟨vs, H2, I2, r, q2⟩ => ⟨I2.kIn, ?_⟩) hst hpl
  exact run_fnS (us := .ref a :: us) (vs := .ref a :: vs) F hr hb (hx σ) I2 (.cons rfl r) q2
theorem pe_methU0 {pl : Sem Bool} {E : L2.St → XK} {ta : TE} (he : PE X o ta) (hx : ∀ σ, PassesAt (L2N.CX X.prog X.w) X σ (E σ))
    (ht : eval (.Call (.Attribute o m apos) [] [] pos) X.env = (do
      let ov ← eval o X.env
      standAt apos.atName
      let (f, first) ← holding [ov] (getMethod ov m pl)
      callWith pos f first (backTo pos (starEach [] X.env)) (backToKw pos (keywordEach [] X.env))) := by rfl) :
    PE X (.Call (.Attribute o m apos) [] [] pos) (tMethU X m E ta tNil) := by
  refine ⟨fun pins s σ H Q I h => ?_⟩
  refine PySem.W.methodCall_KW (pl := pl) (thn (he.run pins s σ H _ I h) fun u s1 ⟨x, H1, I1, rx, a, C, dx, f, fs, fd, ps, k, sp, ex, ea, c, hm, l, F, hr, hb, q⟩ => ?_) ht
  subst ex
  obtain rfl : u = Value.ref a := rx
  refine getmeth_ok I1 ea c hm l ?_
  exact PySem.W.callWith_K0 (first := [.ref a]) I1.kIn hm.kp (run_fnS (us := [.ref a]) (vs := [.ref a]) F hr hb (hx σ) I1 (.cons rfl .nil) q)
theorem meth_read {tab : Nat → Option Fn} {t : TA} (hM : ∀ c g, tab c = some g → MeF X T m c g)
    (ht : ∀ (g : Fn) (σ : L2.St) (m1 : List Addr) (S1 : Sto) (H1 : Hp) (ds : Sl) (v : LV) (x : V) (Q : VK), RelS X.K T m1 S1 H1 → RSl X.K ξ m1 H1 ds σ → RV X.K m1 H1 v x → PoE X.K T m1 H1 ((ga ds S1).bind fun vs S2 => g (v :: vs) S2) Q (fun cls d H' => W cls d σ H') → t σ H1 fun vs H2 => spF X.K T g (x :: vs) H2 Q (WE W σ)) :
    ∀ σ H Q, tL X.K T ξ W (lMeth tab fo ga) σ H Q → tMethU X m (WE W) (tL X.K T ξ W fo) t σ H Q :=
  fun σ H Q ⟨m', S, ds, r0, rs, h⟩ => tL.bind r0 rs h fun v S1 m1 H1 x E r1 rs1 rv h1 => by
    unfold methK at h1
    split at h1
    · rename_i d hd
      split at h1
      · rename_i g hg
        obtain ⟨C, f, fd, ps, nm, k, q1, q2, q3, q4, q5, q6, q7, q8⟩ := hM d g hg
        unfold clsO at hd
        split at hd
        · rename_i n
          split at hd
          · rename_i d' vs' hn
            cases hd
            have rv' := rv
            unfold RV at rv'
            obtain ⟨a, rfl, hm⟩ := rv'
            obtain ⟨dx, ws, w2, w3, w4⟩ := r1.at hm hn
            rw [q2] at w3
            rw [q1] at w2
            exact ⟨a, C, dx, f, ws, fd, ps, k, _, rfl, w2, q3, q4, lookup_no w3 q5, q6, q7, q8, ht g σ m1 S1 H1 ds _ _ Q r1 rs1 rv h1⟩
          · cases hd
        · cases hd
      · exact h1.elim
    · exact h1.elim
theorem pl_meth {pl : Sem Bool} {tab : Nat → Option Fn} (tk : L2N.Takes X W) (hM : ∀ c g, tab c = some g → MeF X T m c g) (ho : PE X o (tL X.K T ξ W fo)) (ha : PA X (e :: es) (tLA X.K T ξ W ga))
    (hst : starEach (e :: es) X.env = (false, eval e X.env) :: starEach es X.env := by rfl) (hpl : (backTo pos (starEach es X.env)).any (·.1) = false := by rfl)
    (ht : eval (.Call (.Attribute o m apos) (e :: es) [] pos) X.env = (do
      let ov ← eval o X.env
      standAt apos.atName
      let (f, first) ← holding [ov] (getMethod ov m pl)
      callWith pos f first (backTo pos (starEach (e :: es) X.env)) (backToKw pos (keywordEach [] X.env))) := by rfl) :
    PE X (.Call (.Attribute o m apos) (e :: es) [] pos) (tL X.K T ξ W (lMeth tab fo ga)) :=
  pe_imp (pe_methU (pl := pl) (E := WE W) ho (fun σ => L2N.passAt tk σ) ha hst hpl ht) (meth_read hM fun g σ m1 S1 H1 ds v x Q r1 rs1 rv h1 => tLA.bind r1 rs1 h1 fun vs S2 m2 H2 xs E r2 rs2 rvs h2 => ⟨m2, S2, v :: vs, r2, RVs.cons (rv.mono E) rvs, h2⟩)
theorem pl_meth0 {pl : Sem Bool} {tab : Nat → Option Fn} (tk : L2N.Takes X W) (hM : ∀ c g, tab c = some g → MeF X T m c g) (ho : PE X o (tL X.K T ξ W fo))
    (ht : eval (.Call (.Attribute o m apos) [] [] pos) X.env = (do
      let ov ← eval o X.env
      standAt apos.atName
      let (f, first) ← holding [ov] (getMethod ov m pl)
      callWith pos f first (backTo pos (starEach [] X.env)) (backToKw pos (keywordEach [] X.env))) := by rfl) :
    PE X (.Call (.Attribute o m apos) [] [] pos) (tL X.K T ξ W (lMeth tab fo lNil)) :=
  pe_imp (pe_methU0 (pl := pl) (E := WE W) ho (fun σ => L2N.passAt tk σ) ht) (meth_read hM fun g σ m1 S1 H1 ds v x Q r1 rs1 rv h1 => ⟨m1, S1, [v], r1, RVs.cons rv RVs.nil, h1⟩)
/-! ### C(..) -/
def mkO (c : Nat) (g : Fn) (vs : List LV) (S : Sto) : R := match g (.ref S.length :: vs) (S ++ [.ins c []]) with
  | .ok .non S2 => .ok (.ref S.length) S2
  | _ => .no
def lMake (c : Nat) (g : Fn) (fa : LA) : LE := fun ds S => (fa ds S).bind (mkO c g)
theorem pass_no : Passes (L2N.CX X.prog X.w) X fun _ _ _ => False := fun _ _ _ _ _ _ _ h => by
  obtain ⟨_, _, _, _, _, _, _, _, _, _, _, _, z⟩ := h
  exact z.elim
theorem make_read {g : Fn} {m : List Addr} {S : Sto} {H : Hp} {vs : List LV} {xs : List V} {Q : VK} {W : XK} (hC : T.ca c = C) (r : RelS X.K T m S H) (rv : RVs X.K m H vs xs) (h : PoE X.K T m H (mkO c g vs S) Q W) :
    ∀ x dx, H x = none → H dx = none → dx ≠ x → spF X.K T g (.ref x :: (xs ++ [])) (upd (upd H dx (.own x)) x (.ins C dx [])) (fun v H2 => v = .non ∧ Q (.ref x) H2) (fun _ _ _ => False) := fun x dx hx hdx hne => by
  have E1 : Ext m H m (upd H dx (.own x)) := Ext.side hdx
  have r1 := r.side (o := .own x) hdx
  have hx1 : upd H dx (.own x) x = none := by rw [upd_ne hne.symm]; exact hx
  have E2 : Ext m (upd H dx (.own x)) (m ++ [x]) (upd (upd H dx (.own x)) x (.ins C dx [])) := Ext.alloc r1 hx1
  have r2 : RelS X.K T (m ++ [x]) (S ++ [.ins c []]) (upd (upd H dx (.own x)) x (.ins C dx [])) := r1.alloc hx1 ⟨dx, [], by rw [hC]; exact upd_same, rfl, RVs.nil⟩
  have E := E1.trans E2
  have gx : (m ++ [x])[S.length]? = some x := by rw [← r.len, List.getElem?_append_right (Nat.le_refl _), Nat.sub_self] <;> rfl
  refine ⟨_, _, .ref S.length :: vs, r2, RVs.cons (by unfold RV; exact ⟨x, rfl, gx⟩) (by rw [List.append_nil]; exact rv.mono E), ?_⟩
  unfold mkO at h
  cases q : g (.ref S.length :: vs) (S ++ [.ins c []]) with
  | ok v S2 =>
    rw [q] at h
    cases v with
    | non =>
      intro m' H' y E' r' ry
      refine ⟨ry, ?_⟩
      have h' := PoE.mono E h
      exact h' m' H' _ E' r' (by unfold RV; exact ⟨x, rfl, E'.get gx⟩)
    | _ => exact h.elim
  | ex c fs S2 => rw [q] at h; exact h.elim
  | no => rw [q] at h; exact h.elim
theorem pl_make {f : Addr} {fd : FuncData} {ps : List Str} {x : Str} {g : Fn} (hC : T.ca c = C) (M : Mk X.K C f) (F : FnOk X.prog X.w X.K X.mg X.base (L2N.CX X.prog X.w) k f fd ps (spF X.K T g)) (hr : Room (k + 1) X.A) (hg : Gl X x) (hm : X.mg x = some (.ref C)) (hb : Binds X.K fd ps [])
    (ha : PA X (e :: es) (tLA X.K T ξ W ga)) (hdb : (x == ("__debug__" : Str)) = false := by decide) (he : starEach (e :: es) X.env = (false, eval e X.env) :: starEach es X.env := by rfl) (hpl : (backTo pos (starEach es X.env)).any (·.1) = false := by rfl) :
    PE X (.Call (.Name x p) (e :: es) [] pos) (tL X.K T ξ W (lMake c g ga)) :=
  pe_imp (pe_make M F hr hg hm hb .nil pass_no ha hdb he hpl) fun σ H Q ⟨m, S, ds, r0, rs, h⟩ => tLA.bind r0 rs h fun vs S1 m1 H1 xs E r1 rs1 rv h1 => make_read hC r1 rv h1
theorem pl_make0 {f : Addr} {fd : FuncData} {ps : List Str} {x : Str} {g : Fn} (hC : T.ca c = C) (M : Mk X.K C f) (F : FnOk X.prog X.w X.K X.mg X.base (L2N.CX X.prog X.w) k f fd ps (spF X.K T g)) (hr : Room (k + 1) X.A) (hg : Gl X x) (hm : X.mg x = some (.ref C)) (hb : Binds X.K fd ps [])
    (hdb : (x == ("__debug__" : Str)) = false := by decide) : PE X (.Call (.Name x p) [] [] pos) (tL X.K T ξ W (lMake c g lNil)) :=
  pe_imp (pe_make0 M F hr hg hm hb .nil pass_no hdb) fun σ H Q ⟨m, S, ds, r0, rs, h⟩ => make_read hC r0 RVs.nil h
end
/-! ### how it is reckoned with -/
def sfl2 (c i : Nat) (u : LV) (ds : Sl) : R → RS
  | .ok v S => match pfO c i v u S with
    | some S3 => .nx ds S3
    | none => .no
  | .ex c fs S => .ex c fs ds S
  | .no => .no
def sfl1 (c i : Nat) (fo : LE) (ds : Sl) : R → RS
  | .ok u S => sfl2 c i u ds (fo ds S)
  | .ex c fs S => .ex c fs ds S
  | .no => .no
def meth2 (g : Fn) (v : LV) : RL → R
  | .ok vs S => g (v :: vs) S
  | .ex c fs S => .ex c fs S
  | .no => .no
def meth1 (tab : Nat → Option Fn) (fa : LA) (ds : Sl) : R → R
  | .ok v S => methK tab fa ds v S
  | .ex c fs S => .ex c fs S
  | .no => .no
section
variable {c i n : Nat} {fv fo : LE} {fa : LA} {ds : Sl} {S : Sto} {v u w : LV} {vs fs : List LV} {tab : Nat → Option Fn} {g : Fn}
@[simp] theorem e_sfl : lSfl c i fv fo ds S = sfl1 c i fo ds (fv ds S) := by
  unfold lSfl
  cases fv ds S with
  | ok u S1 =>
    show bindS (fo ds S1) ds _ = sfl2 c i u ds (fo ds S1)
    cases fo ds S1 <;> rfl
  | _ => rfl
@[simp] theorem sfl1_ok : sfl1 c i fo ds (.ok u S) = sfl2 c i u ds (fo ds S) := (rfl)
theorem sfl2_ok (h : S[n]? = some (.ins c vs)) (hi : i ≤ vs.length) (hl : vs.length < 900) : sfl2 c i u ds (.ok (.ref n) S) = .nx ds (S.set n (.ins c (setAt i u vs))) := by
  simp only [sfl2, pfO, h]
  rw [if_pos ⟨trivial, hi, hl⟩]
theorem fld_ok (h : S[n]? = some (.ins c vs)) (hi : vs[i]? = some v) : fldL c i (.ref n) S = .ok v S := by
  simp only [fldL, fldO, h, if_true, hi]
@[simp] theorem e_meth : lMeth tab fo fa ds S = meth1 tab fa ds (fo ds S) := by unfold lMeth; cases fo ds S <;> rfl
theorem meth1_ok (h : S[n]? = some (.ins c vs)) (hg : tab c = some g) : meth1 tab fa ds (.ok (.ref n) S) = meth2 g (.ref n) (fa ds S) := by
  show methK tab fa ds (.ref n) S = _
  simp only [methK, clsO, h, hg]
  cases fa ds S <;> rfl
@[simp] theorem meth2_ok : meth2 g v (.ok vs S) = g (v :: vs) S := (rfl)
@[simp] theorem meth2_ex : meth2 g v (.ex c fs S) = .ex c fs S := (rfl)
@[simp] theorem e_make : lMake c g fa ds S = app1 (mkO c g) (fa ds S) := by unfold lMake; cases fa ds S <;> rfl
theorem mkO_ok {S2 : Sto} (h : g (.ref S.length :: vs) (S ++ [.ins c []]) = .ok .non S2) : mkO c g vs S = .ok (.ref S.length) S2 := by unfold mkO; rw [h]
theorem isi_ins {n : Nat} : S[n]? = some (.ins c vs) → clsO (.ref n) S = some c := fun h => by simp [clsO, h]
end
end LL


set_option Elab.async false
set_option linter.all false
set_option maxRecDepth 100000
set_option maxHeartbeats 2000000
/-! The logical layer: more of what is walked; methods of dicts and lists; names stored at once. -/
namespace LL
open PySem PySem.Spec PyProof.Rows L2
/-! ### range with a step -/
def rngC (lo c : Int) (n : Nat) : List LV := (List.range n).map fun (k : Nat) => .int (lo + (k : Int) * c)
def okRgC (i j c : Int) : Bool := decide (c ≠ 0) && decide (c.natAbs < 1073741824) && Builtin.Range.small i j c && decide (0 ≤ Builtin.Range.rangeSize i j c)
def rng3O : List LV → Sto → RI
  | [.int i, .int j, .int c], S => if okRgC i j c = true then .ok (itOf (rngC i c (Builtin.Range.rangeSize i j c).toNat)) S else .no
  | _, _ => .no
def lRng3 (f : LA) : LI := fun ds S => bindIA (f ds S) rng3O
section
variable {K : PySem.W.Frag} {T : Env1} {m0 : List Addr} {H0 : Hp}
theorem it_rngC {lo c : Int} {n : Nat} : ItL K T m0 H0 (Itc lo c n) (itOf (rngC lo c n)) where
  stop := fun m S H E r h => by
    show n ≤ (rngC lo c n).length
    simp [rngC]
  go := fun i m S H v hi E r h => by
    have : i < (rngC lo c n).length := hi
    have : i < n := by simpa [rngC] using this
    exact this
  yld := fun i x H' m S H v hi E r h y => by
    obtain ⟨rfl, rfl⟩ := y
    refine ⟨Ext.refl, r, ?_⟩
    have hi' : i < n := by
      have : i < (rngC lo c n).length := hi
      simpa [rngC] using this
    have h' : (rngC lo c n)[i]? = some v := h
    unfold rngC at h'
    rw [List.getElem?_map, List.getElem?_range hi'] at h'
    cases h'
    rfl
end
theorem RVs.three {K : PySem.W.Frag} {m : List Addr} {H : Hp} {u v w : LV} {xs : List V} (h : RVs K m H [u, v, w] xs) : ∃ x y z, xs = [x, y, z] ∧ RV K m H u x ∧ RV K m H v y ∧ RV K m H w z := by
  unfold RVs at h
  obtain ⟨x, r, rfl, h1, h2⟩ := h
  obtain ⟨y, z, rfl, h3, h4⟩ := h2.two
  exact ⟨x, y, z, rfl, h1, h3, h4⟩
/-! ### enumerate: a tuple, the kit's side -/
theorem meets_enum_tup (l : Addr) (items : Array Value) : Meets (Builtin.«enumerate.__new__» ⟨[.type "enumerate", .ref l], []⟩) (fun _ R s => s.heap.IsTuple l items ∧
      R (.ok (.ret (.ref (s.heap.push { cls := .type "tuple_iterator", data := .fields #[.ref l, .int 0 0] }).objs.size)))
        { s with heap := (s.heap.push { cls := .type "tuple_iterator", data := .fields #[.ref l, .int 0 0] }).push { cls := .type "enumerate", data := .fields #[.none, .bool false, .ref s.heap.objs.size, rawInt 0, .none, .none] } }) :=
  .of_wp fun prog w A R s h => by
    obtain ⟨hp, g, d, tk, os⟩ := s; obtain ⟨hL, h⟩ := h
    have hsub := sub_enumerate
    have hL : Heap.IsTuple (Shared.heap ⟨hp, g, d, tk, os⟩) l items := hL
    wp_walk using wpAny_pyIter_tuple hL
    refine wpAny_stack_any fun st => wpAny_pure ?_
    split
    · rename_i c _ _ _ _ _
      cases (c == Value.type "enumerate")
      · wp_walk using wpAny_pyIter_tuple hL
        exact ⟨_, rfl, h⟩
      · wp_walk using wpAny_pyIter_tuple hL
        exact ⟨_, rfl, h⟩
    · wp_walk using wpAny_pyIter_tuple hL
      exact ⟨_, rfl, h⟩
theorem call_enum_tup {prog : Program} {w : World} {A : Around} {E : Value → Shared → Prop} {s : Shared} {l : Addr} {items : Array Value} {Q : Value → Shared → Prop} (hL : s.heap.IsTuple l items)
    (h : ∀ h', IsEnum h' (s.heap.objs.size + 1) s.heap.objs.size 0 .none → h'.IsTupleIter s.heap.objs.size l 0 → (∀ b o, s.heap.get? b = some o → h'.get? b = some o) → Q (.ref (s.heap.objs.size + 1)) { s with heap := h' }) :
    wpAny (model prog w) A (call (.type "enumerate") [.ref l]) Q E s := by
  refine callType_new F.called_enumerate (by decide) (F.typeCall_enumerate_1 _) (F.newCall_enumerate_1 _) (fun obj => F.args_object_init_2 obj _) F.entry_enumerate_new (meets_enum_tup l items) ⟨hL, ?_⟩
  have hz : (s.heap.push { cls := .type "tuple_iterator", data := .fields #[.ref l, .int 0 0] }).objs.size = s.heap.objs.size + 1 := Heap.size_push ..
  show _ ∧ _
  rw [hz]
  have he : IsEnum ((s.heap.push { cls := .type "tuple_iterator", data := .fields #[.ref l, .int 0 0] }).push { cls := .type "enumerate", data := .fields #[.none, .bool false, .ref s.heap.objs.size, rawInt 0, .none, .none] }) (s.heap.objs.size + 1) s.heap.objs.size 0 .none := by
    have := Heap.get?_push_size (s.heap.push { cls := .type "tuple_iterator", data := .fields #[.ref l, .int 0 0] }) (o := { cls := .type "enumerate", data := .fields #[.none, .bool false, .ref s.heap.objs.size, rawInt 0, .none, .none] }) rfl
    rw [hz] at this
    exact this
  exact ⟨⟨_, he, rfl⟩, h _ he ⟨_, Heap.get?_push_of_some _ (Heap.get?_push_size _ rfl), rfl, rfl⟩ fun b o x => Heap.get?_push_of_some _ (Heap.get?_push_of_some _ x)⟩
/-- the tuple at a, each item in a new pair -/
def Itet (K : PySem.W.Frag) (a : Addr) : It :=
  ⟨fun i H => ∃ (xs : List V) (x : V), SqT K H a xs ∧ xs[i]? = some x, fun i H v H' => ∃ T x, v = .ref T ∧ H T = none ∧ H' = upd H T (.tup [.int (i : Nat), x]) ∧ ∀ xs, SqT K H a xs → xs[i]? = some x, fun i H => ∃ xs : List V, SqT K H a xs ∧ xs.length = i⟩
theorem turn_etup {P : Program} {w : World} {K : PySem.W.Frag} {elts : List Expr} {kk : Nat} {tpos : Pos} (a e it : Addr) :
    Turn P w K (.Tuple elts kk tpos) (Itet K a) [e, it] e (fun i h => (∃ old, IsEnum h e it ((i : Nat) : Int) old) ∧ h.IsTupleIter it a i ∧ e ≠ it) where
  mem := by simp
  obj := fun i h st b hb => by
    obtain ⟨⟨old, he⟩, ⟨o, ho, hc, hd⟩, _⟩ := st
    rcases (show b = e ∨ b = it by simpa using hb) with z | z
    · rw [z]; exact ⟨_, he, fun v q => nomatch q⟩
    · rw [z]; exact ⟨o, ho, fun v q => by rw [hd] at q; cases q⟩
  keep := fun i h h' st k => let ⟨⟨old, he⟩, hi, hne⟩ := st; ⟨⟨old, k e (by simp) _ he⟩, hi.at fun o q => k it (by simp) o q, hne⟩
  item := by
    intro X hP hw hK hc i pins s σ H E I hf st hg
    subst hP hw hK
    obtain ⟨⟨old, he⟩, hit, hne⟩ := st
    obtain ⟨xs, x, hq, hx⟩ := hg
    obtain ⟨its, rv, p, hz⟩ := I.tuple hq
    have p : s.heap.IsTuple a its.toArray := p
    obtain ⟨u, hu, ru⟩ := rv.get hx
    have hlt : i < its.toArray.size := by
      have := (List.getElem?_eq_some_iff.mp hu).1
      simpa using this
    have hel : e < s.heap.objs.size := Heap.lt_size he
    have hil : it < s.heap.objs.size := by obtain ⟨_, q, _⟩ := hit; exact Heap.lt_size q
    have nHe : a ≠ e := fun z => by
      obtain ⟨o, q, c, _⟩ := p
      rw [z, he] at q
      cases q
      injection c with c
      exact absurd c (by decide)
    have nHi : a ≠ it := fun z => by
      obtain ⟨o, q, c, _⟩ := p
      obtain ⟨o2, q2, c2, _⟩ := hit
      rw [z, q2] at q
      cases q
      rw [c2] at c
      injection c with c
      exact absurd c (by decide)
    have D := Draws.tuple (prog := X.prog) (w := X.w) (A := X.A.in1) (I.ok.hd hc) it a nHi its.toArray
    refine wpAny_pyNext_enum_itemD D he ⟨hit, p⟩ hlt hne (by simp; exact ⟨hne, fun z => nHe z.symm⟩) fun y h' tk hy ho hs' hT hsz hk => ?_
    have hy' : y = u := by
      have h1 : its.toArray[i]? = some u := by simpa using hu
      rw [h1] at hy
      exact (Option.some.inj hy).symm
    subst hy'
    refine ⟨_, rfl, wpAny_letOwnedTupleGo_enum (s := { s with heap := h', toks := tk + 1 }) ho fun h'' he' sb => ?_⟩
    have hT2 : h''.get? s.heap.objs.size = some { cls := .type "tuple", data := .seq #[.int i tk, y] } := (sb.2 _ (Nat.ne_of_gt hel)).trans hT
    have new : ObjOk X.prog X.w (upd H s.heap.objs.size (.tup [.int (i : Nat), x])) h'' s.heap.objs.size (.tup [.int (i : Nat), x]) :=
      ⟨by show 2 ≤ sizeLine; decide, [.int i tk, y], .cons ⟨_, rfl⟩ (.cons ru .nil), ⟨_, hT2, rfl, _, rfl⟩⟩
    have I1 : Inv X pins σ (upd H s.heap.objs.size (.tup [.int (i : Nat), x])) { s with heap := h'', toks := tk + 1 } :=
      I.turnedNew (ch := [e, it]) (fun b ob hb q => (sb.2 b (fun z => hb (by simp [z]))).trans (hk b ob (fun z => hb (by simp [z])) (fun z => hb (by simp [z])) q)) hf (Nat.le_refl _) new
    refine ⟨.ref s.heap.objs.size, _, I1, rfl, ⟨_, x, rfl, I.hok.fresh (Nat.le_refl _), rfl, fun ys hy => by rw [I.tuple_inj hy hq]; exact hx⟩, ⟨⟨y, ?_⟩, hs'.1.at fun o q => (sb.2 it (Ne.symm hne)).trans q, hne⟩, fun b hb => ?_⟩
    · rw [show ((i + 1 : Nat) : Int) = (i : Int) + 1 by omega]; exact he'
    · have hb' : b < s.heap.objs.size := by
        rcases (show b = e ∨ b = it by simpa using hb) with z | z
        · rw [z]; exact hel
        · rw [z]; exact hil
      rw [upd_ne (Nat.ne_of_lt hb')]
      exact (hf b hb).1
  done := by
    intro X hP hw hK hc i pins s σ H E I hf st hg
    subst hP hw hK
    obtain ⟨⟨old, he⟩, hit, hne⟩ := st
    obtain ⟨xs, hq, hxl⟩ := hg
    obtain ⟨its, rv, p, hz⟩ := I.tuple hq
    have p : s.heap.IsTuple a its.toArray := p
    obtain ⟨f0, f1, f2, f3, f4, f5⟩ := hf it (by simp)
    have hl := rv.length
    have sz : its.toArray.size = i := by simp only [List.size_toArray]; omega
    have nHi : a ≠ it := fun z => by
      obtain ⟨o, q, c, _⟩ := p
      obtain ⟨o2, q2, c2, _⟩ := hit
      rw [z, q2] at q
      cases q
      rw [c2] at c
      injection c with c
      exact absurd c (by decide)
    have D := Draws.tuple (prog := X.prog) (w := X.w) (A := X.A.in1) (I.ok.hd hc) it a nHi its.toArray
    rw [sz] at D
    exact wpAny_pyNext_enum_endD D he ⟨hit, p⟩ fun h' eb => ⟨rfl, I.turned (t' := s.toks) (fun b o hb q => eb b o hb q) f0 f1 f3 f4 f5⟩
  self := fun A i s Q E st h => let ⟨⟨_, he⟩, _⟩ := st; wpAny_pyIter_enum he h
def iEnumU (K : PySem.W.Frag) (ta : TA) : TI := fun σ H R => ta σ H fun vs H1 => ∃ a xs, vs = [.ref a] ∧ ((SqL K H1 a xs ∧ R (Ite K a) H1) ∨ (SqT K H1 a xs ∧ R (Itet K a) H1))
theorem pi_enumU {X : Cx} {e : Expr} {ta : TA} {p pos tpos : Pos} {elts : List Expr} {kk : Nat} (hg : Gl X "enumerate") (hm : X.mg "enumerate" = none) (ha : PA X [e] ta) (hs : starEach [e] X.env = [(false, eval e X.env)] := by rfl) :
    PI X (.Tuple elts kk tpos) (.Call (.Name "enumerate" p) [e] [] pos) (iEnumU X.K ta) := by
  refine ⟨fun pins s σ H R I h => ?_⟩
  refine Call_ (ld_blt I hg hm boot_enumerate (PyProof.Rows.callWith_type1 (thn (ha.run pos pins s σ H _ I h) fun us s1 ⟨vs, H1, I1, r1, q1⟩ => ?_) hs rfl))
  obtain ⟨a, xs, ex, q1⟩ := q1
  subst ex
  cases r1 with
  | cons r rr =>
    cases rr
    cases r
    have fin' : ∀ b, (b = s1.heap.objs.size + 1 ∨ b = s1.heap.objs.size) → s1.heap.objs.size ≤ b := fun b e' => by
      rcases e' with z | z
      · rw [z]; exact Nat.le_add_right _ _
      · rw [z]; exact Nat.le_refl _
    rcases q1 with ⟨hq, q⟩ | ⟨hq, q⟩
    · obtain ⟨its, rv, p', hz⟩ := I1.list hq
      refine call_enumerate_list p'.isList fun h' he hit hsz hk => wpAny_pyIter_enum he ?_
      have I2 : Inv X pins σ H1 { s1 with heap := h' } := I1.kept (t' := s1.toks) hk
      refine ⟨s1.heap.objs.size + 1, [s1.heap.objs.size + 1, s1.heap.objs.size], _, _, H1, rfl, I2, turn_enum a (s1.heap.objs.size + 1) s1.heap.objs.size, ⟨⟨.none, he⟩, hit, Nat.succ_ne_self _⟩, fun b hb => ?_, q⟩
      have hle := fin' b (by simpa using hb)
      exact I1.fpOk hle (I1.hok.fresh hle)
    · obtain ⟨its, rv, p', hz⟩ := I1.tuple hq
      have p' : s1.heap.IsTuple a its.toArray := p'
      refine call_enum_tup p' fun h' he hit hk => wpAny_pyIter_enum he ?_
      have I2 : Inv X pins σ H1 { s1 with heap := h' } := I1.kept (t' := s1.toks) hk
      refine ⟨s1.heap.objs.size + 1, [s1.heap.objs.size + 1, s1.heap.objs.size], _, _, H1, rfl, I2, turn_etup a (s1.heap.objs.size + 1) s1.heap.objs.size, ⟨⟨.none, he⟩, hit, Nat.succ_ne_self _⟩, fun b hb => ?_, q⟩
      have hle := fin' b (by simpa using hb)
      exact I1.fpOk hle (I1.hok.fresh hle)
/-! ### enumerate -/
def enumI (l : LIt) : LIt := ⟨l.n, fun i S => (l.item i S).map fun v => .tup [.int (i : Nat), v], l.fine⟩
def enumO : List LV → Sto → RI
  | [v], S => match v with
    | .lst xs => .ok (enumI (itOf xs)) S
    | .tup xs => .ok (enumI (itOf xs)) S
    | .scr ns => .ok (enumI (itOf (ns.map .int))) S
    | .ref n => match S[n]? with
      | some (.lst xs) => .ok (enumI (itRef n xs.length)) S
      | _ => .no
    | _ => .no
  | _, _ => .no
def lEnum (f : LA) : LI := fun ds S => bindIA (f ds S) enumO
theorem it_enum {K : PySem.W.Frag} {T : Env1} {m0 : List Addr} {H0 : Hp} {a : Addr} {l : LIt} (it : ItL K T m0 H0 (Itl K a) l) : ItL K T m0 H0 (Ite K a) (enumI l) where
  stop := it.stop
  go := fun i m S H v hi E r h => by
    have h' : (l.item i S).map (fun v => LV.tup [.int (i : Nat), v]) = some v := h
    cases q : l.item i S with
    | none => rw [q] at h'; cases h'
    | some u => exact it.go i m S H u hi E r q
  yld := fun i x H' m S H v hi E r h y => by
    have h' : (l.item i S).map (fun v => LV.tup [.int (i : Nat), v]) = some v := h
    cases q : l.item i S with
    | none => rw [q] at h'; cases h'
    | some u =>
      rw [q] at h'
      cases h'
      obtain ⟨p, x0, rfl, hp, rfl, hx⟩ := y
      obtain ⟨_, _, ru⟩ := it.yld i x0 H m S H u hi E r q ⟨rfl, hx⟩
      have E1 : Ext m H m (upd H p (.tup [.int (i : Nat), x0])) := Ext.side hp
      refine ⟨E1, r.side hp, ?_⟩
      unfold RV
      exact ⟨p, _, rfl, upd_same, RVs.cons rfl (RVs.cons (ru.mono E1) RVs.nil)⟩
theorem it_enumT {K : PySem.W.Frag} {T : Env1} {m0 : List Addr} {H0 : Hp} {a : Addr} {xs : List LV} {vs : List V} (ht : ∀ m H, Ext m0 H0 m H → SqT K H a vs) (hs : RVs K m0 H0 xs vs) : ItL K T m0 H0 (Itet K a) (enumI (itOf xs)) where
  stop := fun m S H E r h => ⟨vs, ht m H E, hs.len.symm⟩
  go := fun i m S H v hi E r h => by
    have h' : (xs[i]?).map (fun v => LV.tup [.int (i : Nat), v]) = some v := h
    cases q : xs[i]? with
    | none => rw [q] at h'; cases h'
    | some u =>
      obtain ⟨x, hx, _⟩ := hs.get q
      exact ⟨vs, x, ht m H E, hx⟩
  yld := fun i x H' m S H v hi E r h y => by
    have h' : (xs[i]?).map (fun v => LV.tup [.int (i : Nat), v]) = some v := h
    cases q : xs[i]? with
    | none => rw [q] at h'; cases h'
    | some u =>
      rw [q] at h'
      cases h'
      obtain ⟨p, x0, rfl, hp, rfl, hx⟩ := y
      obtain ⟨z, hz, rz⟩ := hs.get q
      have := hx vs (ht m H E)
      rw [hz] at this
      cases this
      have E1 : Ext m H m (upd H p (.tup [.int (i : Nat), x0])) := Ext.side hp
      refine ⟨E1, r.side hp, ?_⟩
      unfold RV
      exact ⟨p, _, rfl, upd_same, RVs.cons rfl (RVs.cons ((rz.mono E).mono E1) RVs.nil)⟩
section
variable {X : Cx} {T : Env1} {ξ : Xi} {W : WX} {e tg : Expr} {es : List Expr} {pos p apos cpos tpos : Pos} {fe : LE} {ga : LA}
theorem il_rng3 {a b c : Expr} (hg : Gl X "range") (hm : X.mg "range" = none) (ha : PA X [a, b, c] (tLA X.K T ξ W ga)) (hs : starEach [a, b, c] X.env = (false, eval a X.env) :: starEach [b, c] X.env := by rfl) (hpl : (backTo pos (starEach [b, c] X.env)).any (·.1) = false := by rfl) :
    PI X tg (.Call (.Name "range" p) [a, b, c] [] pos) (tI X.K T ξ W (lRng3 ga)) :=
  pi_imp (pi_range3 hg hm ha hs hpl) fun σ H R ⟨m, S, ds, r, rs, h⟩ => tLA.bindI (k := rng3O) (R := R) r rs h fun vs S1 m1 H1 xs E r1 rv h1 => by
    unfold rng3O at h1
    split at h1
    · rename_i i j c
      obtain ⟨x, y, z, rfl, rx, ry, rz⟩ := rv.three
      split at h1
      · rename_i hz
        unfold okRgC at hz
        simp only [Bool.and_eq_true, decide_eq_true_eq] at hz
        obtain ⟨⟨⟨z1, z2⟩, z3⟩, z4⟩ := hz
        exact ⟨i, j, c, _, by rw [show x = .int _ from rx, show y = .int _ from ry, show z = .int _ from rz], ⟨z1, z2, z3, (Int.toNat_of_nonneg z4).symm⟩, h1 m1 H1 _ Ext.refl r1 it_rngC⟩
      · exact h1.elim
    · exact h1.elim
theorem il_enum {elts : List Expr} {kk : Nat} (hg : Gl X "enumerate") (hm : X.mg "enumerate" = none) (ha : PA X [e] (tLA X.K T ξ W ga)) (hs : starEach [e] X.env = [(false, eval e X.env)] := by rfl) :
    PI X (.Tuple elts kk tpos) (.Call (.Name "enumerate" p) [e] [] pos) (tI X.K T ξ W (lEnum ga)) :=
  pi_imp (pi_enumU hg hm ha hs) fun σ H R ⟨m, S, ds, r, rs, h⟩ => tLA.bindI (k := enumO) (R := R) r rs h fun vs S1 m1 H1 xs E r1 rv h1 => by
    unfold enumO at h1
    split at h1
    · obtain ⟨x, rfl, rx⟩ := rv.one
      split at h1
      · obtain ⟨a, vs, rfl, na, ha, hs⟩ := rx.lstE
        exact ⟨a, _, rfl, .inl ⟨SqL.of ha, h1 m1 H1 _ Ext.refl r1 (it_enum (it_lst (fun m2 H2 E2 => SqL.of (E2.fr a _ na ha)) hs))⟩⟩
      · obtain ⟨a, vs, rfl, ht, hs⟩ := rx.tupE
        exact ⟨a, _, rfl, .inr ⟨SqT.of ht, h1 m1 H1 _ Ext.refl r1 (it_enumT (fun m2 H2 E2 => SqT.of (E2.tup a _ ht)) hs)⟩⟩
      · unfold RV at rx
        obtain ⟨a, rfl, ha⟩ := rx
        exact ⟨a, _, rfl, .inl ⟨scr_sq ha, h1 m1 H1 _ Ext.refl r1 (it_enum (it_lst (fun m2 H2 E2 => scr_sq (E2.kp.scr ha)) (RVs.ints _)))⟩⟩
      · split at h1
        · rename_i xs hn
          obtain ⟨a, vs, rfl, hm, ha, hs⟩ := rx.lst r1 hn
          exact ⟨a, _, rfl, .inl ⟨SqL.of ha, h1 m1 H1 _ Ext.refl r1 (it_enum (it_list (S0 := S1) hm))⟩⟩
        · exact h1.elim
      · exact h1.elim
    · exact h1.elim
end
/-! ### locked dicts: walks over them -/
def lockO (S : Sto) (n : Nat) : Option Sto := match S[n]? with
  | some (.dct kvs) => some (S.set n (.dck kvs))
  | some (.dcT kvs) => some (S.set n (.dcl kvs))
  | _ => none
def unlO (S : Sto) (n : Nat) : Option Sto := match S[n]? with
  | some (.dck kvs) => some (S.set n (.dct kvs))
  | some (.dcl kvs) => some (S.set n (.dcT kvs))
  | _ => none
/-- which dict: what an expression tells -/
def selE (fe : LE) (ds : Sl) (S : Sto) : Option Nat := match fe ds S with
  | .ok (.ref n) _ => some n
  | _ => none
def unlR (n : Nat) : R → R
  | .ok v S => match unlO S n with
    | some S2 => .ok v S2
    | none => .no
  | _ => .no
def lLock (fd fe : LE) : LE := fun ds S => match selE fd ds S with
  | some n => match lockO S n with
    | some S1 => unlR n (fe ds S1)
    | none => .no
  | none => .no
def unlS (n : Nat) : RS → RS
  | .nx ds S => match unlO S n with
    | some S2 => .nx ds S2
    | none => .no
  | .rt v S => match unlO S n with
    | some S2 => .rt v S2
    | none => .no
  | _ => .no
def lLockS (fd : LE) (fb : LS) : LS := fun ds S => match selE fd ds S with
  | some n => match lockO S n with
    | some S1 => unlS n (fb ds S1)
    | none => .no
  | none => .no
section
variable {K : PySem.W.Frag} {T : Env1} {ξ : Xi} {m m' : List Addr} {H H' : Hp} {S S' S3 : Sto} {n : Nat} {d : Addr} {ds : Sl} {σ : L2.St}
theorem RSl.kp (E : Kp m H m' H') (h : RSl K ξ m H ds σ) : RSl K ξ m' H' ds σ := ⟨h.len, fun i v e => by
  obtain ⟨x, q, r⟩ := h.at_ i v e
  refine ⟨x, q, ?_⟩
  cases v with
  | exc c fs => exact r
  | _ => exact RV.kp E r⟩
def isDK : HO → Prop
  | .dK _ => True
  | .dT _ => True
  | _ => False
/-- the heap with the dict at d locked -/
theorem lock_kp {u : HO} {od : Obj} (hd : H d = some u) (hu : isDK u) (hm : d ∈ m) : Kp m H m (upd H d (.frz od u)) where
  get := fun _ _ h => h
  tup := fun a vs h => by
    have : a ≠ d := fun z => by rw [z, hd] at h; cases h; exact hu
    rw [upd_ne this]; exact h
  frz := fun a o vs h => by
    have : a ≠ d := fun z => by rw [z, hd] at h; cases h; exact hu
    rw [upd_ne this]; exact h
  lst := fun a vs na h => by
    have : a ≠ d := fun z => na (z ▸ hm)
    rw [upd_ne this]; exact ⟨na, h⟩
theorem unlock_kp {u : HO} {od : Obj} (hd : H d = some (.frz od u)) (hu : isDK u) (hm : d ∈ m) : Kp m H m (upd H d u) where
  get := fun _ _ h => h
  tup := fun a vs h => by
    have : a ≠ d := fun z => by rw [z, hd] at h; cases h
    rw [upd_ne this]; exact h
  frz := fun a o vs h => by
    have : a ≠ d := fun z => by
      rw [z, hd] at h
      cases h
      exact hu
    rw [upd_ne this]; exact h
  lst := fun a vs na h => by
    have : a ≠ d := fun z => na (z ▸ hm)
    rw [upd_ne this]; exact ⟨na, h⟩
theorem RelS.chg {o : HO} {lo : LO} (r : RelS K T m S H) (hn : m[n]? = some d) (E : Kp m H m (upd H d o)) (ho : RO K T m (upd H d o) d lo) : RelS K T m (S.set n lo) (upd H d o) where
  len := by rw [List.length_set, r.len]
  nd := r.nd
  ob := fun k b u hk hu => by
    by_cases e : k = n
    · subst e
      rw [hn] at hk
      cases hk
      have hl : k < S.length := by
        rw [← r.len]
        exact (List.getElem?_eq_some_iff.mp hn).1
      rw [List.getElem?_set_self hl] at hu
      cases hu
      exact ho
    · rw [List.getElem?_set_ne (Ne.symm e)] at hu
      have hb : b ≠ d := fun z => by
        subst z
        obtain ⟨l1, e1⟩ := List.getElem?_eq_some_iff.mp hk
        obtain ⟨l2, e2⟩ := List.getElem?_eq_some_iff.mp hn
        exact e ((List.getElem_inj r.nd).mp (e1.trans e2.symm))
      exact (r.ob k b u hk hu).kp E (upd_ne hb)
/-- a lock is set -/
theorem lock_in {S1 : Sto} (r : RelS K T m S H) (e : lockO S n = some S1) : ∃ d u, m[n]? = some d ∧ H d = some u ∧ isDK u ∧ Mut (some u) ∧ ∀ od, RelS K T m S1 (upd H d (.frz od u)) ∧ Kp m H m (upd H d (.frz od u)) := by
  unfold lockO at e
  split at e
  · rename_i kvs hn
    cases e
    have hl : n < m.length := by rw [r.len]; exact (List.getElem?_eq_some_iff.mp hn).1
    have hm : m[n]? = some m[n] := List.getElem?_eq_getElem hl
    obtain ⟨ws, h1, h2, h3⟩ := r.at hm hn
    refine ⟨_, _, hm, h1, trivial, trivial, fun od => ?_⟩
    have E := lock_kp (od := od) h1 trivial (List.mem_of_getElem? hm)
    exact ⟨r.chg hm E ⟨od, ws, upd_same, h2, h3.kp E⟩, E⟩
  · rename_i kvs hn
    cases e
    have hl : n < m.length := by rw [r.len]; exact (List.getElem?_eq_some_iff.mp hn).1
    have hm : m[n]? = some m[n] := List.getElem?_eq_getElem hl
    obtain ⟨ws, h1, h2, h3⟩ := r.at hm hn
    refine ⟨_, _, hm, h1, trivial, trivial, fun od => ?_⟩
    have E := lock_kp (od := od) h1 trivial (List.mem_of_getElem? hm)
    exact ⟨r.chg hm E ⟨od, ws, upd_same, h2, h3.kp E⟩, E⟩
  · cases e
/-- .. and taken away -/
theorem lock_out {u : HO} {od : Obj} (hd : H d = some u) (hu : isDK u) (hm : m[n]? = some d) (E : Ext m (upd H d (.frz od u)) m' H') (r' : RelS K T m' S' H') (e : unlO S' n = some S3) :
    H' d = some (.frz od u) ∧ Ext m H m' (upd H' d u) ∧ RelS K T m' S3 (upd H' d u) ∧ Kp m' H' m' (upd H' d u) := by
  have hd' : H' d = some (.frz od u) := E.frz d od u upd_same
  have hm' := E.get hm
  have EK := unlock_kp hd' hu (List.mem_of_getElem? hm')
  have ne : ∀ a, a ∉ m → a ≠ d := fun a na z => na (z ▸ List.mem_of_getElem? hm)
  refine ⟨hd', ⟨E.pre, fun a o na ha => ?_, fun a ha na => ?_, fun a vs h => ?_, fun a o v h => ?_⟩, ?_, EK⟩
  · rw [upd_ne (ne a na)]
    exact E.fr a o na (by rw [upd_ne (ne a na)]; exact ha)
  · have := E.new a ha na
    rw [upd_ne (ne a na)] at this
    exact this
  · have : a ≠ d := fun z => by rw [z, hd] at h; cases h; exact hu
    rw [upd_ne this]
    exact E.tup a vs (by rw [upd_ne this]; exact h)
  · have : a ≠ d := fun z => by rw [z, hd] at h; cases h; exact hu
    rw [upd_ne this]
    exact E.frz a o v (by rw [upd_ne this]; exact h)
  · unfold unlO at e
    split at e
    · rename_i kvs hn
      cases e
      obtain ⟨od', ws, h1, h2, h3⟩ := r'.at hm' hn
      rw [hd'] at h1
      cases h1
      exact r'.chg hm' EK ⟨ws, upd_same, h2, h3.kp EK⟩
    · rename_i kvs hn
      cases e
      obtain ⟨od', ws, h1, h2, h3⟩ := r'.at hm' hn
      rw [hd'] at h1
      cases h1
      exact r'.chg hm' EK ⟨ws, upd_same, h2, h3.kp EK⟩
    · cases e
end
section
variable {X : Cx} {T : Env1} {ξ : Xi} {W : WX} {e tg : Expr} {st : Stmt} {pos p apos cpos tpos : Pos} {fd fe : LE} {fb : LS}
theorem pl_lock (h : PE X e (tL X.K T ξ W fe)) : PE X e (tL X.K T ξ W (lLock fd fe)) :=
  pe_imp (pe_lock h) fun σ H Q ⟨m, S, ds, r, rs, h⟩ => by
    unfold lLock at h
    split at h
    · rename_i n hs
      split at h
      · rename_i S1 hl
        obtain ⟨d, u, hm, hd, hu, mu, hr⟩ := lock_in r hl
        refine ⟨d, u, hd, mu, fun od => ?_⟩
        obtain ⟨r1, E1⟩ := hr od
        refine ⟨m, S1, ds, r1, rs.kp E1, ?_⟩
        cases q : fe ds S1 with
        | ok v S2 =>
          rw [q] at h
          intro m' H' x E' r' rv
          unfold unlR at h
          simp only at h
          split at h
          · rename_i S3 h3
            obtain ⟨o1, o2, o3, o4⟩ := lock_out hd hu hm E' r' h3
            exact ⟨o1, h m' _ x o2 o3 (rv.kp o4)⟩
          · exact h.elim
        | ex c fs S2 => rw [q] at h; exact h.elim
        | no => rw [q] at h; exact h.elim
      · exact h.elim
    · exact h.elim
theorem sl_lock (h : PS X st (tLS X.K T ξ W fb)) : PS X st (tLS X.K T ξ W (lLockS fd fb)) :=
  ps_imp (ps_lock h) fun D σ H ⟨m, S, ds, r, rs, h⟩ => by
    unfold lLockS at h
    split at h
    · rename_i n hs
      split at h
      · rename_i S1 hl
        obtain ⟨d, u, hm, hd, hu, mu, hr⟩ := lock_in r hl
        refine ⟨d, u, hd, mu, fun od => ?_⟩
        obtain ⟨r1, E1⟩ := hr od
        refine ⟨m, S1, ds, r1, rs.kp E1, ?_⟩
        cases q : fb ds S1 with
        | nx ds2 S2 =>
          rw [q] at h
          intro m' H' σ' E' r' rs'
          unfold unlS at h
          simp only at h
          split at h
          · rename_i S3 h3
            obtain ⟨o1, o2, o3, o4⟩ := lock_out hd hu hm E' r' h3
            exact ⟨o1, h m' _ σ' o2 o3 (rs'.kp o4)⟩
          · exact h.elim
        | rt v S2 =>
          rw [q] at h
          intro m' H' x E' r' rv
          unfold unlS at h
          simp only at h
          split at h
          · rename_i S3 h3
            obtain ⟨o1, o2, o3, o4⟩ := lock_out hd hu hm E' r' h3
            exact ⟨o1, h m' _ x o2 o3 (rv.kp o4)⟩
          · exact h.elim
        | bk ds2 S2 => rw [q] at h; exact h.elim
        | ct ds2 S2 => rw [q] at h; exact h.elim
        | ex c fs ds2 S2 => rw [q] at h; exact h.elim
        | no => rw [q] at h; exact h.elim
      · exact h.elim
    · exact h.elim
end
def keyV : Key → LV
  | .inl i => .int i
  | .inr z => .str z
def keyT (ks : List Key) : LV := .tup (ks.map keyV)
theorem keyV_rv {K : PySem.W.Frag} {m : List Addr} {H : Hp} {k : Key} : RV K m H (keyV k) (kV k) := by cases k <;> (unfold keyV RV; rfl)
theorem keysV_rv {K : PySem.W.Frag} {m : List Addr} {H : Hp} : ∀ {ks : List Key}, RVs K m H (ks.map keyV) (ks.map kV)
  | [] => RVs.nil
  | k :: ks => RVs.cons keyV_rv keysV_rv
def dictO (v : LV) (S : Sto) : RI := match v with
  | .ref n => match S[n]? with
    | some (.dck kvs) => .ok (itOf (kvs.map fun kv => keyV kv.1)) S
    | some (.dcl kvs) => .ok (itOf (kvs.map fun kv => keyT kv.1)) S
    | _ => .no
  | _ => .no
def itemO (v : LV) (S : Sto) : RI := match v with
  | .ref n => match S[n]? with
    | some (.dck kvs) => .ok (itOf (kvs.map fun kv => .tup [keyV kv.1, kv.2])) S
    | _ => .no
  | _ => .no
def lIterD (f : LE) : LI := fun ds S => bindI (f ds S) dictO
def lItems (f : LE) : LI := fun ds S => bindI (f ds S) itemO
section
variable {K : PySem.W.Frag} {T : Env1} {m0 : List Addr} {H0 : Hp} {d : Addr} {od : Obj}
theorem fst_get {κ α β : Type} {ws : List (κ × α)} {kvs : List (κ × β)} (e : ws.map (·.1) = kvs.map (·.1)) {i : Nat} {k : κ} {x : α} (h : ws[i]? = some (k, x)) : ∃ y, kvs[i]? = some (k, y) := by
  have := congrArg (fun l => l[i]?) e
  simp only [List.getElem?_map, h] at this
  cases q : kvs[i]? with
  | none => rw [q] at this; cases this
  | some kv =>
    rw [q] at this
    obtain ⟨k', y⟩ := kv
    simp at this
    exact ⟨y, by rw [this]⟩
theorem it_keys {ws : List (Key × V)} {kvs : List (Key × LV)} (hd : H0 d = some (.frz od (.dK ws))) (e : ws.map (·.1) = kvs.map (·.1)) : ItL K T m0 H0 (Itk d od ws) (itOf (kvs.map fun kv => keyV kv.1)) where
  stop := fun m S H E r h => ⟨E.frz _ _ _ hd, by
    have := congrArg List.length e
    show ws.length ≤ (kvs.map fun kv => keyV kv.1).length
    simp at this ⊢; omega⟩
  go := fun i m S H v hi E r h => ⟨E.frz _ _ _ hd, by
    have := congrArg List.length e
    have hi' : i < (kvs.map fun kv => keyV kv.1).length := hi
    simp at this hi'; omega⟩
  yld := fun i x H' m S H v hi E r h y => by
    obtain ⟨rfl, k, z, hz, rfl⟩ := y
    refine ⟨Ext.refl, r, ?_⟩
    obtain ⟨y, hy⟩ := fst_get e hz
    have h' : (kvs.map fun kv => keyV kv.1)[i]? = some v := h
    rw [List.getElem?_map, hy] at h'
    cases h'
    exact keyV_rv
theorem it_keysT {ws : List (List Key × V)} {kvs : List (List Key × LV)} (hd : H0 d = some (.frz od (.dT ws))) (e : ws.map (·.1) = kvs.map (·.1)) : ItL K T m0 H0 (Itkt d od ws) (itOf (kvs.map fun kv => keyT kv.1)) where
  stop := fun m S H E r h => ⟨E.frz _ _ _ hd, by
    have := congrArg List.length e
    show ws.length ≤ (kvs.map fun kv => keyT kv.1).length
    simp at this ⊢; omega⟩
  go := fun i m S H v hi E r h => ⟨E.frz _ _ _ hd, by
    have := congrArg List.length e
    have hi' : i < (kvs.map fun kv => keyT kv.1).length := hi
    simp at this hi'; omega⟩
  yld := fun i x H' m S H v hi E r h y => by
    obtain ⟨rfl, k, z, q, hz, rfl, hq⟩ := y
    refine ⟨Ext.refl, r, ?_⟩
    obtain ⟨y, hy⟩ := fst_get e hz
    have h' : (kvs.map fun kv => keyT kv.1)[i]? = some v := h
    rw [List.getElem?_map, hy] at h'
    cases h'
    unfold keyT RV
    exact ⟨q, _, rfl, hq, keysV_rv⟩
theorem it_items {ws : List (Key × V)} {kvs : List (Key × LV)} (hd : H0 d = some (.frz od (.dK ws))) (e : ws.map (·.1) = kvs.map (·.1)) (rv : RVs K m0 H0 (kvs.map (·.2)) (ws.map (·.2))) : ItL K T m0 H0 (Iti d od ws) (itOf (kvs.map fun kv => .tup [keyV kv.1, kv.2])) where
  stop := fun m S H E r h => ⟨E.frz _ _ _ hd, by
    have := congrArg List.length e
    show ws.length ≤ (kvs.map fun kv => LV.tup [keyV kv.1, kv.2]).length
    simp at this ⊢; omega⟩
  go := fun i m S H v hi E r h => ⟨E.frz _ _ _ hd, by
    have := congrArg List.length e
    have hi' : i < (kvs.map fun kv => LV.tup [keyV kv.1, kv.2]).length := hi
    simp at this hi'; omega⟩
  yld := fun i x H' m S H v hi E r h y => by
    obtain ⟨p, k, z, hz, rfl, hp, rfl⟩ := y
    obtain ⟨y, hy⟩ := fst_get e hz
    have h' : (kvs.map fun kv => LV.tup [keyV kv.1, kv.2])[i]? = some v := h
    rw [List.getElem?_map, hy] at h'
    cases h'
    have E1 : Ext m H m (upd H p (.tup [kV k, z])) := Ext.side hp
    refine ⟨E1, r.side hp, ?_⟩
    obtain ⟨z', hz', rz⟩ := rv.get (n := i) (v := y) (by rw [List.getElem?_map, hy]; rfl)
    rw [List.getElem?_map, hz] at hz'
    cases hz'
    unfold RV
    exact ⟨p, _, rfl, upd_same, RVs.cons keyV_rv (RVs.cons (rz.mono (E.trans E1)) RVs.nil)⟩
end
section
variable {X : Cx} {T : Env1} {ξ : Xi} {W : WX} {e f o tg : Expr} {st : Stmt} {pos p apos cpos tpos : Pos} {fe fo fk fx : LE} {fb : LS} {k : Nat}
theorem il_dict (he : PE X e (tL X.K T ξ W fe)) : PI X tg e (tI X.K T ξ W (lIterD fe)) :=
  pi_imp (pi_keys he) fun σ H R ⟨m, S, ds, r, rs, h⟩ => tL.bindI r rs h fun v S1 m1 H1 x _ E r1 rv h1 => by
    unfold dictO at h1
    split at h1
    · rename_i n
      split at h1
      · rename_i kvs hn
        unfold RV at rv
        obtain ⟨a, rfl, hm⟩ := rv
        obtain ⟨od, ws, w1, w2, w3⟩ := r1.at hm hn
        exact ⟨a, od, rfl, .inl ⟨ws, w1, h1 m1 H1 _ Ext.refl r1 (it_keys w1 w2)⟩⟩
      · rename_i kvs hn
        unfold RV at rv
        obtain ⟨a, rfl, hm⟩ := rv
        obtain ⟨od, ws, w1, w2, w3⟩ := r1.at hm hn
        exact ⟨a, od, rfl, .inr ⟨ws, w1, h1 m1 H1 _ Ext.refl r1 (it_keysT w1 w2)⟩⟩
      · exact h1.elim
    · exact h1.elim
theorem il_items {elts : List Expr} {kk : Nat} (he : PE X e (tL X.K T ξ W fe)) (hbase : attributeBase e "items" X.env (eval e X.env) = eval e X.env := by rfl) (hline : (apos.endLine == cpos.line) = true := by rfl) :
    PI X (.Tuple elts kk tpos) (.Call (.Attribute e "items" apos) [] [] cpos) (tI X.K T ξ W (lItems fe)) :=
  pi_imp (pi_items he hbase hline) fun σ H R ⟨m, S, ds, r, rs, h⟩ => tL.bindI r rs h fun v S1 m1 H1 x _ E r1 rv h1 => by
    unfold itemO at h1
    split at h1
    · rename_i n
      split at h1
      · rename_i kvs hn
        unfold RV at rv
        obtain ⟨a, rfl, hm⟩ := rv
        obtain ⟨od, ws, w1, w2, w3⟩ := r1.at hm hn
        exact ⟨a, od, ws, rfl, w1, h1 m1 H1 _ Ext.refl r1 (it_items w1 w2 w3)⟩
      · exact h1.elim
    · exact h1.elim
/-! ### d.get(k), d.get(k, v) -/
def isDc (v : LV) (S : Sto) : Bool := match v with
  | .ref n => match S[n]? with
    | some o => (dKs o).isSome || (dTs o).isSome
    | none => false
  | _ => false
def gotO (v k : LV) (dflt : LV) (S : Sto) : R := match v with
  | .ref n => match getOv k S n with
    | some o => .ok (o.getD dflt) S
    | none => .no
  | _ => .no
def lGet1 (fo fk : LE) : LE := fun ds S => (fo ds S).bind fun v S1 => if isDc v S1 = true then (fk ds S1).bind fun u S2 => gotO v u .non S2 else .no
def lGet2 (fo fk fx : LE) : LE := fun ds S => (fo ds S).bind fun v S1 => if isDc v S1 = true then (fk ds S1).bind fun u S2 => (fx ds S2).bind fun z S3 => gotO v u z S3 else .no
theorem isDc_ok {m : List Addr} {S : Sto} {H : Hp} {v : LV} {x : V} (r : RelS X.K T m S H) (e : isDc v S = true) (rv : RV X.K m H v x) : ∃ a n, v = .ref n ∧ x = .ref a ∧ IsD H a := by
  unfold isDc at e
  split at e
  · rename_i n
    split at e
    · rename_i ob hn
      have rv' := rv
      unfold RV at rv'
      obtain ⟨a, rfl, hm⟩ := rv'
      refine ⟨a, n, rfl, rfl, ?_⟩
      have q := r.at hm hn
      cases ob with
      | dct kvs => obtain ⟨ws, h1, _⟩ := q; exact .inl ⟨ws, .inl h1⟩
      | dck kvs => obtain ⟨od, ws, h1, _⟩ := q; exact .inl ⟨ws, .inr ⟨od, h1⟩⟩
      | dcT kvs => obtain ⟨ws, h1, _⟩ := q; exact .inr ⟨ws, .inl h1⟩
      | dcl kvs => obtain ⟨od, ws, h1, _⟩ := q; exact .inr ⟨ws, .inr ⟨od, h1⟩⟩
      | lst xs => simp [dKs, dTs] at e
      | ins c xs => simp [dKs, dTs] at e
    · cases e
  · cases e
theorem pl_get1 (hr : Room k X.A) (ho : PE X o (tL X.K T ξ W fo)) (he : PE X e (tL X.K T ξ W fk)) (m1 : M1 X o "get" apos e cpos := by exact ⟨rfl, rfl, rfl, rfl⟩) : PE X (.Call (.Attribute o "get" apos) [e] [] cpos) (tL X.K T ξ W (lGet1 fo fk)) :=
  pe_imp (pe_dget1 (hu_of hr) ho he m1) fun σ H Q ⟨m, S, ds, r, rs, h⟩ => tL.bind r rs h fun v S1 m1 H1 x E r1 rs1 rv h1 => by
    split at h1
    · rename_i hd
      obtain ⟨a, n, rfl, rfl, d⟩ := isDc_ok r1 hd rv
      refine ⟨a, rfl, d, tL.bind r1 rs1 h1 fun u S2 m2 H2 y E2 r2 rs2 ru h2 => ?_⟩
      unfold gotO at h2
      simp only at h2
      split at h2
      · rename_i ov g
        obtain ⟨a', o', ey, hd', hov⟩ := getOv_ok r2 g ru (rv.mono E2)
        cases ey
        refine ⟨o', hd', ?_⟩
        rcases hov with ⟨rfl, rfl⟩ | ⟨u', z, rfl, rfl, rz⟩
        · exact h2.here r2 rfl
        · exact h2.here r2 rz
      · exact h2.elim
    · exact h1.elim
theorem pl_get2 (hr : Room k X.A) (ho : PE X o (tL X.K T ξ W fo)) (he : PE X e (tL X.K T ξ W fk)) (hf : PE X f (tL X.K T ξ W fx)) (m1 : M2 X o "get" apos e f cpos := by exact ⟨rfl, rfl, rfl, rfl⟩) : PE X (.Call (.Attribute o "get" apos) [e, f] [] cpos) (tL X.K T ξ W (lGet2 fo fk fx)) :=
  pe_imp (pe_dget2 (hu_of hr) ho he hf m1) fun σ H Q ⟨m, S, ds, r, rs, h⟩ => tL.bind r rs h fun v S1 m1 H1 x E r1 rs1 rv h1 => by
    split at h1
    · rename_i hd
      obtain ⟨a, n, rfl, rfl, d⟩ := isDc_ok r1 hd rv
      refine ⟨a, rfl, d, tL.bind r1 rs1 h1 fun u S2 m2 H2 y E2 r2 rs2 ru h2 => tL.bind r2 rs2 h2 fun w S3 m3 H3 z E3 r3 rs3 rw h3 => ?_⟩
      unfold gotO at h3
      simp only at h3
      split at h3
      · rename_i ov g
        obtain ⟨a', o', ey, hd', hov⟩ := getOv_ok r3 g (ru.mono E3) ((rv.mono E2).mono E3)
        cases ey
        refine ⟨o', hd', ?_⟩
        rcases hov with ⟨rfl, rfl⟩ | ⟨u', z, rfl, rfl, rz⟩
        · exact h3.here r3 rw
        · exact h3.here r3 rz
      · exact h3.elim
    · exact h1.elim
end
/-! ### names stored at once -/
def parK (i j : Nat) (ds : Sl) : RL → RS
  | .ok [v, w] S => .nx ((ds.set i (some v)).set j (some w)) S
  | .ok _ _ => .no
  | .ex c fs S => .ex c fs ds S
  | .no => .no
def lPar (i j : Nat) (fa : LA) : LS := fun ds S => parK i j ds (fa ds S)
def par3K (i j l : Nat) (ds : Sl) : RL → RS
  | .ok [u, v, w] S => .nx (((ds.set i (some u)).set j (some v)).set l (some w)) S
  | .ok _ _ => .no
  | .ex c fs S => .ex c fs ds S
  | .no => .no
def lPar3 (i j l : Nat) (fa : LA) : LS := fun ds S => par3K i j l ds (fa ds S)
section
variable {X : Cx} {T : Env1} {ξ : Xi} {W : WX} {ga : LA} {pos px py pz pt : Pos} {x y z : Str} {a b c : Expr} {kt : Nat} {k2 : Nat} {pt2 : Pos}
theorem sl_par (i j : Nat) (hc : X.calm = true) (hN : X.N.Nodup) (ha : PA X [a, b] (tLA X.K T ξ W ga)) (hij : i ≠ j := by decide) (hi : X.N[i]? = some x := by rfl) (hj : X.N[j]? = some y := by rfl)
    (hx : X.env.scope.names.lookup x = some .local := by rfl) (hy : X.env.scope.names.lookup y = some .local := by rfl)
    (hw : swappedStores [.Tuple [.Name x px, .Name y py] kt pt] (.Tuple [a, b] k2 pt2) X.env = pure (some [x, y]) := by rfl)
    (hs : swapsWithSole [.Tuple [.Name x px, .Name y py] kt pt] (.Tuple [a, b] k2 pt2) pos.line X.env = pure false := by rfl) :
    PS X (.Assign [.Tuple [.Name x px, .Name y py] kt pt] (.Tuple [a, b] k2 pt2) pos) (tLS X.K T ξ W (lPar i j ga)) :=
  ps_imp (ps_par hc hN hi hj hij hx hy ha hw hs) fun D σ H ⟨m, S, ds, r, rs, h⟩ => by
    refine ⟨m, S, ds, r, rs, ?_⟩
    unfold lPar at h
    cases q : ga ds S with
    | ok vs S1 =>
      rw [q] at h
      intro m1 H1 xs E r1 rv
      unfold parK at h
      split at h
      · rename_i v w S' hq
        cases hq
        obtain ⟨x1, y1, rfl, rx, ry⟩ := rv.two
        exact ⟨x1, y1, rfl, h m1 H1 _ E r1 (((rs.mono E).set i (RVx.of rx)).set j (RVx.of ry))⟩
      · exact h.elim
      · rename_i hq; cases hq
      · rename_i hq; cases hq
    | ex c fs S1 => rw [q] at h; exact fun m1 H1 cls d E r1 rx => h m1 H1 σ cls d E r1 (rs.mono E) rx
    | no => rw [q] at h; exact h
theorem sl_par3 (i j l : Nat) (hc : X.calm = true) (hN : X.N.Nodup) (ha : PA X [a, b, c] (tLA X.K T ξ W ga)) (hij : i ≠ j := by decide) (hil : i ≠ l := by decide) (hjl : j ≠ l := by decide) (hi : X.N[i]? = some x := by rfl) (hj : X.N[j]? = some y := by rfl) (hl : X.N[l]? = some z := by rfl)
    (hx : X.env.scope.names.lookup x = some .local := by rfl) (hy : X.env.scope.names.lookup y = some .local := by rfl) (hz : X.env.scope.names.lookup z = some .local := by rfl)
    (hw : swappedStores [.Tuple [.Name x px, .Name y py, .Name z pz] kt pt] (.Tuple [a, b, c] k2 pt2) X.env = pure (some [x, y, z]) := by rfl)
    (hs : swapsWithSole [.Tuple [.Name x px, .Name y py, .Name z pz] kt pt] (.Tuple [a, b, c] k2 pt2) pos.line X.env = pure false := by rfl) :
    PS X (.Assign [.Tuple [.Name x px, .Name y py, .Name z pz] kt pt] (.Tuple [a, b, c] k2 pt2) pos) (tLS X.K T ξ W (lPar3 i j l ga)) :=
  ps_imp (ps_par3 hc hN hi hj hl hij hil hjl hx hy hz ha hw hs) fun D σ H ⟨m, S, ds, r, rs, h⟩ => by
    refine ⟨m, S, ds, r, rs, ?_⟩
    unfold lPar3 at h
    cases q : ga ds S with
    | ok vs S1 =>
      rw [q] at h
      intro m1 H1 xs E r1 rv
      unfold par3K at h
      split at h
      · rename_i u v w S' hq
        cases hq
        obtain ⟨x1, y1, z1, rfl, rx, ry, rz⟩ := rv.three
        exact ⟨x1, y1, z1, rfl, h m1 H1 _ E r1 ((((rs.mono E).set i (RVx.of rx)).set j (RVx.of ry)).set l (RVx.of rz))⟩
      · exact h.elim
      · rename_i hq; cases hq
      · rename_i hq; cases hq
    | ex c fs S1 => rw [q] at h; exact fun m1 H1 cls d E r1 rx => h m1 H1 σ cls d E r1 (rs.mono E) rx
    | no => rw [q] at h; exact h
end
end LL


set_option Elab.async false
set_option linter.all false
set_option maxRecDepth 100000
set_option maxHeartbeats 2000000
/-! The logical layer: own defs that are given a caught exception. -/
namespace LL
open PySem PySem.Spec PyProof.Rows L2
/-- a def's promise within a suite, p the exception that is handled -/
structure FnE (P : Program) (w : World) (K : PySem.W.Frag) (mg : Str → Option Value) (base : Heap) (k : Nat) (f : Addr) (fd : FuncData) (ps : List Str) (sp : Addr × Obj → Sp) : Prop where
  len : ∀ p vs H Q E, sp p vs H Q E → vs.length = ps.length
  run : ∀ (A : Around) (outer : List Env) (s : Shared) (H : Hp) (args : Args) (us : List Value) (vs : List V) (Q : VK) (E : XK) (p : Addr × Obj), L2H.RoomH k A → L2H.Hot1 A p → L2H.PinOk outer H s p → Env0 P w K mg base A outer s H →
    BindsTo s fd args (ps.zip us) → Vals vs us → sp p vs H Q E → codeAny (model P w) A (.call (.ref f) args) (CR (L2N.CX P w) outer P w H s Q E) s
/-- a def of an exception alone -/
noncomputable def mkE (N : Nat) (g : LS) : Fn := fun xs S => match xs with
  | [.exc c []] => match g (([LV.exc c []]).map some ++ List.replicate (N - 1) none) S with
    | .nx _ S' => gcF S (.ok .non S')
    | .rt v S' => gcF S (.ok v S')
    | _ => .no
  | _ => .no
/-- the promise: what a function tells of the exception -/
def spE (K : PySem.W.Frag) (T : Env1) (g : Fn) : Addr × Obj → Sp := fun p vs H Q E => vs = [.ref p.1] ∧ (∃ fl, p.2.data = .fields fl) ∧ ∃ (m : List Addr) (S : Sto) (c : Nat), L2N.Zn (.ref (T.ca c)) none p.2 ∧ RelS K T m S H ∧ PoE K T m H (g [.exc c []] S) Q E
abbrev HCx (P : Program) (w : World) (K : PySem.W.Frag) (mg : Str → Option Value) (base : Heap) (N : List Str) (qual : Str) (st : Stmt) (f : Addr) (cdv : Value) (A : Around) (outer : List Env) (s : Shared) (H : Hp) (E : XK) (p : Addr × Obj) : Cx :=
  (L2H.cxH (L2N.CX P w) P w K mg base N qual (defScope st) f cdv A outer s H E p).suite p.1 [p]
theorem _root_.L2H.RoomH.units {k : Nat} {A : Around} (r : L2H.RoomH k A) : A.units + 64 < cLine := by have := r.un; omega
theorem hot_suite {X : Cx} {p : Addr × Obj} {sts : List Stmt} {t : TS} (h1 : X.A.mark (some (.ref p.1)) = X.A) (h2 : X.calm = false) (h3 : X.pn = [p]) (h : PSs (X.suite p.1 [p]) sts t) : PSs X sts t := by
  have e : X.suite p.1 [p] = X.wish fun _ _ => False := by
    unfold Cx.suite Cx.wish
    rw [h1, ← h2, ← h3]
  rw [e] at h
  refine ⟨fun pins s σ H D I q => ?_⟩
  exact wpAny_mono (h.run pins s σ H D (I.wish _) q) (fun f s' hs => SP.unwish hs) fun _ _ z => z.elim
section
variable {P : Program} {w : World} {K : PySem.W.Frag} {mg : Str → Option Value} {base : Heap} {T : Env1}
theorem fn_okE {x qual : Str} {st : Stmt} {f : Addr} {fd : FuncData} {N : List Str} {y : Str} {k : Nat} {g : LS} (F : Fun K x qual st f fd) (S : FnScope N [y] (defScope st))
    (hbody : ∀ (cdv : Value) (A : Around) (outer : List Env) (s : Shared) (H : Hp) (E : XK) (p : Addr × Obj) (cls : Value), XIs (L2H.cxH (L2N.CX P w) P w K mg base N qual (defScope st) f cdv A outer s H E p) → L2N.Zn cls none p.2 → (∃ fl, p.2.data = .fields fl) → L2H.RoomH k (A.deeper (envOfC qual (defScope st) s.heap.objs.size f cdv)) →
      PSs (HCx P w K mg base N qual st f cdv A outer s H E p) (defBody st) (tLS K T (ξE T p.1 cls none) (fun _ _ _ _ => False) g)) :
    FnE P w K mg base (k + 1) f fd [y] (spE K T (mkE N.length g)) := by
  obtain ⟨oc, od, kV, doc, pm, an, cdv, ct, osl, rfl, lk, hcd⟩ := F.ex
  have hlen : ∀ p vs H Q E, spE K T (mkE N.length g) p vs H Q E → vs.length = ([y] : List Str).length := fun p vs H Q E h => by rw [h.1]; rfl
  refine ⟨hlen, fun A outer s H args us vs Q E p hr hot hpin e0 hb r hsp => ?_⟩
  have hl := hlen _ _ _ _ _ hsp
  obtain ⟨rfl, hfl, m, S0, c, hz, rel, hp⟩ := hsp
  have KX : K.In s.heap := e0.mod.kin.keeps fun b o e => (e0.bs b o e).1
  have room := hr.depth
  refine codeAny_call_function room (KX _ _ lk) rfl S.co S.gen rfl (PySem.W.codeRec_of KX hcd) (hb _ _ _ _ ?_)
  refine wpAny_newFunctionEnv_cells S.kind (fun ⟨n, v⟩ hy => ?_) fun env he s1 x1 => ?_
  · rcases S.par n (List.of_mem_zip hy).1 with q | q
    · exact .inl q
    · exact .inr ⟨q, PySem.W.cellsFrom_some _ _ _ (.inl q)⟩
  subst he
  have lim : s.heap.NoLimit := e0.mod.nolimit.keeps fun b o e => (e0.bs b o e).1
  refine ⟨lim.keeps x1.toInCall.keep, codeAny_func ?_⟩
  have I := L2H.inv_startH (CX := L2N.CX P w) (cd := cdv) (E := E) S hpin e0 hl r x1
  have body := hot_suite (X := L2H.cxH (L2N.CX P w) P w K mg base N qual (defScope st) f cdv A outer s H E p) (p := p) (by
    show (A.deeper _).mark _ = A.deeper _
    unfold Around.mark Around.deeper
    rw [hot.1]
    rfl) rfl rfl (hbody cdv A outer s H E p _ trivial hz hfl (hr.deeper _))
  have start : RSl K (ξE T p.1 (.ref (T.ca c)) none) m H (([LV.exc c []]).map some ++ List.replicate (N.length - 1) none) (L2.start N [.ref p.1]) := by
    refine ⟨by simp [L2.start], fun i v hi => ?_⟩
    cases i with
    | zero =>
      simp at hi
      subst hi
      exact ⟨.ref p.1, by simp [L2.start], p.1, rfl, rfl, rfl, rfl, rfl⟩
    | succ i =>
      simp [List.getElem?_replicate] at hi
  have hp2 : PoS K T (ξE T p.1 (.ref (T.ca c)) none) m H (g (([LV.exc c []]).map some ++ List.replicate (N.length - 1) none) S0) { nx := fun _ H' => Q .non H', rt := Q } (fun _ _ _ _ => False) := by
    unfold mkE at hp
    simp only at hp
    cases e : g (([LV.exc c []]).map some ++ List.replicate (N.length - 1) none) S0 with
    | nx ds S2 =>
      rw [e] at hp
      have h2 := gcF_sound rel hp
      exact fun m' H' σ' E' r' rs' => h2 m' H' .non E' r' rfl
    | rt v S2 =>
      rw [e] at hp
      have h2 := gcF_sound rel hp
      exact fun m' H' x E' r' rv' => h2 m' H' x E' r' rv'
    | ex c2 fs ds S2 => rw [e] at hp; exact hp.elim
    | bk ds S2 => rw [e] at hp; exact hp.elim
    | ct ds S2 => rw [e] at hp; exact hp.elim
    | no => rw [e] at hp; exact hp.elim
  refine wpAny_mono (body.run [] s1 _ H _ I ⟨m, S0, _, rel, start, hp2⟩) (fun fl s' hs => ?_) fun e s' hs => hs
  have fin : ∀ {σ' : L2.St} {H' : Hp} {v : V} {u : Value}, Inv (L2H.cxH (L2N.CX P w) P w K mg base N qual (defScope st) f cdv A outer s H E p) [] σ' H' s' → RelV v u → Q v H' → CE outer P w H s Q u s' :=
    fun {σ' H' v u} J rv q => ⟨v, H', J.os, J.bare, J.base, J.hok, rv, q⟩
  cases fl with
  | ret u => obtain ⟨v, σ', H', J, rv, q⟩ := hs; exact fin J rv q
  | next => obtain ⟨σ', H', J, q⟩ := hs; exact fin (v := V.non) (u := Value.none) J rfl q
  | brk => obtain ⟨_, _, _, q⟩ := hs; exact q.elim
  | cont => obtain ⟨_, _, _, q⟩ := hs; exact q.elim
end
/-! ### the call -/
def lCallE (g : Fn) (i : Nat) : LE := fun ds S => match ds[i]? with
  | some (some (.exc c fs)) => g [.exc c fs] S
  | _ => .no
theorem run_E {X : Cx} {k : Nat} {f : Addr} {fd : FuncData} {ps : List Str} {sp : Addr × Obj → Sp} {E : XK} {pins : List (Addr × Obj)} {σ : L2.St} {H : Hp} {s : Shared} {Q : VK} {us : List Value} {vs : List V} {p : Addr × Obj}
    (F : FnE X.prog X.w X.K X.mg X.base k f fd ps sp) (hr : L2H.RoomH k X.A) (hot : L2H.Hot1 X.A p) (hp : p ∈ X.pn) (hb : Binds X.K fd ps []) (hx : PassesAt (L2N.CX X.prog X.w) X σ E) (I : Inv X pins σ H s) (r : Vals vs us) (h : sp p vs H Q E) :
    wpAny (model X.prog X.w) X.A (call (.ref f) us) (EP X pins σ Q) X.xe s := by
  have hl := F.len _ _ _ _ _ h
  have b := hb s us I.kIn (by rw [List.append_nil, ← r.length]; exact hl)
  rw [List.append_nil] at b
  obtain ⟨P1, P2, P3, P4, P5⟩ := I.pin p (List.mem_append_left _ hp)
  have hpin : L2H.PinOk X.stack H s p := ⟨P1, P2, fun hm => (List.mem_cons.mp (I.stkSub p.1 hm)).elim P3 P4, P5⟩
  have ran := F.run X.A X.stack s H ⟨us, []⟩ us vs Q E p hr hot hpin I.env0 b r h
  refine wpAny_call (codeAny_mono ran fun fin s' hq => ?_)
  cases fin with
  | error e => exact hx pins H s e s' I hq
  | ok fl =>
    cases fl with
    | ret u => exact I.after hq
    | next => exact hq.elim
    | brk => exact hq.elim
    | cont => exact hq.elim
section
variable {X : Cx} {T : Env1} {W : WX} {k i : Nat} {f : Addr} {fd : FuncData} {ps : List Str} {x y : Str} {p pe pos : Pos} {g : Fn}
theorem pl_callE {a : Addr} {oe : Obj} {cls : Value} {d : Option Addr} {pn : List (Addr × Obj)} (hz : L2N.Zn cls d oe) (hv : ∃ vs, oe.data = .fields vs) (F : FnE X.prog X.w X.K X.mg X.base k f fd ps (spE X.K T g)) (hr : Room k X.A)
    (hg : Gl X x) (hm : X.mg x = some (.ref f)) (hk : PySem.W.keepIn X.K (.ref f) = true) (hb : Binds X.K fd ps []) (hN : X.N[i]? = some y := by rfl) (hvv : Vis X.env.scope y := by first | exact Or.inl rfl | exact Or.inr (Or.inl rfl) | exact Or.inr (Or.inr rfl))
    (hd : (y == ("__debug__" : Str)) = false := by decide) (hcd : (y == ("__classdict__" : Str)) = false := by decide) (hdb : (x == ("__debug__" : Str)) = false := by decide)
    (he : starEach [.Name y pe] X.env = (false, eval (.Name y pe) X.env) :: starEach [] X.env := by rfl) (hpl : (backTo pos (starEach [] X.env)).any (·.1) = false := by rfl) :
    PE (X.suite a ((a, oe) :: pn)) (.Call (.Name x p) [.Name y pe] [] pos) (tL X.K T (ξE T a cls d) (fun _ _ _ _ => False) (lCallE g i)) := by
  refine ⟨fun pins s σ H Q I h => ?_⟩
  obtain ⟨m, S, ds, r, rs, h⟩ := h
  unfold lCallE at h
  split at h
  · rename_i c fs hi
    obtain ⟨xx, h1, a', ex, ea, ec, ef, ed⟩ := rs.at_ i _ hi
    subst ex ea ec ef ed
    obtain ⟨fl, hfl⟩ := hv
    refine wpAny_Call_Name_kw (ld_glob (X := X.suite a' ((a', oe) :: pn)) I hg hm ?_ hdb)
    have arg := (pa_cons (X := X.suite a' ((a', oe) :: pn)) (pe_var (i := i) hN hvv hd hcd) pa_nil he).run pos pins s σ H (fun vs H1 => vs = [.ref a'] ∧ spE X.K T g (a', oe) vs H1 Q (fun _ _ _ => False)) I ⟨.ref a', h1, rfl, rfl, ⟨fl, hfl⟩, m, S, c, hz, r, h⟩
    refine PySem.W.callWith_K (h₀ := X.base) I.ok.mod.kin hk (thn arg fun us s1 ⟨vs, H1, I1, rv, ev, q⟩ => ⟨I1.kIn, ?_⟩) he hpl
    exact run_E (X := X.suite a' ((a', oe) :: pn)) F ⟨hr.dp, hr.un⟩ ⟨rfl, fl, hfl, hz.2.2 fl hfl⟩ List.mem_cons_self hb (fun _ _ _ _ _ _ z => by
      obtain ⟨_, _, _, _, _, _, _, _, _, _, _, _, z⟩ := z
      exact z.elim) I1 rv q
  · exact h.elim
end
theorem tk0 {X : Cx} : L2N.Takes X fun _ _ _ _ => False := fun u s' h => by
  obtain ⟨_, _, _, _, _, _, _, _, _, _, _, _, _, _, _, _, w⟩ := h
  exact w.elim
@[simp] theorem e_callE0 {g : Fn} {c : Nat} {fs : List LV} {ds : Sl} {S : Sto} : lCallE g 0 (some (.exc c fs) :: ds) S = g [.exc c fs] S := (rfl)
@[simp] theorem e_callES {g : Fn} {i : Nat} {x : Option LV} {ds : Sl} {S : Sto} : lCallE g (i + 1) (x :: ds) S = lCallE g i ds S := by simp [lCallE]
theorem e_fnE {N c : Nat} {g : LS} {S : Sto} : mkE N g [.exc c []] S = match g (some (.exc c []) :: List.replicate (N - 1) none) S with
    | .nx _ S' => gcF S (.ok .non S')
    | .rt v S' => gcF S (.ok v S')
    | _ => .no := (rfl)
end LL


set_option Elab.async false
set_option linter.all false
set_option maxRecDepth 100000
set_option maxHeartbeats 2000000
/-! The logical layer: reckoning with lists that are changed, dicts, loops with a count. -/
namespace LL
open PySem PySem.Spec PyProof.Rows L2
section
variable {S U : Sto} {n k : Nat} {xs ys : List LV} {u v w : LV} {o o' : LO} {ds : Sl} {j : Int}
theorem get_lt (h : S[n]? = some o) : n < S.length := (List.getElem?_eq_some_iff.mp h).1
theorem get_old (h : S[n]? = some o) : (S ++ U)[n]? = some o := by rw [List.getElem?_append_left (get_lt h)]; exact h
theorem get_set (h : S[n]? = some o) : (S.set n o')[n]? = some o' := List.getElem?_set_self (get_lt h)
theorem get_setn (h : k ≠ n) : (S.set k o')[n]? = S[n]? := List.getElem?_set_ne h
mutual
theorem low_mono {n m : Nat} (hm : n ≤ m) : ∀ v : LV, lowV n v = true → lowV m v = true
  | .ref k, h => by rw [low_ref] at h ⊢; exact decide_eq_true (Nat.lt_of_lt_of_le (of_decide_eq_true h) hm)
  | .tup xs, h => lows_mono hm xs h
  | .ktp xs, h => lows_mono hm xs h
  | .lst xs, h => lows_mono hm xs h
  | .non, _ => rfl
  | .bl _, _ => rfl
  | .int _, _ => rfl
  | .str _, _ => rfl
  | .ty _, _ => rfl
  | .scr _, _ => rfl
  | .cls _, _ => rfl
  | .exc _ _, _ => rfl
theorem lows_mono {n m : Nat} (hm : n ≤ m) : ∀ vs : List LV, lowVs n vs = true → lowVs m vs = true
  | [], _ => rfl
  | v :: vs, h => by
    rw [lows_cons, Bool.and_eq_true] at h ⊢
    exact ⟨low_mono hm v h.1, lows_mono hm vs h.2⟩
end
theorem fz_low {k n : Nat} : ∀ v : LV, fz n v = true → lowV k v = true := by
  induction n with
  | zero => intro v h; cases v <;> first | rfl | cases h
  | succ n ih =>
    intro v h
    cases v with
    | tup xs => exact lows_all.mpr fun v hv => ih v (List.all_eq_true.mp h v hv)
    | lst xs => exact lows_all.mpr fun v hv => ih v (List.all_eq_true.mp h v hv)
    | ref _ => cases h
    | ktp _ => cases h
    | _ => rfl
theorem fzs_low {k n : Nat} {vs : List LV} (h : vs.all (fz n) = true) : lowVs k vs = true := lows_all.mpr fun v hv => fz_low v (List.all_eq_true.mp h v hv)
theorem fz_mono {n m : Nat} : ∀ (hm : n ≤ m) (v : LV), fz n v = true → fz m v = true := by
  induction n generalizing m with
  | zero => intro _ v h; cases v <;> first | (cases m <;> exact h) | cases h
  | succ n ih =>
    intro hm v h
    obtain ⟨m, rfl⟩ : ∃ k, m = k + 1 := ⟨m - 1, by omega⟩
    cases v with
    | tup xs => exact List.all_eq_true.mpr fun v hv => ih (by omega) v (List.all_eq_true.mp h v hv)
    | lst xs => exact List.all_eq_true.mpr fun v hv => ih (by omega) v (List.all_eq_true.mp h v hv)
    | _ => first | exact h | cases h
theorem fzs_mono {n m : Nat} (hm : n ≤ m) {vs : List LV} (h : vs.all (fz n) = true) : vs.all (fz m) = true := List.all_eq_true.mpr fun v hv => fz_mono hm v (List.all_eq_true.mp h v hv)
theorem set_same (h : S[n]? = some o) : S.set n o = S := by
  apply List.ext_getElem?
  intro i
  by_cases e : n = i
  · subst e; rw [get_set h, h]
  · rw [get_setn e]
theorem bm1_r {m : OpM} {fr : LA} (h : S[n]? = some (.lst xs)) : bm1 "list" m fr ds (.ok (.ref n) S) = bm2 m (.ref n) (fr ds S) := bm1_ok (by simp [isT, kindL, h])
theorem bm0_r {m : OpM} (h : S[n]? = some (.lst xs)) : bm0 "list" m (.ok (.ref n) S) = m (.ref n) [] S := bm0_ok (by simp [isT, kindL, h])
theorem append_ok (h : S[n]? = some (.lst xs)) (hl : xs.length < 16777216) : appendL (.ref n) [v] S = .ok .non (S.set n (.lst (xs ++ [v]))) := by
  simp only [appendL, h]
  rw [if_pos (by unfold small; exact decide_eq_true hl)]
theorem clear_ok (h : S[n]? = some (.lst xs)) : clearL (.ref n) [] S = .ok .non (S.set n (.lst [])) := by simp only [clearL, h]
theorem len_r (h : S[n]? = some (.lst xs)) : lenL [.ref n] S = .ok (.int xs.length) S := by simp [lenL, lenO, h]
theorem iter_r (h : S[n]? = some (.lst xs)) : iterO (.ref n) S = .ok (itRef n xs.length) S := by simp [iterO, h]
theorem ix_v (h : lsO v S = some xs) (h0 : 0 ≤ j) (hu : xs[j.toNat]? = some u) : ixL v (.int j) S = .ok u S := by
  unfold lsO at h
  split at h
  · cases h
    simp only [ixL, ixO, atI_nn h0, hu]
  · rename_i n
    split at h
    · rename_i zs hn
      cases h
      exact ix_l hn h0 hu
    · cases h
  · cases h
theorem ix_last (h : lsO v S = some xs) (hu : xs[xs.length - 1]? = some u) : ixL v (.int (-1)) S = .ok u S := by
  unfold lsO at h
  split at h
  · cases h
    simp only [ixL, ixO, atI_m1, hu]
  · rename_i n
    split at h
    · rename_i zs hn
      cases h
      simp only [ixL, ixO, hn, atI_m1, hu]
    · cases h
  · cases h
theorem tuple_ls (h : lsO v S = some xs) : tupleL [v] S = .ok (.tup xs) S := by
  unfold lsO at h
  split at h
  · cases h; rfl
  · rename_i n
    split at h
    · rename_i zs hn
      cases h
      simp [tupleL, lsO, hn]
    · cases h
  · cases h
@[simp] theorem tuple_t : tupleL [.tup xs] S = .ok (.tup xs) S := (rfl)
theorem list_ls {t : Bool} (h : lsO v S = some xs) : listG t [v] S = newL t xs S := by
  unfold lsO at h
  split at h
  · cases h; rfl
  · rename_i n
    split at h
    · rename_i zs hn
      cases h
      simp only [listG, itemsO, lsO, hn]
    · cases h
  · cases h
@[simp] theorem isi_lv {n : String} : isiL [.lst xs, .ty n] S = (match isiT "list" n with | some b => .ok (.bl b) S | none => .no) := (rfl)
theorem isi_r {n : Nat} {k : String} (h : S[n]? = some (.lst xs)) : isiL [.ref n, .ty k] S = (match isiT "list" k with | some b => .ok (.bl b) S | none => .no) := by
  simp [isiL, kindL, h]
  all_goals rfl
end
/-! ### lists compared -/
theorem ls_cases {S : Sto} {v : LV} {xs : List LV} (h : lsO v S = some xs) : v = .lst xs ∨ ∃ n, v = .ref n ∧ S[n]? = some (.lst xs) := by
  unfold lsO at h
  split at h
  · cases h; exact .inl rfl
  · rename_i n
    split at h
    · rename_i zs hn
      cases h
      exact .inr ⟨n, rfl, hn⟩
    · cases h
  · cases h
theorem eq_ls {S : Sto} {v w : LV} {xs ys : List LV} (hv : lsO v S = some xs) (hw : lsO w S = some ys) (fx : xs.all (fz 59) = true) (fy : ys.all (fz 59) = true) : eqL v w S = .ok (.bl (veqs xs ys)) S := by
  have e := eq_fz (v := .lst xs) (w := .lst ys) (S := S) fx fy
  rcases ls_cases hv with rfl | ⟨n, rfl, hn⟩ <;> rcases ls_cases hw with rfl | ⟨k, rfl, hk⟩
  · exact e
  · rw [eq_refR hk]; exact e
  · rw [eq_refL hn]; exact e
  · rw [eq_refL hn, eq_refR hk]; exact e
theorem ne_ls {S : Sto} {v w : LV} {xs ys : List LV} (hv : lsO v S = some xs) (hw : lsO w S = some ys) (fx : xs.all (fz 59) = true) (fy : ys.all (fz 59) = true) : neL v w S = .ok (.bl !(veqs xs ys)) S := by
  have e := ne_fz (v := .lst xs) (w := .lst ys) (S := S) fx fy
  rcases ls_cases hv with rfl | ⟨n, rfl, hn⟩ <;> rcases ls_cases hw with rfl | ⟨k, rfl, hk⟩
  · exact e
  · rw [ne_refR hk]; exact e
  · rw [ne_refL hn]; exact e
  · rw [ne_refL hn, ne_refR hk]; exact e
theorem veqs_e (xs : List LV) : veqs xs [] = xs.isEmpty := by cases xs <;> rfl
theorem eq_e {S : Sto} {v : LV} {xs : List LV} (hv : lsO v S = some xs) (fx : xs.all (fz 59) = true) : eqL v (.lst []) S = .ok (.bl xs.isEmpty) S := by rw [eq_ls hv rfl fx rfl, veqs_e]
theorem ne_e {S : Sto} {v : LV} {xs : List LV} (hv : lsO v S = some xs) (fx : xs.all (fz 59) = true) : neL v (.lst []) S = .ok (.bl !xs.isEmpty) S := by rw [ne_ls hv rfl fx rfl, veqs_e]
theorem ints_fz {n : Nat} (is : List Int) : (is.map LV.int).all (fz n) = true := by simp
theorem blsL_map (bs : List Bool) : blsL (bs.map LV.bl) = some bs := by
  induction bs with
  | nil => rfl
  | cons b bs ih =>
    unfold blsL at ih ⊢
    rw [List.map_cons, List.map_cons]
    unfold seqO
    rw [ih]
theorem all_bls {S : Sto} {v : LV} {bs : List Bool} (hv : lsO v S = some (bs.map .bl)) : allL [v] S = .ok (.bl (bs.all id)) S := by
  simp only [allL, hv, blsL_map]
theorem in_ls {S : Sto} {v w : LV} {xs : List LV} (hw : lsO w S = some xs) (fv' : flatL v = true) (fx : xs.all flatL = true) : inL v w S = .ok (.bl (xs.any fun y => eqV (fv y) (fv v))) S := by
  have e : ∀ o : Option Bool, inO v w S = o → inL v w S = match o with | some b => .ok (.bl b) S | none => .no := fun o h => by unfold inL; rw [h]; all_goals rfl
  rcases ls_cases hw with rfl | ⟨n, rfl, hn⟩
  · rw [e (some (inV (fv v) (xs.map fv))) (by simp [inO, fv', fx])]
    simp [inV, List.any_map, Function.comp_def]
  · rw [e (some (inV (fv v) (xs.map fv))) (by simp [inO, inD, hn, fv', fx])]
    simp [inV, List.any_map, Function.comp_def]
theorem nin_ls {S : Sto} {v w : LV} {xs : List LV} (hw : lsO w S = some xs) (fv' : flatL v = true) (fx : xs.all flatL = true) : notinL v w S = .ok (.bl !(xs.any fun y => eqV (fv y) (fv v))) S := by
  have e : ∀ o : Option Bool, inO v w S = o → notinL v w S = match o with | some b => .ok (.bl !b) S | none => .no := fun o h => by unfold notinL; rw [h]; all_goals rfl
  rcases ls_cases hw with rfl | ⟨n, rfl, hn⟩
  · rw [e (some (inV (fv v) (xs.map fv))) (by simp [inO, fv', fx])]
    simp [inV, List.any_map, Function.comp_def]
  · rw [e (some (inV (fv v) (xs.map fv))) (by simp [inO, inD, hn, fv', fx])]
    simp [inV, List.any_map, Function.comp_def]
theorem set_old {S U : Sto} {n : Nat} {o o' : LO} (h : S[n]? = some o) : (S ++ U).set n o' = S.set n o' ++ U := List.set_append_left _ _ (get_lt h)
theorem ItIs.refm {α : Type} {S : Sto} {n : Nat} {ws : List α} {g : α → LV} (h : S[n]? = some (.lst (ws.map g))) : ItIs S (itRef n ws.length) (ws.map g) := by
  rw [← List.length_map (f := g)]
  exact .ref h
theorem strOk_of {z : Str} (h : ∀ c ∈ tl z, c < 128) : PyData.strOk z = true := (Fine.mk (n := z.length) (Nat.le_refl _) h).ok
def natV (k : Nat) : LV := .int k
@[simp] theorem natV_e (k : Nat) : natV k = .int k := (rfl)
/-- one of two orders -/
def waysL (x : Int) : List Int := if x % 2 = 0 then [0, 1] else [1, 0]
theorem ways2 (x : Int) (S : Sto) : ixL (.lst [.tup [.int 0, .int 1], .tup [.int 1, .int 0]]) (.int (x % 2)) S = .ok (.tup ((waysL x).map .int)) S := by
  have : x % 2 = 0 ∨ x % 2 = 1 := by omega
  rcases this with h | h <;> simp [ixL, ixO, waysL, h] <;> rfl
theorem ways2_b {x w : Int} (h : w ∈ waysL x) : w = 0 ∨ w = 1 := by
  unfold waysL at h
  split at h <;> simp at h <;> omega
theorem ix_any (xs : List LV) (j : Int) (h0 : 0 ≤ j) (h1 : j < xs.length) : ∃ v ∈ xs, ∀ S, ixL (.lst xs) (.int j) S = .ok v S := by
  have hj : j.toNat < xs.length := by omega
  exact ⟨xs[j.toNat], List.getElem_mem hj, fun S => ix_v (ls_l (S := S)) h0 (List.getElem?_eq_getElem hj)⟩
/-! ### texts times 0 or 1 -/
theorem mul_s1 {t : Bool} {a : Str} {S : Sto} (h : a.length ≤ 100000) : mulG t (.str a) (.int 1) S = .ok (.str a) S := by
  have : okRep a.length 1 = true := by
    unfold okRep
    rw [decide_eq_true (by decide), decide_eq_true (by decide), decide_eq_true (by show a.length * 1 ≤ _; omega)]
    rfl
  show (if okRep a.length 1 = true then R.ok (.str (Txt.mul a 1)) S else .no) = _
  rw [if_pos this]
  simp [Txt.mul]
theorem mul_s0 {t : Bool} {a : Str} {S : Sto} : mulG t (.str a) (.int 0) S = .ok (.str ("" : Str)) S := by
  have : okRep a.length 0 = true := by
    unfold okRep
    rw [decide_eq_true (by decide), decide_eq_true (by decide), decide_eq_true (by show a.length * 0 ≤ _; omega)]
    rfl
  show (if okRep a.length 0 = true then R.ok (.str (Txt.mul a 0)) S else .no) = _
  rw [if_pos this]
  rfl
@[simp] theorem app_e1 (a : Str) : ("" : Str) ++ a = a := tl_ext (by rw [tl_app]; rfl)
@[simp] theorem app_e2 (a : Str) : a ++ ("" : Str) = a := tl_ext (by rw [tl_app, tl_emp, List.append_nil])
@[simp] theorem len_emp : ("" : Str).length = 0 := (rfl)
theorem hit_0 {c : Nat} {b : Bool} {l : List (Nat × Bool)} : hitA ((c, b) :: l) c = some b := by simp [hitA]
/-! ### months by their days -/
theorem mon_lt {k l : Int} (h : 0 ≤ k) (h2 : k < l) : monL k < monF l := by
  unfold monL monF
  have bk := monM_b k
  have bl := monM_b l
  have hb := befo_b (y := monY l) bl.1 bl.2
  by_cases c : monY k < monY l
  · have h1 := befo_le (y := monY k) bk.1 bk.2
    have h2 := ahead_step (y := monY k) (by unfold monY; omega)
    have h3 := ahead_lt (y := monY k) (z := monY l) (by unfold monY; omega) c
    omega
  · have e : monY k = monY l := by unfold monY at c ⊢; omega
    have := befo_mono (y := monY l) (m := monM k) (n := monM l) bk.1 (by unfold monY at e; unfold monM; omega) bl.2
    rw [e]
    omega
theorem day_mon {y m p k : Int} (D : Day y m p) (h : 0 ≤ k) : k < 12 * (y - 2000) + m - 1 ↔ monL k < dayN y m p := by
  obtain ⟨e1, e2⟩ := mon_of y m D.m0 D.m1
  have y0 := D.y0
  have m0 := D.m0
  have p0 := D.p0
  have p1 := D.p1
  generalize hK : 12 * (y - 2000) + m - 1 = K at *
  have hd : dayN y m p = monF K + p - 1 := by rw [← e1, ← e2]; rfl
  have hl : monL K = monF K + mlen y m - 1 := by unfold monL; rw [e1, e2]
  constructor
  · intro c
    have := mon_lt h c
    omega
  · intro c
    rcases Int.lt_trichotomy k K with z | z | z
    · exact z
    · subst z; omega
    · have := mon_lt (k := K) (by omega) z
      have b := mlen_b (y := monY k) (monM_b k).1 (monM_b k).2
      have : monL k = monF k + mlen (monY k) (monM k) - 1 := rfl
      omega
theorem monF_nn {k : Int} (h : 0 ≤ k) : 0 ≤ monF k := by
  have := befo_b (y := monY k) (monM_b k).1 (monM_b k).2
  have h2 := ahead_mono (y := 2000) (z := monY k) (by omega) (by unfold monY; omega)
  rw [ahead_2000] at h2
  unfold monF
  omega
theorem monL_le {k : Int} (h : 0 ≤ k) (h2 : k ≤ 4799) : monL k ≤ 146096 := by
  by_cases c : k = 4799
  · subst c; rw [monL_4799]; exact Int.le_refl _
  · have := mon_lt h (l := 4799) (by omega)
    have e := monL_4799
    have : monL 4799 = monF 4799 + mlen (monY 4799) (monM 4799) - 1 := rfl
    have b := mlen_b (y := monY 4799) (monM_b 4799).1 (monM_b 4799).2
    omega
theorem monF_le (k : Int) : monF k ≤ monL k := by
  have b := mlen_b (y := monY k) (monM_b k).1 (monM_b k).2
  have : monL k = monF k + mlen (monY k) (monM k) - 1 := rfl
  omega
/-! ### dicts -/
section
variable {S : Sto} {n : Nat} {kvs : List (Key × LV)} {v w : LV} {i : Int} {k : Key}
theorem isDc_ref (h : S[n]? = some (.dct kvs)) : isDc (.ref n) S = true := by simp [isDc, h, dKs]
theorem got_d (h : S[n]? = some (.dct kvs)) (hk : keyL v = some k) : gotO (.ref n) v w S = .ok ((getK kvs k).getD w) S := by
  simp [gotO, getOv, h, dKs, hk]
theorem put_d (h : S[n]? = some (.dct kvs)) (hk : keyL v = some k) (hs : kvs.length < 16777216) : putO (.ref n) v w S = some (S.set n (.dct (putL kvs k w))) := by
  simp only [putO, h, hk]
  rw [if_pos (by unfold small; exact decide_eq_true hs)]
theorem in_d (h : S[n]? = some (.dct kvs)) (hk : keyL v = some k) : inL v (.ref n) S = .ok (.bl (getK kvs k).isSome) S := by
  simp [inL, inO, inD, h, getOv, dKs, hk]
theorem nin_d (h : S[n]? = some (.dct kvs)) (hk : keyL v = some k) : notinL v (.ref n) S = .ok (.bl !(getK kvs k).isSome) S := by
  simp [notinL, inO, inD, h, getOv, dKs, hk]
end
def get1 (fk : LE) (ds : Sl) : R → R
  | .ok v S => if isDc v S = true then (fk ds S).bind fun u S2 => gotO v u .non S2 else .no
  | .ex c fs S => .ex c fs S
  | .no => .no
def get1b (v : LV) : R → R
  | .ok u S => gotO v u .non S
  | .ex c fs S => .ex c fs S
  | .no => .no
@[simp] theorem e_get1 {fo fk : LE} {ds : Sl} {S : Sto} : lGet1 fo fk ds S = get1 fk ds (fo ds S) := by unfold lGet1; cases fo ds S <;> rfl
theorem get1_ok {fk : LE} {ds : Sl} {S : Sto} {v : LV} (h : isDc v S = true) : get1 fk ds (.ok v S) = get1b v (fk ds S) := by
  unfold get1
  simp only [h, if_true]
  cases fk ds S <;> rfl
@[simp] theorem get1b_ok {v u : LV} {S : Sto} : get1b v (.ok u S) = gotO v u .non S := (rfl)
/-! ### methods -/
theorem meth_t0 {c n : Nat} {g : Fn} {l : List (Nat × Fn)} {fa : LA} {ds : Sl} {S : Sto} {vs : List LV} (h : S[n]? = some (.ins c vs)) : meth1 (tabA ((c, g) :: l)) fa ds (.ok (.ref n) S) = meth2 g (.ref n) (fa ds S) := meth1_ok h (by simp [tabA])
theorem meth_t1 {c c' n : Nat} {g : Fn} {l : List (Nat × Fn)} {fa : LA} {ds : Sl} {S : Sto} {vs : List LV} (h : S[n]? = some (.ins c vs)) (e : c' ≠ c) : meth1 (tabA ((c', g) :: l)) fa ds (.ok (.ref n) S) = meth1 (tabA l) fa ds (.ok (.ref n) S) := by
  show methK _ _ _ _ _ = methK _ _ _ _ _
  simp [methK, clsO, h, tabA, e]
@[simp] theorem e_rng3 {fr : LA} {ds : Sl} {S : Sto} : lRng3 fr ds S = ita1 rng3O (fr ds S) := by unfold lRng3; cases fr ds S <;> rfl
@[simp] theorem e_enum {fr : LA} {ds : Sl} {S : Sto} : lEnum fr ds S = ita1 enumO (fr ds S) := by unfold lEnum; cases fr ds S <;> rfl
/-! ### for, with a count -/
theorem forK_idx {α β J : Type} {lg : LG} {fb : LS} {l : LIt} {ws : List β} {g : β → LV} (D : α → J → Sl) (T : α → Sto) (step : α → β → Except RS α) (P : Nat → α → Prop) (hl : ∀ i a, P i a → ItIs (T a) l (ws.map g))
    (h : ∀ i b, ws[i]? = some b → ∀ a j, P i a → match step a b with
      | .ok a' => P (i + 1) a' ∧ ∃ j', turn lg fb (g b) (D a j) (T a) = .nx (D a' j') (T a')
      | .error r => turn lg fb (g b) (D a j) (T a) = r ∧ (match r with | .nx _ _ => False | .ct _ _ => False | .bk _ _ => False | _ => True)) :
    ∀ (k i : Nat) (a : α) (j : J), i + k = ws.length → P i a → match (ws.drop i).foldlM step a with
      | .ok a' => P ws.length a' ∧ ∃ j', forK l lg fb k i (D a j) (T a) = .nx (D a' j') (T a')
      | .error r => forK l lg fb k i (D a j) (T a) = r
  | 0, i, a, j, e, p => by
    have : ws.drop i = [] := List.drop_eq_nil_of_le (by omega)
    rw [this]
    have ei : i = ws.length := by omega
    subst ei
    refine ⟨p, j, ?_⟩
    unfold forK
    rw [if_pos (hl _ a p).fine]
  | k + 1, i, a, j, e, p => by
    have hi : i < ws.length := by omega
    rw [List.drop_eq_getElem_cons hi, List.foldlM_cons]
    have q := h i ws[i] (List.getElem?_eq_getElem hi) a j p
    have it := (hl i a p).item (i := i) (v := g ws[i]) (by rw [List.getElem?_map, List.getElem?_eq_getElem hi]; rfl)
    unfold forK
    rw [it]
    simp only
    unfold turn at q
    cases hd : lg (g ws[i]) (T a) (D a j) with
    | none =>
      rw [hd] at q
      cases hs : step a ws[i] with
      | ok a' =>
        rw [hs] at q
        obtain ⟨_, _, q⟩ := q
        cases q
      | error r =>
        rw [hs] at q
        exact q.1
    | some ds1 =>
      rw [hd] at q
      simp only at q ⊢
      cases hs : step a ws[i] with
      | ok a' =>
        rw [hs] at q
        obtain ⟨pa, j', q⟩ := q
        have ih := forK_idx D T step P hl h k (i + 1) a' j' (by omega) pa
        show match (ws.drop (i + 1)).foldlM step a' with | .ok a' => _ | .error r => _
        cases hf : fb ds1 (T a) with
        | nx ds2 S2 =>
          rw [hf] at q
          cases q
          exact ih
        | ct ds2 S2 =>
          rw [hf] at q
          cases q
          exact ih
        | _ => rw [hf] at q; cases q
      | error r =>
        rw [hs] at q
        obtain ⟨q, q2⟩ := q
        show (match fb ds1 (T a) with | .nx ds2 S2 => forK l lg fb k (i + 1) ds2 S2 | .ct ds2 S2 => forK l lg fb k (i + 1) ds2 S2 | .bk ds2 S2 => .nx ds2 S2 | r => r) = r
        cases hf : fb ds1 (T a) with
        | nx ds2 S2 => rw [hf] at q; subst q; exact q2.elim
        | ct ds2 S2 => rw [hf] at q; subst q; exact q2.elim
        | bk ds2 S2 => rw [hf] at q; subst q; exact q2.elim
        | _ => rw [hf] at q; exact q
/-- each turn a step that keeps what holds behind so many -/
theorem for_idx {α β J : Type} {lg : LG} {fb : LS} {l : LIt} {ws : List β} {g : β → LV} (D : α → J → Sl) (T : α → Sto) (f : α → β → α) (P : Nat → α → Prop) (hl : ∀ i a, P i a → ItIs (T a) l (ws.map g))
    (h : ∀ i b, ws[i]? = some b → ∀ a j, P i a → P (i + 1) (f a b) ∧ ∃ j', turn lg fb (g b) (D a j) (T a) = .nx (D (f a b) j') (T (f a b))) (a : α) (j : J) (p : P 0 a) :
    P ws.length (ws.foldl f a) ∧ ∃ j', forS lg fb (D a j) (.ok l (T a)) = .nx (D (ws.foldl f a) j') (T (ws.foldl f a)) := by
  have := forK_idx (lg := lg) (fb := fb) (l := l) (ws := ws) (g := g) D T (fun a b => .ok (f a b)) P hl (fun i b hb a j p => h i b hb a j p) ws.length 0 a j (by omega) p
  rw [List.drop_zero, foldlM_ok] at this
  have e : forS lg fb (D a j) (.ok l (T a)) = forK l lg fb ws.length 0 (D a j) (T a) := by
    show forK l lg fb l.n 0 _ _ = _
    rw [(hl 0 a p).n, List.length_map]
  rw [e]
  exact this
/-- .. each turn some step -/
theorem forK_rel {α β J : Type} {lg : LG} {fb : LS} {l : LIt} {ws : List β} {g : β → LV} (D : α → J → Sl) (T : α → Sto) (P : Nat → α → Prop) (hl : ∀ i a, P i a → ItIs (T a) l (ws.map g))
    (h : ∀ i b, ws[i]? = some b → ∀ a j, P i a → ∃ a', P (i + 1) a' ∧ ∃ j', turn lg fb (g b) (D a j) (T a) = .nx (D a' j') (T a')) :
    ∀ (k i : Nat) (a : α) (j : J), i + k = ws.length → P i a → ∃ a', P ws.length a' ∧ ∃ j', forK l lg fb k i (D a j) (T a) = .nx (D a' j') (T a')
  | 0, i, a, j, e, p => by
    have ei : i = ws.length := by omega
    subst ei
    refine ⟨a, p, j, ?_⟩
    unfold forK
    rw [if_pos (hl _ a p).fine]
  | k + 1, i, a, j, e, p => by
    have hi : i < ws.length := by omega
    obtain ⟨a', pa, j', q⟩ := h i ws[i] (List.getElem?_eq_getElem hi) a j p
    have it := (hl i a p).item (i := i) (v := g ws[i]) (by rw [List.getElem?_map, List.getElem?_eq_getElem hi]; rfl)
    obtain ⟨a2, p2, j2, q2⟩ := forK_rel D T P hl h k (i + 1) a' j' (by omega) pa
    refine ⟨a2, p2, j2, ?_⟩
    unfold forK
    rw [it]
    simp only
    unfold turn at q
    cases hd : lg (g ws[i]) (T a) (D a j) with
    | none => rw [hd] at q; cases q
    | some ds1 =>
      rw [hd] at q
      simp only at q ⊢
      cases hf : fb ds1 (T a) with
      | nx ds2 S2 => rw [hf] at q; cases q; exact q2
      | ct ds2 S2 => rw [hf] at q; cases q; exact q2
      | _ => rw [hf] at q; cases q
theorem for_rel {α β J : Type} {lg : LG} {fb : LS} {l : LIt} {ws : List β} {g : β → LV} (D : α → J → Sl) (T : α → Sto) (P : Nat → α → Prop) (hl : ∀ i a, P i a → ItIs (T a) l (ws.map g))
    (h : ∀ i b, ws[i]? = some b → ∀ a j, P i a → ∃ a', P (i + 1) a' ∧ ∃ j', turn lg fb (g b) (D a j) (T a) = .nx (D a' j') (T a')) (a : α) (j : J) (p : P 0 a) :
    ∃ a', P ws.length a' ∧ ∃ j', forS lg fb (D a j) (.ok l (T a)) = .nx (D a' j') (T a') := by
  have e : forS lg fb (D a j) (.ok l (T a)) = forK l lg fb ws.length 0 (D a j) (T a) := by
    show forK l lg fb l.n 0 _ _ = _
    rw [(hl 0 a p).n, List.length_map]
  rw [e]
  exact forK_rel D T P hl h ws.length 0 a j (by omega) p
/-- .. each turn leaves the store -/
theorem for_all {β J : Type} {lg : LG} {fb : LS} {l : LIt} {S : Sto} {ws : List β} {g : β → LV} (D : J → Sl) (hl : ItIs S l (ws.map g)) (h : ∀ b ∈ ws, ∀ j, ∃ j', turn lg fb (g b) (D j) S = .nx (D j') S) (j : J) : ∃ j', forS lg fb (D j) (.ok l S) = .nx (D j') S :=
  (for_fold (lg := lg) (fb := fb) (l := l) (ws := ws) (g := g) (fun (_ : Unit) => D) (fun _ => S) (fun _ _ => ()) (fun _ => True) (fun _ _ => hl) (fun b hb _ j _ => ⟨trivial, h b hb j⟩) () j trivial).2
/-- .. turn by turn -/
theorem forL_cons {lg : LG} {fb : LS} {v : LV} {xs : List LV} {ds ds1 : Sl} {S S1 : Sto} (h : turn lg fb v ds S = .nx ds1 S1) : forL lg fb (v :: xs) ds S = forL lg fb xs ds1 S1 := by
  unfold turn at h
  conv => lhs; unfold forL
  cases hd : lg v S ds with
  | none => rw [hd] at h; cases h
  | some d =>
    rw [hd] at h
    simp only at h ⊢
    cases hf : fb d S with
    | nx ds2 S2 => rw [hf] at h; cases h; rfl
    | ct ds2 S2 => rw [hf] at h; cases h; rfl
    | _ => rw [hf] at h; cases h
theorem forL_nil {lg : LG} {fb : LS} {ds : Sl} {S : Sto} : forL lg fb [] ds S = .nx ds S := (rfl)
theorem seqO_app {α : Type} {a b : List (Option α)} {x y : List α} (h : seqO a = some x) (k : seqO b = some y) : seqO (a ++ b) = some (x ++ y) := by
  induction a generalizing x with
  | nil => cases h; exact k
  | cons o a ih =>
    cases o with
    | none => unfold seqO at h; cases h
    | some u =>
      unfold seqO at h
      cases hs : seqO a with
      | none => rw [hs] at h; cases h
      | some z =>
        rw [hs] at h
        cases h
        rw [List.cons_append]
        unfold seqO
        rw [ih hs]
        rfl
/-- what was older can't let go of what is new: all is kept -/
theorem seqO_none {α : Type} : ∀ {l : List (Option α)}, none ∈ l → seqO l = none
  | x :: l, h => by
    unfold seqO
    rcases List.mem_cons.mp h with e | e
    · rw [← e]
    · cases x with
      | none => rfl
      | some y => simp only [seqO_none e]
theorem gc_keep {S S' : Sto} {v : LV} {i : Nat} {o : LO} (hi : i < S.length) (h1 : S'[i]? = some o) (h2 : S[i]? ≠ some o) (h3 : frzO S' S.length S'.length 60 o = none) : gcF S (.ok v S') = .ok v S' := by
  have : gcS S S' S'.length = none := seqO_none (List.mem_map.mpr ⟨i, List.mem_range.mpr hi, by
    unfold gcO
    rw [if_neg (by rw [h1]; exact fun e => h2 e.symm), h1]
    exact h3⟩)
  unfold gcF
  simp only [this]
/-- a turn -/
theorem turn_nm {i : Nat} {fb : LS} {v : LV} {ds : Sl} {S : Sto} : turn (gNm i) fb v ds S = match fb (ds.set i (some v)) S with
    | .ct ds2 S2 => .nx ds2 S2
    | r => r := (rfl)
end LL


set_option Elab.async false
set_option linter.all false
set_option maxRecDepth 100000
set_option maxHeartbeats 2000000
/-! The logical layer: sorted. -/
namespace LL
open PySem PySem.Spec PyProof.Rows L2
/-- a value that holds no number, of so much depth -/
def dz : Nat → LV → Bool
  | _, .non => true
  | _, .bl _ => true
  | _, .int _ => true
  | _, .str _ => true
  | f + 1, .tup xs => xs.all (dz f)
  | f + 1, .lst xs => xs.all (dz f)
  | _, _ => false
theorem dz_pds {S : Sto} {f : Nat} (ih : ∀ v, dz f v = true → dat S f v = some (pd v)) : ∀ xs : List LV, xs.all (dz f) = true → seqO (xs.map (dat S f)) = some (pds xs)
  | [], _ => rfl
  | x :: xs, h => by
    obtain ⟨h1, h2⟩ := all_cons h
    rw [List.map_cons, ih x h1]
    unfold seqO
    rw [dz_pds ih xs h2]
    rfl
theorem dz_pd {S : Sto} : ∀ (f : Nat) (v : LV), dz f v = true → dat S f v = some (pd v) := by
  intro f
  induction f with
  | zero => intro v h; cases v <;> first | rfl | cases h
  | succ f ih =>
    intro v h
    cases v with
    | tup xs => unfold dat; rw [dz_pds ih xs h]; rfl
    | lst xs => unfold dat; rw [dz_pds ih xs h]; rfl
    | _ => first | rfl | cases h
theorem dz_deps {f : Nat} (ih : ∀ v, dz f v = true → PyData.depth (pd v) ≤ f) : ∀ xs : List LV, xs.all (dz f) = true → PyData.depthAll (pds xs) ≤ f
  | [], _ => Nat.zero_le _
  | x :: xs, h => by
    obtain ⟨h1, h2⟩ := all_cons h
    have a := ih x h1
    have b := dz_deps ih xs h2
    unfold pds PyData.depthAll
    omega
theorem dz_dep : ∀ (f : Nat) (v : LV), dz f v = true → PyData.depth (pd v) ≤ f := by
  intro f
  induction f with
  | zero => intro v h; cases v <;> first | exact Nat.le_refl _ | exact Nat.zero_le _ | cases h
  | succ f ih =>
    intro v h
    cases v with
    | tup xs =>
      have a := dz_deps ih xs h
      unfold pd PyData.depth
      omega
    | lst xs =>
      have a := dz_deps ih xs h
      unfold pd PyData.depth
      omega
    | _ => first | exact Nat.zero_le _ | cases h
def isNT : LV → Bool
  | .tup (_ :: _) => true
  | _ => false
def isNoT : LV → Bool
  | .non => false
  | .tup _ => false
  | .bl _ => true
  | .int _ => true
  | .str _ => true
  | .lst _ => true
  | _ => false
def alk (xs : List LV) : Bool := xs.all fun x => xs.all fun y => PySem.W.alike (pd x) (pd y)
/-- what sorted may be asked for -/
def srtOk (xs : List LV) : Bool := xs.all (dz 60) && alk xs && (xs.all isNT || xs.all isNoT) && small xs.length
noncomputable def sortV (xs : List LV) : List LV := xs.mergeSort (PySem.W.dataLe false pd)
theorem alk_ok {xs : List LV} (h : alk xs = true) : PySem.W.AllAlike (xs.map pd) := by
  intro d hd d' hd'
  obtain ⟨x, hx, rfl⟩ := List.mem_map.mp hd
  obtain ⟨y, hy, rfl⟩ := List.mem_map.mp hd'
  exact List.all_eq_true.mp (List.all_eq_true.mp h x hx) y hy
theorem sortable_ok {xs : List LV} (h : (xs.all isNT || xs.all isNoT) = true) : PySem.W.Sortable (xs.map pd) := by
  rcases Bool.or_eq_true_iff.mp h with h | h
  · refine .inl fun d hd => ?_
    obtain ⟨x, hx, rfl⟩ := List.mem_map.mp hd
    have q := List.all_eq_true.mp h x hx
    unfold isNT at q
    split at q
    · exact ⟨_, _, rfl⟩
    · cases q
  · refine .inr fun d hd => ?_
    obtain ⟨x, hx, rfl⟩ := List.mem_map.mp hd
    have q := List.all_eq_true.mp h x hx
    cases x <;> first | (simp [isNoT] at q; done) | (unfold pd; exact ⟨(fun z => by cases z), (fun _ z => by cases z)⟩)
def rSortedD (K : PySem.W.Frag) : List V → Hp → VK → Prop := fun vs H Q => ∃ (a : Addr) (bs : List (LV × V)), vs = [V.ref a] ∧ SqL K H a (bs.map (·.2)) ∧ (∀ b ∈ bs, Dp K H b.2 (pd b.1)) ∧ srtOk (bs.map (·.1)) = true ∧
  ∀ p, H p = none → Q (.ref p) (upd H p (.lst ((bs.mergeSort (PySem.W.dataLe false fun b => pd b.1)).map (·.2))))
theorem each_of : ∀ {bs : List (LV × V)} {us : List Value}, Vals (bs.map (·.2)) us → PySem.W.EachIs (fun u (b : LV × V) => RelV b.2 u) us bs
  | [], us, h => by
    cases h
    exact .nil
  | b :: bs, us, h => by
    cases h with
    | cons h1 h2 => exact .cons h1 (each_of h2)
theorem each_to : ∀ {bs : List (LV × V)} {us : List Value}, PySem.W.EachIs (fun u (b : LV × V) => RelV b.2 u) us bs → Vals (bs.map (·.2)) us
  | [], us, h => by
    cases h
    exact .nil
  | b :: bs, us, h => by
    cases h with
    | cons h1 h2 => exact .cons h1 (each_to h2)
theorem each_reads {X : Cx} {pins : List (Addr × Obj)} {σ : L2.St} {H : Hp} {s : Shared} (I : Inv X pins σ H s) : ∀ {bs : List (LV × V)} {us : List Value}, Vals (bs.map (·.2)) us → (∀ b ∈ bs, Dp X.K H b.2 (pd b.1)) →
    PySem.W.EachIs (fun u (b : LV × V) => ∃ as, Reads s.heap u (pd b.1) as) us bs
  | [], us, h, _ => by
    cases h
    exact .nil
  | b :: bs, us, h, hd => by
    cases h with
    | cons h1 h2 => exact .cons (Dp.reads I _ _ _ (hd b List.mem_cons_self) h1) (each_reads I h2 fun c hc => hd c (List.mem_cons_of_mem _ hc))
theorem srt_split {xs : List LV} (h : srtOk xs = true) : xs.all (dz 60) = true ∧ alk xs = true ∧ (xs.all isNT || xs.all isNoT) = true ∧ xs.length ≤ sizeLine := by
  unfold srtOk at h
  rw [Bool.and_eq_true, Bool.and_eq_true, Bool.and_eq_true] at h
  exact ⟨h.1.1.1, h.1.1.2, h.1.2, small_ok h.2⟩
theorem map_pd (bs : List (LV × V)) : (bs.map fun b => pd b.1) = (bs.map (·.1)).map pd := by rw [List.map_map]; rfl
theorem cr_sortedD {X : Cx} (hu : X.A.units + 64 < cLine) : CallR X (.builtin "sorted") (rSortedD X.K) := by
  intro pins s σ H vs us Q I r h
  obtain ⟨a, bs, rfl, hs, hd, hk, q⟩ := h
  obtain ⟨k1, k2, k3, k4⟩ := srt_split hk
  obtain ⟨its, rv, hl, hz⟩ := I.list hs
  rw [Vals.ref1 r]
  refine PySem.W.sorted_data (R := fun u (b : LV × V) => RelV b.2 u) (enc := fun b : LV × V => pd b.1) hl.isList (each_of rv) (each_reads I rv hd) (by rw [map_pd]; exact alk_ok k2) (by rw [map_pd]; exact sortable_ok k3) (by rw [List.length_map] at k4; exact k4)
    (fun b hb => ?_) fun out hlen ho => ?_
  · have q := dz_dep 60 b.1 (List.all_eq_true.mp k1 b.1 (List.mem_map.mpr ⟨b, hb, rfl⟩))
    show X.A.units + 2 + _ < cLine
    omega
  · obtain ⟨ep, he'⟩ := PyProof.Rows.sortedAll_at s.heap its out.toArray
    have hlen : ((bs.mergeSort (PySem.W.dataLe false fun b => pd b.1)).map (·.2)).length ≤ sizeLine := by
      rw [List.length_map, List.length_mergeSort]
      rw [List.length_map] at k4
      exact k4
    exact ⟨.ref _, upd H (s.heap.objs.size + 1) (.lst _), I.laid (t' := s.toks) (fun _ _ => PyProof.Rows.sortedAll_old) (Nat.le_succ _) ⟨hlen, out, ep, each_to ho, he'⟩, rfl, q _ (I.hok.fresh (Nat.le_succ _))⟩
def rSrtS : List V → Hp → VK → Prop := fun xs H Q => ∃ (a : Addr) (kvs : List (Key × V)) (ks : List Str), xs = [.ref a] ∧ Rd H a (.dK kvs) ∧ kvs.map (·.1) = ks.map Sum.inr ∧ ks.length < 64 ∧
    ∀ ys p, ys.Perm ks → sortedS ys = true → H p = none → Q (.ref p) (upd H p (.lst (ys.map V.str)))
def rSrtI : List V → Hp → VK → Prop := fun xs H Q => ∃ (a : Addr) (kvs : List (Key × V)) (ks : List Int), xs = [.ref a] ∧ Rd H a (.dK kvs) ∧ kvs.map (·.1) = ks.map Sum.inl ∧ ks.length < 64 ∧
    ∀ (ys : List Int) (p : Addr), ys.Perm ks → ys.Pairwise (· ≤ ·) → H p = none → Q (.ref p) (upd H p (.lst (ys.map V.int)))
def rSortedU (K : PySem.W.Frag) : List V → Hp → VK → Prop := fun xs H Q => rSortedD K xs H Q ∨ rSrtS xs H Q
theorem cr_sortedU {X : Cx} (hu : X.A.units + 64 < cLine) (hc : X.calm = true) : CallR X (.builtin "sorted") (rSortedU X.K) := CallR.or (cr_sortedD hu) (call_sortedD hc)
noncomputable def sortS (zs : List Str) : List Str := zs.mergeSort fun a b => decide (a.cps.toList ≤ b.cps.toList)
theorem sortV_strs (zs : List Str) : sortV (zs.map .str) = (sortS zs).map .str := by
  unfold sortV sortS
  refine (PySem.W.sort_maps (f := LV.str) (r := fun a b => decide (a.cps.toList ≤ b.cps.toList)) (s := PySem.W.dataLe false pd) (l := zs) fun a _ b _ => ?_).symm
  have := congrFun (congrFun (PySem.W.dataLe_str (fun b : Str => b)) a) b
  exact this.symm
end LL
namespace LL
open PySem PySem.Spec PyProof.Rows L2
section
variable {K : PySem.W.Frag} {T : Env1}
/-! ### sorted of lists, of dicts -/
noncomputable def sortedG (t : Bool) : OpN
  | [v], S => match lsO v S with
    | some xs => if srtOk xs = true then newL t (sortV xs) S else .no
    | none => .no
  | _, _ => .no
noncomputable abbrev sortedL := sortedG false
noncomputable abbrev sortedT := sortedG true
theorem zip_rel {m : List Addr} {H : Hp} : ∀ {xs : List LV} {ys : List V}, RVs K m H xs ys → ∀ b ∈ xs.zip ys, RV K m H b.1 b.2
  | [], _, h, b, hb => by simp at hb
  | x :: xs, ys, h, b, hb => by
    unfold RVs at h
    obtain ⟨y, r, rfl, h1, h2⟩ := h
    rw [List.zip_cons_cons] at hb
    rcases List.mem_cons.mp hb with rfl | hb
    · exact h1
    · exact zip_rel h2 b hb
theorem rel_map {m : List Addr} {H : Hp} : ∀ {bs : List (LV × V)}, (∀ b ∈ bs, RV K m H b.1 b.2) → RVs K m H (bs.map (·.1)) (bs.map (·.2))
  | [], _ => RVs.nil
  | b :: bs, h => RVs.cons (h b List.mem_cons_self) (rel_map fun c hc => h c (List.mem_cons_of_mem _ hc))
theorem cl_sorted {t : Bool} : CallL K T (rSortedD K) (sortedG t) := fun m S H vs xs Q W r rv h => by
  unfold sortedG at h
  split at h
  · obtain ⟨x, rfl, rx⟩ := rv.one
    split at h
    · rename_i ys hn
      split at h
      · rename_i hk
        obtain ⟨a, zs, rfl, ha, hs⟩ := lsO_ok r rx hn
        have hl := hs.len
        have e1 : (ys.zip zs).map (·.1) = ys := List.map_fst_zip (by omega)
        have e2 : (ys.zip zs).map (·.2) = zs := List.map_snd_zip (by omega)
        have hr := zip_rel hs
        refine ⟨a, ys.zip zs, rfl, SqL.of (by rw [ha, e2]), fun b hb => ?_, by rw [e1]; exact hk, ?_⟩
        · obtain ⟨k1, _⟩ := srt_split hk
          have hm : b.1 ∈ ys := by
            have := List.mem_map_of_mem (f := Prod.fst) hb
            rwa [e1] at this
          exact dat_dp r 60 b.1 (pd b.1) b.2 (dz_pd 60 b.1 (List.all_eq_true.mp k1 _ hm)) (hr b hb)
        · have es : sortV ys = ((ys.zip zs).mergeSort (PySem.W.dataLe false fun b => pd b.1)).map (·.1) := by
            unfold sortV
            have q := PySem.W.sort_maps (f := fun b : LV × V => b.1) (r := PySem.W.dataLe false fun b : LV × V => pd b.1) (s := PySem.W.dataLe false pd) (l := ys.zip zs) (fun _ _ _ _ => rfl)
            rw [q, e1]
          rw [es] at h
          exact fin_new r (rel_map fun b hb => hr b (List.mem_mergeSort.mp hb)) h
      · exact h.elim
    · exact h.elim
  · exact h.elim
def strK : List (Key × LV) → Option (List Str)
  | [] => some []
  | (.inr z, _) :: r => match strK r with
    | some l => some (z :: l)
    | none => none
  | _ => none
theorem strK_ok : ∀ {kvs : List (Key × LV)} {zs : List Str}, strK kvs = some zs → kvs.map (·.1) = zs.map Sum.inr
  | [], zs, h => by cases h; rfl
  | (.inr z, v) :: r, zs, h => by
    unfold strK at h
    split at h
    · rename_i l hl
      cases h
      rw [List.map_cons, List.map_cons, strK_ok hl]
    · cases h
  | (.inl z, v) :: r, zs, h => by cases h
noncomputable def sortedDG (t : Bool) : OpN
  | [.ref n], S => match S[n]? with
    | some (.dct kvs) => match strK kvs with
      | some zs => if zs.length < 64 then newL t ((sortS zs).map .str) S else .no
      | none => .no
    | _ => .no
  | _, _ => .no
noncomputable abbrev sortedDL := sortedDG false
noncomputable abbrev sortedDT := sortedDG true
theorem le_tr {a b c : List Nat} (h : a ≤ b) (h2 : b ≤ c) : a ≤ c := List.le_trans h h2
theorem sortS_pw (zs : List Str) : (sortS zs).Pairwise fun a b => a.cps.toList ≤ b.cps.toList := by
  have q := List.pairwise_mergeSort (le := fun a b : Str => decide (a.cps.toList ≤ b.cps.toList)) (fun a b c h1 h2 => by
    simp only [decide_eq_true_eq] at h1 h2 ⊢
    exact List.le_trans h1 h2) (fun a b => by
    simp only [Bool.or_eq_true, decide_eq_true_eq]
    exact List.le_total _ _) zs
  exact q.imp fun h => by simpa using h
theorem sortS_perm (zs : List Str) : (sortS zs).Perm zs := List.mergeSort_perm zs _
theorem sortS_uniq {ys zs : List Str} (h : ys.Perm zs) (hp : ys.Pairwise fun a b => a.cps.toList ≤ b.cps.toList) : ys = sortS zs :=
  (h.trans (sortS_perm zs).symm).eq_of_pairwise (le := fun a b => a.cps.toList ≤ b.cps.toList) (fun a b _ _ h1 h2 => PySem.W.str_of_cps (List.le_antisymm h1 h2)) hp (sortS_pw zs)
end
end LL
namespace LL
open PySem PySem.Spec PyProof.Rows L2
theorem ltCps_d (a b : List Nat) : ltCps a b = decide (a < b) := ltCps_eq a b
theorem rising_pw : ∀ (p : Str) (l : List Str), risingS p l = true → (p :: l).Pairwise fun a b => a.cps.toList ≤ b.cps.toList
  | p, [], _ => List.pairwise_singleton _ _
  | p, x :: r, h => by
    unfold risingS at h
    rw [Bool.and_eq_true, ltCps_d] at h
    have i := rising_pw x r h.2
    have h1 : p.cps.toList ≤ x.cps.toList := by
      have := h.1
      simpa using this
    refine List.pairwise_cons.mpr ⟨fun b hb => ?_, i⟩
    rcases List.mem_cons.mp hb with rfl | hb
    · exact h1
    · exact List.le_trans h1 ((List.pairwise_cons.mp i).1 b hb)
theorem sortedS_pw : ∀ {l : List Str}, sortedS l = true → l.Pairwise fun a b => a.cps.toList ≤ b.cps.toList
  | [], _ => List.Pairwise.nil
  | x :: r, h => rising_pw x r h
section
variable {K : PySem.W.Frag} {T : Env1}
theorem RVs.strs' {m : List Addr} {H : Hp} : ∀ zs : List Str, RVs K m H (zs.map .str) (zs.map V.str)
  | [] => RVs.nil
  | z :: zs => RVs.cons (rfl) (RVs.strs' zs)
theorem cl_sortedD {t : Bool} : CallL K T rSrtS (sortedDG t) := fun m S H vs xs Q W r rv h => by
  unfold sortedDG at h
  split at h
  · rename_i n
    obtain ⟨x, rfl, rx⟩ := rv.one
    split at h
    · rename_i kvs hn
      split at h
      · rename_i zs hz
        split at h
        · rename_i h64
          unfold RV at rx
          obtain ⟨a, rfl, hm⟩ := rx
          obtain ⟨ws, h1, h2, h3⟩ := r.ob n a _ hm hn
          refine ⟨a, ws, zs, rfl, .inl h1, h2.trans (strK_ok hz), h64, fun ys p hp hs hf => ?_⟩
          rw [sortS_uniq hp (sortedS_pw hs)]
          exact fin_new r (RVs.strs' _) h p hf
        · exact h.elim
      · exact h.elim
    · exact h.elim
  · exact h.elim
/-! ### list(d) -/
def listDG (t : Bool) : OpN
  | [.ref n], S => match S[n]? with
    | some (.dct kvs) => newL t (kvs.map fun kv => keyV kv.1) S
    | _ => .no
  | _, _ => .no
abbrev listDL := listDG false
abbrev listDT := listDG true
def rListDk : List V → Hp → VK → Prop := fun xs H Q => ∃ (a : Addr) (kvs : List (Key × V)), xs = [.ref a] ∧ Rd H a (.dK kvs) ∧ ∀ p, H p = none → Q (.ref p) (upd H p (.lst (kvs.map fun kv => kV kv.1)))
theorem RVs.keys' {m : List Addr} {H : Hp} : ∀ ks : List Key, RVs K m H (ks.map keyV) (ks.map kV)
  | [] => RVs.nil
  | .inl i :: zs => RVs.cons (rfl) (RVs.keys' zs)
  | .inr z :: zs => RVs.cons (rfl) (RVs.keys' zs)
theorem cl_listD {t : Bool} : CallL K T rListDk (listDG t) := fun m S H vs xs Q W r rv h => by
  unfold listDG at h
  split at h
  · rename_i n
    obtain ⟨x, rfl, rx⟩ := rv.one
    split at h
    · rename_i kvs hn
      unfold RV at rx
      obtain ⟨a, rfl, hm⟩ := rx
      obtain ⟨ws, h1, h2, h3⟩ := r.ob n a _ hm hn
      have e1 : (kvs.map fun kv => keyV kv.1) = (kvs.map (·.1)).map keyV := by rw [List.map_map]; rfl
      have e2 : (ws.map fun kv => kV kv.1) = (kvs.map (·.1)).map kV := by rw [← h2, List.map_map]; rfl
      rw [e1] at h
      exact ⟨a, ws, rfl, .inl h1, by rw [e2]; exact fin_new r (RVs.keys' _) h⟩
    · exact h.elim
  · exact h.elim
theorem cr_listDk {X : Cx} (hc : X.calm = true) : CallR X (.type "list") rListDk := call_listD hc
/-! ### {k: v, ..} -/
def lPr : List (LE × LE) → LA
  | [] => lNil
  | p :: r => lCons p.1 (lCons p.2 (lPr r))
def pairL : List LV → Option (List (Key × LV))
  | [] => some []
  | [_] => none
  | k :: v :: r => match keyL k, pairL r with
    | some a, some l => some ((a, v) :: l)
    | _, _ => none
def mergeL (kvs : List (Key × LV)) : List (Key × LV) := kvs.foldl (fun acc kv => putL acc kv.1 kv.2) []
def dispK (n : Nat) (vs : List LV) (S : Sto) : R := match S[n]? with
  | some (.dct []) => match pairL vs with
    | some kvs => if kvs.length ≤ 15 then .ok (.ref n) (S.set n (.dct (mergeL kvs))) else .no
    | none => .no
  | _ => .no
def lDisp (l : List (LE × LE)) : LE := fun ds S => (lPr l ds (S ++ [.dct []])).bind (dispK S.length)
def flat2 : List (V × V) → List V
  | [] => []
  | p :: r => p.1 :: p.2 :: flat2 r
theorem pr_read {ξ : Xi} {W : WX} {σ : L2.St} : ∀ (l : List (LE × LE)) {H : Hp} {m : List Addr} {S : Sto} {ds : Sl} {Q : List (V × V) → Hp → Prop}, RelS K T m S H → RSl K ξ m H ds σ →
    PoA K T m H (lPr l ds S) (fun xs H' => ∀ ps, flat2 ps = xs → Q ps H') (fun cls d H' => W cls d σ H') → tPairs (l.map fun p => (tL K T ξ W p.1, tL K T ξ W p.2)) σ H Q
  | [], H, m, S, ds, Q, r, rs, h => h m H [] Ext.refl r RVs.nil [] rfl
  | p :: l, H, m, S, ds, Q, r, rs, h => by
    show tL K T ξ W p.1 σ H fun x H1 => tL K T ξ W p.2 σ H1 fun y H2 => tPairs (l.map fun p => (tL K T ξ W p.1, tL K T ξ W p.2)) σ H2 fun ps H3 => Q ((x, y) :: ps) H3
    refine ⟨m, S, ds, r, rs, ?_⟩
    unfold lPr lCons at h
    cases e : p.1 ds S with
    | ok v S1 =>
      rw [e] at h
      intro m1 H1 x E r1 rv
      refine ⟨m1, S1, ds, r1, rs.mono E, ?_⟩
      have h1 := PoA.mono E h
      unfold lCons at h1
      cases e2 : p.2 ds S1 with
      | ok u S2 =>
        simp only [e2] at h1
        intro m2 H2 y E2 r2 ru
        refine pr_read l (ds := ds) r2 ((rs.mono E).mono E2) ?_
        have h2 := PoA.mono E2 h1
        cases e3 : lPr l ds S2 with
        | ok vs S3 =>
          simp only [e3, consK] at h2
          intro m3 H3 xs E3 r3 rvs ps hp
          exact h2 m3 H3 (x :: y :: xs) E3 r3 (RVs.cons ((rv.mono E2).mono E3) (RVs.cons (ru.mono E3) rvs)) ((x, y) :: ps) (by unfold flat2; rw [hp])
        | ex c fs S3 =>
          simp only [e3, consK] at h2
          exact h2
        | no =>
          simp only [e3, consK] at h2
          exact h2
      | ex c fs S2 =>
        simp only [e2, consK] at h1
        exact h1
      | no =>
        simp only [e2, consK] at h1
        exact h1
    | ex c fs S1 =>
      rw [e] at h
      exact h
    | no =>
      rw [e] at h
      exact h
theorem pair_ok {m : List Addr} {H : Hp} : ∀ {vs : List LV} {ps : List (V × V)} {kvs : List (Key × LV)}, pairL vs = some kvs → RVs K m H vs (flat2 ps) →
    ∃ ws : List (Key × V), ps = ws.map (fun kv => (kV kv.1, kv.2)) ∧ ws.map (·.1) = kvs.map (·.1) ∧ RVs K m H (kvs.map (·.2)) (ws.map (·.2))
  | [], ps, kvs, h, rv => by
    cases h
    have := rv.nilE
    cases ps with
    | nil => exact ⟨[], rfl, rfl, RVs.nil⟩
    | cons p ps => cases this
  | [_], ps, kvs, h, rv => by cases h
  | k :: v :: r, ps, kvs, h, rv => by
    cases ps with
    | nil =>
      unfold RVs at rv
      obtain ⟨_, _, e, _⟩ := rv
      cases e
    | cons p ps =>
      unfold pairL at h
      split at h
      · rename_i a l ha hl
        cases h
        unfold flat2 RVs at rv
        obtain ⟨x, q, e, rk, rr⟩ := rv
        cases e
        unfold RVs at rr
        obtain ⟨y, q, e, ru, rq⟩ := rr
        cases e
        obtain ⟨ws, e1, e2, e3⟩ := pair_ok hl rq
        refine ⟨(a, p.2) :: ws, ?_, ?_, RVs.cons ru e3⟩
        · rw [List.map_cons, ← e1, ← keyL_ok ha rk]
        · rw [List.map_cons, List.map_cons, e2]
      · cases h
theorem merge_ok {m : List Addr} {H : Hp} : ∀ {kvs : List (Key × LV)} {ws : List (Key × V)} {acc : List (Key × LV)} {bcc : List (Key × V)}, ws.map (·.1) = kvs.map (·.1) → RVs K m H (kvs.map (·.2)) (ws.map (·.2)) →
    bcc.map (·.1) = acc.map (·.1) → RVs K m H (acc.map (·.2)) (bcc.map (·.2)) →
    (mergeK bcc ws).map (·.1) = (kvs.foldl (fun acc kv => putL acc kv.1 kv.2) acc).map (·.1) ∧ RVs K m H ((kvs.foldl (fun acc kv => putL acc kv.1 kv.2) acc).map (·.2)) ((mergeK bcc ws).map (·.2))
  | [], ws, acc, bcc, h1, h2, h3, h4 => by
    cases ws with
    | nil => exact ⟨h3, h4⟩
    | cons w ws => cases h1
  | kv :: kvs, ws, acc, bcc, h1, h2, h3, h4 => by
    cases ws with
    | nil => cases h1
    | cons w ws =>
      rw [List.map_cons, List.map_cons] at h1 h2
      injection h1 with h1 h1'
      unfold RVs at h2
      obtain ⟨y, q, e, ru, rq⟩ := h2
      injection e with e1 e2
      subst e2
      rw [← e1] at ru
      have p := put_rel kv.1 ru h3 h4
      have i := merge_ok (acc := putL acc kv.1 kv.2) (bcc := putK bcc kv.1 w.2) h1' rq p.1 p.2
      unfold mergeK at i ⊢
      rw [List.foldl_cons, List.foldl_cons, h1]
      exact i
end
section
variable {X : Cx} {T : Env1} {ξ : Xi} {W : WX}
theorem pl_disp {pos : Pos} {keys : List (Option Expr)} {values : List Expr} {l : List (LE × LE)} (h : PPs X pos keys values (l.map fun p => (tL X.K T ξ W p.1, tL X.K T ξ W p.2))) (hall : keys.all (·.isSome) = true := by rfl) (hl : keys.length = values.length := by rfl)
    (h0 : keys ≠ [] := by exact (fun z => nomatch z)) (h15 : keys.length ≤ 15 := by decide) : PE X (.Dict keys values pos) (tL X.K T ξ W (lDisp l)) :=
  pe_imp (pe_disp h hall hl h0 h15) fun σ H Q ⟨m, S, ds, r, rs, h⟩ => fun p hp => by
    have E : Ext m H (m ++ [p]) (upd H p (.dK [])) := Ext.alloc r hp
    have r1 : RelS X.K T (m ++ [p]) (S ++ [.dct []]) (upd H p (.dK [])) := r.alloc hp ⟨[], upd_same, rfl, RVs.nil⟩
    refine pr_read l r1 (rs.mono E) ?_
    unfold lDisp at h
    cases e : lPr l ds (S ++ [.dct []]) with
    | ok vs S2 =>
      rw [e] at h
      replace h : PoE X.K T m H (dispK S.length vs S2) Q _ := h
      intro m2 H2 xs E2 r2 rv ps hps
      subst hps
      have hm : m2[S.length]? = some p := by
        refine E2.get ?_
        rw [← r.len, List.getElem?_append_right (Nat.le_refl _), Nat.sub_self]
        rfl
      unfold dispK at h
      split at h
      · rename_i hn
        split at h
        · rename_i kvs hk
          split at h
          · rename_i h15'
            obtain ⟨us, h1, h2, h3⟩ := r2.ob _ _ _ hm hn
            have : us = [] := by
              cases us with
              | nil => rfl
              | cons _ _ => cases h2
            subst this
            obtain ⟨ws, e1, e2, e3⟩ := pair_ok hk rv
            have pm := merge_ok (acc := []) (bcc := []) e2 e3 rfl RVs.nil
            have hl : ws.length = kvs.length := by have := congrArg List.length e2; simpa using this
            refine ⟨h1, ws, e1, by omega, ?_⟩
            have E3 : Ext m2 H2 m2 (upd H2 p (.dK (mergeK [] ws))) := Ext.write r2 (List.mem_of_getElem? hm) h1
            refine h m2 _ (.ref p) ((E.trans E2).trans E3) (r2.write hm h1 ⟨_, upd_same, pm.1, pm.2.mono E3⟩) ?_
            unfold RV
            exact ⟨p, rfl, hm⟩
          · exact h.elim
        · exact h.elim
      · exact h.elim
    | ex c fs S2 =>
      rw [e] at h
      exact fun m2 H2 cls d E2 r2 rx => h m2 H2 cls d (E.trans E2) r2 rx
    | no =>
      rw [e] at h
      exact h
end
end LL
namespace LL
open PySem PySem.Spec PyProof.Rows L2
theorem cr_sortedDk {X : Cx} (hc : X.calm = true) : CallR X (.builtin "sorted") rSrtS := call_sortedD hc
def disp1 (n : Nat) : RL → R
  | .ok vs S => dispK n vs S
  | .ex c fs S => .ex c fs S
  | .no => .no
@[simp] theorem e_disp {l : List (LE × LE)} {ds : Sl} {S : Sto} : lDisp l ds S = disp1 S.length (lPr l ds (S ++ [.dct []])) := by unfold lDisp; cases lPr l ds (S ++ [.dct []]) <;> rfl
@[simp] theorem disp1_ok {n : Nat} {vs : List LV} {S : Sto} : disp1 n (.ok vs S) = dispK n vs S := (rfl)
@[simp] theorem lPr_nil : lPr [] = lNil := (rfl)
@[simp] theorem lPr_cons {p : LE × LE} {r : List (LE × LE)} : lPr (p :: r) = lCons p.1 (lCons p.2 (lPr r)) := (rfl)
end LL


set_option Elab.async false
set_option linter.all false
set_option maxRecDepth 100000
set_option maxHeartbeats 2000000
/-! Paths in plain Lean: names, what stands above. -/
namespace LL
open PySem PySem.Spec PyProof.Rows L2
abbrev names (z : Str) : List Str := Txt.split z colT
abbrev pth (ys : List Str) : Str := Txt.join colT ys
def Pz (z : Str) : Prop := pathOk (tl z) = true
/-- the paths of what stands above, the top first -/
def abS (z : Str) : List Str := (List.range ((names z).length - 1)).map fun k => pth ((names z).take (k + 1))
def par (z : Str) : Option Str := (abS z).getLast?
theorem map_tl_inj {xs ys : List Str} (h : xs.map tl = ys.map tl) : xs = ys := (List.map_inj_right (f := tl) fun _ _ e => tl_ext e).mp h
theorem pth_names (z : Str) : pth (names z) = z := tl_ext (by rw [join_col, split_sp, join_sp])
theorem names_pth {ys : List Str} (h : ys ≠ []) (hf : ∀ y ∈ ys, 58 ∉ tl y) : names (pth ys) = ys := map_tl_inj (by
  rw [split_sp, join_col, sp_join (by simpa using h)]
  intro p hp
  obtain ⟨y, hy, rfl⟩ := List.mem_map.mp hp
  exact hf y hy)
theorem names_ne (z : Str) : names z ≠ [] := fun e => by
  have := split_sp z
  rw [show Txt.split z colT = [] from e] at this
  exact sp_ne _ this.symm
theorem names_pos (z : Str) : 1 ≤ (names z).length := by
  cases e : names z with
  | nil => exact absurd e (names_ne z)
  | cons a t => simp
theorem Pz.len {z : Str} (h : Pz z) : (names z).length ≤ 6 := by
  unfold Pz pathOk at h
  rw [Bool.and_eq_true] at h
  rw [LL.split_len]
  exact of_decide_eq_true h.1
theorem Pz.ok {z : Str} (h : Pz z) : ∀ y ∈ names z, nameOk (tl y) = true := fun y hy => by
  unfold Pz pathOk at h
  rw [Bool.and_eq_true] at h
  exact List.all_eq_true.mp h.2 _ (by rw [← split_sp]; exact List.mem_map.mpr ⟨y, hy, rfl⟩)
theorem Pz.free {z : Str} (h : Pz z) : ∀ y ∈ names z, 58 ∉ tl y := fun y hy => nameOk_free (h.ok y hy)
theorem Pz.of {z : Str} (h1 : (names z).length ≤ 6) (h2 : ∀ y ∈ names z, nameOk (tl y) = true) : Pz z := by
  unfold Pz pathOk
  rw [← split_sp, List.length_map, decide_eq_true h1, Bool.true_and, List.all_eq_true]
  intro p hp
  obtain ⟨y, hy, rfl⟩ := List.mem_map.mp hp
  exact h2 y hy
theorem pz_iff {z : Str} : Pz z ↔ (names z).length ≤ 6 ∧ ∀ y ∈ names z, nameOk (tl y) = true := ⟨fun h => ⟨h.len, h.ok⟩, fun h => Pz.of h.1 h.2⟩
theorem names_take {z : Str} (h : Pz z) (k : Nat) : names (pth ((names z).take (k + 1))) = (names z).take (k + 1) := by
  refine names_pth (fun e => ?_) fun y hy => h.free y (List.mem_of_mem_take hy)
  have q := congrArg List.length e
  rw [List.length_take, List.length_nil] at q
  have := names_pos z
  omega
theorem ab_par {z : Str} (h : Pz z) : abS z = match par z with | none => [] | some p => abS p ++ [p] := by
  unfold par
  cases e : (names z).length - 1 with
  | zero =>
    have : abS z = [] := by unfold abS; rw [e]; rfl
    rw [this]
    rfl
  | succ n =>
    have e1 : abS z = ((List.range n).map fun k => pth ((names z).take (k + 1))) ++ [pth ((names z).take (n + 1))] := by
      unfold abS
      rw [e, List.range_succ, List.map_append]
      rfl
    rw [e1, List.getLast?_append]
    simp only [List.getLast?_singleton, Option.some_or]
    congr 1
    unfold abS
    rw [names_take h, List.length_take]
    have hm : min (n + 1) (names z).length - 1 = n := by omega
    rw [hm]
    refine List.map_congr_left fun k hk => ?_
    have := List.mem_range.mp hk
    show _ = pth (((names z).take (n + 1)).take (k + 1))
    rw [List.take_take, Nat.min_eq_left (by omega)]
theorem par_some {z p : Str} (h : par z = some p) : ∃ n, (names z).length = n + 2 ∧ p = pth ((names z).take (n + 1)) := by
  unfold par abS at h
  cases e : (names z).length - 1 with
  | zero => rw [e] at h; simp at h
  | succ n =>
    rw [e, List.range_succ, List.map_append, List.getLast?_append] at h
    simp at h
    exact ⟨n, by omega, h.symm⟩
theorem par_ok {z p : Str} (h : Pz z) (hp : par z = some p) : Pz p ∧ (names p).length + 1 = (names z).length := by
  obtain ⟨n, e1, rfl⟩ := par_some hp
  have e2 := names_take h n
  have hl := h.len
  refine ⟨Pz.of (by rw [e2, List.length_take]; omega) (by rw [e2]; exact fun y hy => h.ok y (List.mem_of_mem_take hy)), ?_⟩
  rw [e2, List.length_take]
  omega
theorem par_none {z : Str} : par z = none ↔ (names z).length = 1 := by
  have := names_pos z
  constructor
  · intro h
    unfold par abS at h
    rw [List.getLast?_eq_none_iff, List.map_eq_nil_iff, List.range_eq_nil] at h
    omega
  · intro h
    unfold par abS
    rw [h]
    rfl
theorem sp_free {a : List Nat} (h : 58 ∉ a) : sp a = [a] := by
  exact sp_join (ps := [a]) (by simp) (by simpa using h)
theorem sp_app (a b : List Nat) : sp (a ++ 58 :: b) = sp a ++ sp b := by
  induction a with
  | nil => rw [List.nil_append, sp_col]; rfl
  | cons c a ih =>
    rw [List.cons_append]
    by_cases hc : c = 58
    · subst hc
      rw [sp_col, sp_col, ih]
      rfl
    · rw [sp_oth _ hc, sp_oth _ hc, ih]
      cases e : sp a with
      | nil => exact absurd e (sp_ne a)
      | cons x t => rfl
/-- an account beneath another one -/
def kid (z n : Str) : Str := (z ++ colT) ++ n
theorem names_kid {z n : Str} (hn : 58 ∉ tl n) : names (kid z n) = names z ++ [n] := map_tl_inj (by
  rw [split_sp, List.map_append, split_sp]
  unfold kid
  rw [tl_app, tl_app]
  show sp ((tl z ++ [58]) ++ tl n) = _
  rw [List.append_assoc]
  show sp (tl z ++ 58 :: tl n) = _
  rw [sp_app, sp_free hn]
  rfl)
theorem par_kid {z n : Str} (hn : 58 ∉ tl n) : par (kid z n) = some z := by
  have e := names_kid (z := z) hn
  have hp := names_pos z
  unfold par abS
  rw [e, List.length_append]
  obtain ⟨m, hm⟩ : ∃ m, (names z).length = m + 1 := ⟨(names z).length - 1, by omega⟩
  rw [hm]
  show ((List.range (m + 1)).map _).getLast? = _
  rw [List.range_succ, List.map_append, List.getLast?_append]
  simp only [List.map_cons, List.map_nil, List.getLast?_singleton, Option.some_or]
  rw [← hm, List.take_left']
  · rw [pth_names]
  · rfl
theorem pz_kid {z n : Str} (h : Pz z) (hn : nameOk (tl n) = true) : Pz (kid z n) ↔ (names z).length ≤ 5 := by
  rw [pz_iff, names_kid (nameOk_free hn), List.length_append]
  constructor
  · intro h; have := h.1; simp at this; omega
  · intro h5
    refine ⟨by simp; omega, fun y hy => ?_⟩
    rcases List.mem_append.mp hy with hy | hy
    · exact h.ok y hy
    · rw [List.mem_singleton.mp hy]; exact hn
theorem name_free {n : Str} (h : 58 ∉ tl n) : names n = [n] := map_tl_inj (by rw [split_sp, sp_free h]; rfl)
theorem pz_name {n : Str} (h : nameOk (tl n) = true) : Pz n ∧ par n = none := by
  have e := name_free (nameOk_free h)
  refine ⟨Pz.of (by rw [e]; simp) (by rw [e]; simpa using h), par_none.mpr (by rw [e]; rfl)⟩
theorem col_par (z : Str) : decide (58 ∈ tl z) = (par z).isSome := by
  by_cases h : 58 ∈ tl z
  · rw [decide_eq_true h]
    obtain ⟨a, b, e⟩ := List.append_of_mem h
    cases q : par z with
    | some p => rfl
    | none =>
      have q := par_none.mp q
      rw [LL.split_len, e, sp_app, List.length_append] at q
      have h1 := sp_ne a
      have h2 := sp_ne b
      cases e1 : sp a with
      | nil => exact absurd e1 h1
      | cons _ _ =>
        cases e2 : sp b with
        | nil => exact absurd e2 h2
        | cons _ _ => rw [e1, e2] at q; simp at q; omega
  · rw [decide_eq_false h, par_none.mpr (by rw [name_free h]; rfl)]
    rfl
theorem pz_sg {z : Str} (h : Pz z) : ∀ c ∈ tl z, c < 128 := fun c hc => by
  have q : (sp (tl z)).all (fun x => x.all fun c => decide (c < 128)) = true := by
    rw [List.all_eq_true]
    intro x hx
    rw [← split_sp] at hx
    obtain ⟨y, hy, rfl⟩ := List.mem_map.mp hx
    have := h.ok y hy
    unfold nameOk at this
    simp only [Bool.and_eq_true, List.all_eq_true, decide_eq_true_eq] at this
    rw [List.all_eq_true]
    intro d hd
    exact decide_eq_true (abc_sg d (this.1.2 d hd))
  rw [sp_all] at q
  have := List.all_eq_true.mp q c hc
  rcases Bool.or_eq_true_iff.mp this with h | h
  · have := eq_of_beq h; omega
  · exact of_decide_eq_true h
theorem joinL_len (m : Nat) : ∀ ps : List (List Nat), (∀ p ∈ ps, p.length ≤ m) → (TL.joinL [58] ps).length ≤ ps.length * (m + 1)
  | [], _ => Nat.zero_le _
  | [p], h => by
    have := h p (List.mem_singleton.mpr rfl)
    show p.length ≤ _
    simp
    omega
  | p :: q :: r, h => by
    have i := joinL_len m (q :: r) fun x hx => h x (List.mem_cons_of_mem _ hx)
    have := h p List.mem_cons_self
    show (p ++ ([58] ++ TL.joinL [58] (q :: r))).length ≤ _
    rw [List.length_append, List.length_append, List.length_cons (a := p), Nat.add_mul]
    simp only [List.length_singleton]
    omega
theorem pz_len {z : Str} (h : Pz z) : z.length ≤ 78 := by
  have q := joinL_len 12 ((names z).map tl) fun p hp => by
    obtain ⟨y, hy, rfl⟩ := List.mem_map.mp hp
    have := h.ok y hy
    unfold nameOk at this
    simp only [Bool.and_eq_true, decide_eq_true_eq] at this
    have := this.1.1
    omega
  rw [split_sp, join_sp, LL.len_tl] at q
  have hl := h.len
  rw [LL.split_len] at hl
  have : (sp (tl z)).length * (12 + 1) ≤ 6 * 13 := Nat.mul_le_mul_right 13 hl
  omega
theorem pz_fine {z : Str} (h : Pz z) : Fine 78 z := ⟨pz_len h, pz_sg h⟩
theorem pz_strOk {z : Str} (h : Pz z) : PyData.strOk z = true := (pz_fine h).ok
theorem strs_fz {n : Nat} {zs : List Str} (h : ∀ z ∈ zs, Pz z) : (zs.map LV.str).all (fz n) = true := by
  rw [List.all_eq_true]
  intro v hv
  obtain ⟨z, hz, rfl⟩ := List.mem_map.mp hv
  rw [fz_str]
  exact pz_strOk (h z hz)
theorem strs_low {n : Nat} (ys : List Str) : lowVs n (ys.map LV.str) = true := lows_all.mpr fun v hv => by
  obtain ⟨z, _, rfl⟩ := List.mem_map.mp hv
  rfl
/-! sorted of texts -/
theorem strs_srt {zs : List Str} (h : zs.length ≤ 16777216) : srtOk (zs.map .str) = true := by
  unfold srtOk
  have e1 : (zs.map LV.str).all (dz 60) = true := by simp [dz]
  have e2 : alk (zs.map .str) = true := by
    unfold alk
    simp [pd, PySem.W.alike]
  have e3 : (zs.map LV.str).all isNoT = true := by simp [isNoT]
  rw [e1, e2, e3]
  unfold small
  simpa using h
theorem sorted_strs {t : Bool} {S : Sto} {v : LV} {zs : List Str} (hv : lsO v S = some (zs.map .str)) (h : zs.length ≤ 16777216) : sortedG t [v] S = newL t ((sortS zs).map .str) S := by
  unfold sortedG
  simp only [hv, strs_srt h, if_true]
  rw [sortV_strs]
theorem sortedD_ok {t : Bool} {S : Sto} {n : Nat} {kvs : List (Key × LV)} {zs : List Str} (h : S[n]? = some (.dct kvs)) (hz : strK kvs = some zs) (hl : zs.length < 64) : sortedDG t [.ref n] S = newL t ((sortS zs).map .str) S := by
  unfold sortedDG
  simp only [h, hz, if_pos hl]
theorem sortS_same {xs ys : List Str} (h : xs.Perm ys) : sortS xs = sortS ys := sortS_uniq ((sortS_perm xs).trans h) (sortS_pw xs)
theorem in_col {z : Str} {S : Sto} : inL (.str colT) (.str z) S = .ok (.bl (par z).isSome) S := by
  rw [← col_par]
  rfl
theorem nin_col {z : Str} {S : Sto} : notinL (.str colT) (.str z) S = .ok (.bl !(par z).isSome) S := by
  rw [← col_par]
  rfl
end LL


set_option Elab.async false
set_option linter.all false
set_option maxRecDepth 100000
set_option maxHeartbeats 2000000
/-! The logical layer: max and min of a list of alike data, a > b of tuples, a list compared with its copy. -/
namespace LL
open PySem PySem.Spec PyProof.Rows L2
/-- what was there at g is there at h -/
def Kept (g h : Heap) : Prop := ∀ c u, g.get? c = some u → h.get? c = some u
/-- the two are compared at each heap that keeps g -/
def CmpKept (P0 : Program) (w0 : World) (B : Around) (op : CmpOp) (g : Heap) (Pr : Nat → Value → Prop) (f : Nat → Nat → Bool) : Prop :=
  ∀ (i j : Nat) (x y : Value) (s : Shared) (Q1 Q2 : Value → Shared → Prop), Kept g s.heap → Pr i x → Pr j y → Q1 (.bool (f i j)) s → wpAny (model P0 w0) B (richCompare op x y) Q1 Q2 s
section
variable {P0 : Program} {w0 : World} {B : Around} {RR : Result → Shared → Prop} {J : Addr} {fs ws : List Addr} {N : Nat} {Pr : Nat → Value → Prop} {Ss : Nat → Heap → Prop} {g : Heap}
theorem maxK_loop {kw : List (Str × Value)} (Wk : Walks P0 w0 B.in1 J fs ws N Pr Ss) (f : Nat → Nat → Bool) (hq : CmpKept P0 w0 B.in1 .Gt g Pr f) (hw : ∀ c ∈ ws, g.get? c = none) (Z : Addr) (hZ : Z ∉ fs) (gZ : g.get? Z = none) :
    ∀ (m i : Nat) (s : Shared) (best : Value) (cap : Nat), N - (i + 1) = m → i + 1 ≤ N → Ss (i + 1) s.heap → Kept g s.heap → Pr (argBest f i) best → s.heap.get? Z = some { cls := .type "list", dict := none, data := .seq #[best, best] cap, slots := #[] } →
    (∀ u h2 t2, Pr (argBest f (N - 1)) u → (∀ c o, c ∉ ws → c ≠ Z → s.heap.get? c = some o → h2.get? c = some o) → RR (.ok (.ret u)) { s with heap := h2, toks := t2 }) → codeAny (model P0 w0) B (.builtin "max.loop" ⟨[.ref J, .none, .ref Z], kw⟩) RR s := by
  have zw : Z ∉ ws := fun z => hZ (Wk.sub _ z)
  have nm : (toString "max" ++ toString ".loop" : String) = "max.loop" := by decide
  intro m
  induction m with
  | zero =>
    intro i s best cap hm hi hs kg pb hz fin'
    have last : i + 1 = N := by omega
    refine codeAny_builtin F.entry_max_loop ?_; rw [Around.under_plainId F.plain_max_loop _]
    show wpAny _ B.in1 (seqItems? (.ref Z) >>= _) _ _ s
    refine wpAny_bind (wpAny_seqItems hz rfl ?_); show wpAny _ B.in1 (tryCatch (pyNext (.ref J)) _ >>= _) _ _ s
    refine wpAny_bind (wpAny_tryCatch (Wk.done s _ _ (last ▸ hs) fun h2 t2 kk => ?_))
    have hz2 := kk Z _ zw hz
    show wpAny _ B.in1 (updateSeq Z (fun _ => #[]) >>= _) _ _ _
    refine wpAny_bind ?_; refine wpAny_updateSeq hz2 rfl (wpAny_bind (wpAny_letGo (wpAny_pure ?_)))
    exact fin' best _ t2 (by rw [← last]; exact pb) fun c o h1 h2 e => (Heap.get?_update_other _ _ (Ne.symm h2)).trans (kk c o h1 e)
  | succ m ih =>
    intro i s best cap hm hi hs kg pb hz fin'
    have more : i + 1 < N := by omega
    refine codeAny_builtin F.entry_max_loop ?_; rw [Around.under_plainId F.plain_max_loop _]
    show wpAny _ B.in1 (seqItems? (.ref Z) >>= _) _ _ s
    refine wpAny_bind (wpAny_seqItems hz rfl ?_); show wpAny _ B.in1 (tryCatch (pyNext (.ref J)) _ >>= _) _ _ s
    refine wpAny_bind (wpAny_tryCatch (Wk.item (i + 1) s _ _ more hs fun x h2 t2 px hs2 kk => ?_))
    have hz2 := kk Z _ zw hz
    have kg2 : Kept g h2 := fun c o e => kk c o (fun z => by rw [hw c z] at e; cases e) (kg c o e)
    show wpAny _ B.in1 (tryCatch (holding [x, x] (richCompare .Gt x best >>= _)) _ >>= _) _ _ _
    refine wpAny_bind (wpAny_tryCatch (wpAny_holding (wpAny_bind (hq (i + 1) (argBest f i) x best _ _ _ kg2 px pb ?_))))
    refine wpAny_bind (wpAny_holding (wpAny_truthy_bool ?_)); refine wpAny_bind (wpAny_letGo (wpAny_pure ?_))
    cases hf : f (i + 1) (argBest f i) with
    | true =>
      simp only [if_true]
      refine wpAny_bind ?_; refine wpAny_updateSeq hz2 rfl (wpAny_bind (wpAny_letGo ?_)); rw [nm]
      have kg3 : ∀ up, Kept g (h2.update Z up) := fun up c o e => (Heap.get?_update_other _ _ (fun z : Z = c => by rw [← z, gZ] at e; cases e)).trans (kg2 c o e)
      refine wpAny_pure ⟨plainId_quiet F.plain_max_loop _, ih (i + 1) _ x _ (by omega) more (Wk.frame _ _ _ hs2 fun c hc o e => ?_) (kg3 _) (by simp only [argBest, hf, if_true]; exact px) (Heap.get?_update_self _ hz2 rfl) fun u h3 t3 pu k3 => ?_⟩
      · exact (Heap.get?_update_other _ _ (fun z : Z = c => hZ (by rw [z]; exact hc))).trans e
      · exact fin' u h3 t3 pu fun c o h1 h2' e => k3 c o h1 h2' ((Heap.get?_update_other _ _ (Ne.symm h2')).trans (kk c o h1 e))
    | false =>
      simp only [Bool.false_eq_true, if_false]
      refine wpAny_bind (wpAny_letGo ?_); rw [nm]
      exact wpAny_pure ⟨plainId_quiet F.plain_max_loop _, ih (i + 1) _ best cap (by omega) more hs2 kg2 (by simp only [argBest, hf, Bool.false_eq_true, if_false]; exact pb) hz2 fun u h3 t3 pu k3 => fin' u h3 t3 pu fun c o h1 h2' e => k3 c o h1 h2' (kk c o h1 e)⟩
theorem maxK_first {kw : List (Str × Value)} (Wk : Walks P0 w0 B.in1 J fs ws N Pr Ss) (f : Nat → Nat → Bool) (hq : CmpKept P0 w0 B.in1 .Gt g Pr f) (hw : ∀ c ∈ ws, g.get? c = none) (Z : Addr) (hZ : Z ∉ fs) (gZ : g.get? Z = none) (hN : 0 < N) {s : Shared} {cap : Nat} (hs : Ss 0 s.heap) (kg : Kept g s.heap)
    (hz : s.heap.get? Z = some { cls := .type "list", dict := none, data := .seq #[] cap, slots := #[] }) (fin' : ∀ u h2 t2, Pr (argBest f (N - 1)) u → (∀ c o, c ∉ ws → c ≠ Z → s.heap.get? c = some o → h2.get? c = some o) → RR (.ok (.ret u)) { s with heap := h2, toks := t2 }) :
    codeAny (model P0 w0) B (.builtin "max.loop" ⟨[.ref J, .none, .ref Z], kw⟩) RR s := by
  have zw : Z ∉ ws := fun z => hZ (Wk.sub _ z)
  have nm : (toString "max" ++ toString ".loop" : String) = "max.loop" := by decide
  refine codeAny_builtin F.entry_max_loop ?_; rw [Around.under_plainId F.plain_max_loop _]
  show wpAny _ B.in1 (seqItems? (.ref Z) >>= _) _ _ s
  refine wpAny_bind (wpAny_seqItems hz rfl ?_); show wpAny _ B.in1 (tryCatch (pyNext (.ref J)) _ >>= _) _ _ s
  refine wpAny_bind (wpAny_tryCatch (Wk.item 0 s _ _ hN hs fun x h2 t2 px hs2 kk => ?_))
  have hz2 := kk Z _ zw hz
  have kg2 : Kept g h2 := fun c o e => kk c o (fun z => by rw [hw c z] at e; cases e) (kg c o e)
  show wpAny _ B.in1 (updateSeq Z (fun _ => #[x, x]) >>= _) _ _ _
  refine wpAny_bind ?_; refine wpAny_updateSeq hz2 rfl ?_; rw [nm]
  have kg3 : ∀ up, Kept g (h2.update Z up) := fun up c o e => (Heap.get?_update_other _ _ (fun z : Z = c => by rw [← z, gZ] at e; cases e)).trans (kg2 c o e)
  refine wpAny_pure ⟨plainId_quiet F.plain_max_loop _, maxK_loop Wk f hq hw Z hZ gZ _ 0 _ x _ rfl hN (Wk.frame _ _ _ hs2 fun c hc o e => ?_) (kg3 _) px (Heap.get?_update_self _ hz2 rfl) fun u h3 t3 pu k3 => ?_⟩
  · exact (Heap.get?_update_other _ _ (fun z : Z = c => hZ (by rw [z]; exact hc))).trans e
  · exact fin' u h3 t3 pu fun c o h1 h2' e => k3 c o h1 h2' ((Heap.get?_update_other _ _ (Ne.symm h2')).trans (kk c o h1 e))
end
section
variable {P0 : Program} {w0 : World} {B : Around} {E0 : Value → Shared → Prop} {s : Shared}
theorem maxK_walk {l : Addr} {us : Array Value} {Q : Value → Shared → Prop} {Pr : Nat → Value → Prop} (f : Nat → Nat → Bool) (hh : B.handled = none) (hl : s.heap.IsList l us) (hN : 0 < us.size) (hP : ∀ i v, us[i]? = some v → Pr i v) (hq : CmpKept P0 w0 B.in1 .Gt s.heap Pr f)
    (fin' : ∀ u h2 t2, us[argBest f (us.size - 1)]? = some u → Kept s.heap h2 → Q u { s with heap := h2, toks := t2 }) : wpAny (model P0 w0) B (call (.builtin "max") [.ref l]) Q E0 s := by
  have nm : (toString "max" ++ toString ".loop" : String) = "max.loop" := by decide
  refine call_function_tree F.kind_max F.plain_max F.entry_max (F.args_max1 _) ?_
  show wpAny _ B.in1 (Builtin.Builtins.bindParams "max" ["key", "default"] 0 ⟨[], []⟩ >>= _) _ _ s
  refine wpAny_bind (wpAny_of_eq (show Builtin.Builtins.bindParams "max" ["key", "default"] 0 ⟨[], []⟩ = pure [none, none] from rfl) ?_)
  refine wpAny_bind (wpAny_pure ?_)
  have lt : l < s.heap.objs.size := by obtain ⟨_, e, _⟩ := hl; exact Heap.lt_size e
  refine wpAny_bind (wpAny_pyIter_list hl ?_)
  refine wpAny_bind (wpAny_newObj_type ?_)
  rw [nm]
  have gJ : s.heap.get? s.heap.objs.size = none := by
    cases e : s.heap.get? s.heap.objs.size with
    | none => rfl
    | some o => exact absurd (Heap.lt_size e) (Nat.lt_irrefl _)
  have gZ : s.heap.get? (s.heap.objs.size + 1) = none := by
    cases e : s.heap.get? (s.heap.objs.size + 1) with
    | none => rfl
    | some o => exact absurd (Heap.lt_size e) (Nat.not_lt.mpr (Nat.le_succ _))
  have sz : (s.heap.push { cls := .type "list_iterator", data := .fields #[.ref l, .int 0 0] }).objs.size = s.heap.objs.size + 1 := Heap.size_push _ _
  rw [sz]
  have k0 : Kept s.heap (s.heap.push { cls := .type "list_iterator", data := .fields #[.ref l, .int 0 0] }) := fun c o e => Heap.get?_push_of_some _ e
  refine wpAny_pure ⟨plainId_quiet F.plain_max_loop _, maxK_first (Walks.list (A := B.in1) hh s.heap.objs.size l (Nat.ne_of_lt lt) us) f (g := s.heap) (cap := 0) (fun i j x y s1 Q1 Q2 kg hx hy q => hq i j x y s1 Q1 Q2 kg (hP i x hx) (hP j y hy) q) (fun c hc => ?_) (s.heap.objs.size + 1) (fun z => ?_) gZ hN ?_ (fun c o e => Heap.get?_push_of_some _ (k0 c o e)) ?_ fun u h2 t2 pu kk => ?_⟩
  · rw [List.mem_singleton.mp hc]; exact gJ
  · rcases List.mem_cons.mp z with z | z
    · exact Nat.succ_ne_self _ z
    · have e := List.mem_singleton.mp z
      rw [← e] at lt
      exact Nat.not_lt.mpr (Nat.le_succ _) lt
  · exact ⟨⟨_, Heap.get?_push_of_some _ (Heap.get?_push_size _ rfl), rfl, rfl⟩, (hl.push _).push _⟩
  · rw [← sz]; exact Heap.get?_push_size _ rfl
  · refine fin' u h2 t2 pu fun c o e => kk c o (fun z => ?_) (fun z => ?_) (Heap.get?_push_of_some _ (k0 c o e))
    · rw [List.mem_singleton.mp z, gJ] at e; cases e
    · rw [z, gZ] at e; cases e
end
section
variable {P0 : Program} {w0 : World} {B : Around} {RR : Result → Shared → Prop} {J : Addr} {fs ws : List Addr} {N : Nat} {Pr : Nat → Value → Prop} {Ss : Nat → Heap → Prop} {g : Heap}
theorem minK_loop (Wk : Walks P0 w0 B.in1 J fs ws N Pr Ss) (f : Nat → Nat → Bool) (hq : CmpKept P0 w0 B.in1 .Lt g Pr f) (hw : ∀ c ∈ ws, g.get? c = none) (Z : Addr) (hZ : Z ∉ fs) (gZ : g.get? Z = none) :
    ∀ (m i : Nat) (s : Shared) (best : Value) (cap : Nat), N - (i + 1) = m → i + 1 ≤ N → Ss (i + 1) s.heap → Kept g s.heap → Pr (argBest f i) best → s.heap.get? Z = some { cls := .type "list", dict := none, data := .seq #[best, best] cap, slots := #[] } →
    (∀ u h2 t2, Pr (argBest f (N - 1)) u → (∀ c o, c ∉ ws → c ≠ Z → s.heap.get? c = some o → h2.get? c = some o) → RR (.ok (.ret u)) { s with heap := h2, toks := t2 }) → codeAny (model P0 w0) B (.builtin "min.loop" ⟨[.ref J, .none, .ref Z], []⟩) RR s := by
  have zw : Z ∉ ws := fun z => hZ (Wk.sub _ z)
  have nm : (toString "min" ++ toString ".loop" : String) = "min.loop" := by decide
  intro m
  induction m with
  | zero =>
    intro i s best cap hm hi hs kg pb hz fin'
    have last : i + 1 = N := by omega
    refine codeAny_builtin F.entry_min_loop ?_; rw [Around.under_plainId F.plain_min_loop _]
    show wpAny _ B.in1 (seqItems? (.ref Z) >>= _) _ _ s
    refine wpAny_bind (wpAny_seqItems hz rfl ?_); show wpAny _ B.in1 (tryCatch (pyNext (.ref J)) _ >>= _) _ _ s
    refine wpAny_bind (wpAny_tryCatch (Wk.done s _ _ (last ▸ hs) fun h2 t2 kk => ?_))
    have hz2 := kk Z _ zw hz
    show wpAny _ B.in1 (updateSeq Z (fun _ => #[]) >>= _) _ _ _
    refine wpAny_bind ?_; refine wpAny_updateSeq hz2 rfl (wpAny_bind (wpAny_letGo (wpAny_pure ?_)))
    exact fin' best _ t2 (by rw [← last]; exact pb) fun c o h1 h2 e => (Heap.get?_update_other _ _ (Ne.symm h2)).trans (kk c o h1 e)
  | succ m ih =>
    intro i s best cap hm hi hs kg pb hz fin'
    have more : i + 1 < N := by omega
    refine codeAny_builtin F.entry_min_loop ?_; rw [Around.under_plainId F.plain_min_loop _]
    show wpAny _ B.in1 (seqItems? (.ref Z) >>= _) _ _ s
    refine wpAny_bind (wpAny_seqItems hz rfl ?_); show wpAny _ B.in1 (tryCatch (pyNext (.ref J)) _ >>= _) _ _ s
    refine wpAny_bind (wpAny_tryCatch (Wk.item (i + 1) s _ _ more hs fun x h2 t2 px hs2 kk => ?_))
    have hz2 := kk Z _ zw hz
    have kg2 : Kept g h2 := fun c o e => kk c o (fun z => by rw [hw c z] at e; cases e) (kg c o e)
    show wpAny _ B.in1 (tryCatch (holding [x, x] (richCompare .Lt x best >>= _)) _ >>= _) _ _ _
    refine wpAny_bind (wpAny_tryCatch (wpAny_holding (wpAny_bind (hq (i + 1) (argBest f i) x best _ _ _ kg2 px pb ?_))))
    refine wpAny_bind (wpAny_holding (wpAny_truthy_bool ?_)); refine wpAny_bind (wpAny_letGo (wpAny_pure ?_))
    cases hf : f (i + 1) (argBest f i) with
    | true =>
      simp only [if_true]
      refine wpAny_bind ?_; refine wpAny_updateSeq hz2 rfl (wpAny_bind (wpAny_letGo ?_)); rw [nm]
      have kg3 : ∀ up, Kept g (h2.update Z up) := fun up c o e => (Heap.get?_update_other _ _ (fun z : Z = c => by rw [← z, gZ] at e; cases e)).trans (kg2 c o e)
      refine wpAny_pure ⟨plainId_quiet F.plain_min_loop _, ih (i + 1) _ x _ (by omega) more (Wk.frame _ _ _ hs2 fun c hc o e => ?_) (kg3 _) (by simp only [argBest, hf, if_true]; exact px) (Heap.get?_update_self _ hz2 rfl) fun u h3 t3 pu k3 => ?_⟩
      · exact (Heap.get?_update_other _ _ (fun z : Z = c => hZ (by rw [z]; exact hc))).trans e
      · exact fin' u h3 t3 pu fun c o h1 h2' e => k3 c o h1 h2' ((Heap.get?_update_other _ _ (Ne.symm h2')).trans (kk c o h1 e))
    | false =>
      simp only [Bool.false_eq_true, if_false]
      refine wpAny_bind (wpAny_letGo ?_); rw [nm]
      exact wpAny_pure ⟨plainId_quiet F.plain_min_loop _, ih (i + 1) _ best cap (by omega) more hs2 kg2 (by simp only [argBest, hf, Bool.false_eq_true, if_false]; exact pb) hz2 fun u h3 t3 pu k3 => fin' u h3 t3 pu fun c o h1 h2' e => k3 c o h1 h2' (kk c o h1 e)⟩
theorem minK_first (Wk : Walks P0 w0 B.in1 J fs ws N Pr Ss) (f : Nat → Nat → Bool) (hq : CmpKept P0 w0 B.in1 .Lt g Pr f) (hw : ∀ c ∈ ws, g.get? c = none) (Z : Addr) (hZ : Z ∉ fs) (gZ : g.get? Z = none) (hN : 0 < N) {s : Shared} {cap : Nat} (hs : Ss 0 s.heap) (kg : Kept g s.heap)
    (hz : s.heap.get? Z = some { cls := .type "list", dict := none, data := .seq #[] cap, slots := #[] }) (fin' : ∀ u h2 t2, Pr (argBest f (N - 1)) u → (∀ c o, c ∉ ws → c ≠ Z → s.heap.get? c = some o → h2.get? c = some o) → RR (.ok (.ret u)) { s with heap := h2, toks := t2 }) :
    codeAny (model P0 w0) B (.builtin "min.loop" ⟨[.ref J, .none, .ref Z], []⟩) RR s := by
  have zw : Z ∉ ws := fun z => hZ (Wk.sub _ z)
  have nm : (toString "min" ++ toString ".loop" : String) = "min.loop" := by decide
  refine codeAny_builtin F.entry_min_loop ?_; rw [Around.under_plainId F.plain_min_loop _]
  show wpAny _ B.in1 (seqItems? (.ref Z) >>= _) _ _ s
  refine wpAny_bind (wpAny_seqItems hz rfl ?_); show wpAny _ B.in1 (tryCatch (pyNext (.ref J)) _ >>= _) _ _ s
  refine wpAny_bind (wpAny_tryCatch (Wk.item 0 s _ _ hN hs fun x h2 t2 px hs2 kk => ?_))
  have hz2 := kk Z _ zw hz
  have kg2 : Kept g h2 := fun c o e => kk c o (fun z => by rw [hw c z] at e; cases e) (kg c o e)
  show wpAny _ B.in1 (updateSeq Z (fun _ => #[x, x]) >>= _) _ _ _
  refine wpAny_bind ?_; refine wpAny_updateSeq hz2 rfl ?_; rw [nm]
  have kg3 : ∀ up, Kept g (h2.update Z up) := fun up c o e => (Heap.get?_update_other _ _ (fun z : Z = c => by rw [← z, gZ] at e; cases e)).trans (kg2 c o e)
  refine wpAny_pure ⟨plainId_quiet F.plain_min_loop _, minK_loop Wk f hq hw Z hZ gZ _ 0 _ x _ rfl hN (Wk.frame _ _ _ hs2 fun c hc o e => ?_) (kg3 _) px (Heap.get?_update_self _ hz2 rfl) fun u h3 t3 pu k3 => ?_⟩
  · exact (Heap.get?_update_other _ _ (fun z : Z = c => hZ (by rw [z]; exact hc))).trans e
  · exact fin' u h3 t3 pu fun c o h1 h2' e => k3 c o h1 h2' ((Heap.get?_update_other _ _ (Ne.symm h2')).trans (kk c o h1 e))
end
section
variable {P0 : Program} {w0 : World} {B : Around} {E0 : Value → Shared → Prop} {s : Shared}
theorem minK_walk {l : Addr} {us : Array Value} {Q : Value → Shared → Prop} {Pr : Nat → Value → Prop} (f : Nat → Nat → Bool) (hh : B.handled = none) (hl : s.heap.IsList l us) (hN : 0 < us.size) (hP : ∀ i v, us[i]? = some v → Pr i v) (hq : CmpKept P0 w0 B.in1 .Lt s.heap Pr f)
    (fin' : ∀ u h2 t2, us[argBest f (us.size - 1)]? = some u → Kept s.heap h2 → Q u { s with heap := h2, toks := t2 }) : wpAny (model P0 w0) B (call (.builtin "min") [.ref l]) Q E0 s := by
  have nm : (toString "min" ++ toString ".loop" : String) = "min.loop" := by decide
  refine call_function_tree F.kind_min F.plain_min F.entry_min (F.args_min1 _) ?_
  show wpAny _ B.in1 (Builtin.Builtins.bindParams "min" ["key", "default"] 0 ⟨[], []⟩ >>= _) _ _ s
  refine wpAny_bind (wpAny_of_eq (show Builtin.Builtins.bindParams "min" ["key", "default"] 0 ⟨[], []⟩ = pure [none, none] from rfl) ?_)
  refine wpAny_bind (wpAny_pure ?_)
  have lt : l < s.heap.objs.size := by obtain ⟨_, e, _⟩ := hl; exact Heap.lt_size e
  refine wpAny_bind (wpAny_pyIter_list hl ?_)
  refine wpAny_bind (wpAny_newObj_type ?_)
  rw [nm]
  have gJ : s.heap.get? s.heap.objs.size = none := by
    cases e : s.heap.get? s.heap.objs.size with
    | none => rfl
    | some o => exact absurd (Heap.lt_size e) (Nat.lt_irrefl _)
  have gZ : s.heap.get? (s.heap.objs.size + 1) = none := by
    cases e : s.heap.get? (s.heap.objs.size + 1) with
    | none => rfl
    | some o => exact absurd (Heap.lt_size e) (Nat.not_lt.mpr (Nat.le_succ _))
  have sz : (s.heap.push { cls := .type "list_iterator", data := .fields #[.ref l, .int 0 0] }).objs.size = s.heap.objs.size + 1 := Heap.size_push _ _
  rw [sz]
  have k0 : Kept s.heap (s.heap.push { cls := .type "list_iterator", data := .fields #[.ref l, .int 0 0] }) := fun c o e => Heap.get?_push_of_some _ e
  refine wpAny_pure ⟨plainId_quiet F.plain_min_loop _, minK_first (Walks.list (A := B.in1) hh s.heap.objs.size l (Nat.ne_of_lt lt) us) f (g := s.heap) (cap := 0) (fun i j x y s1 Q1 Q2 kg hx hy q => hq i j x y s1 Q1 Q2 kg (hP i x hx) (hP j y hy) q) (fun c hc => ?_) (s.heap.objs.size + 1) (fun z => ?_) gZ hN ?_ (fun c o e => Heap.get?_push_of_some _ (k0 c o e)) ?_ fun u h2 t2 pu kk => ?_⟩
  · rw [List.mem_singleton.mp hc]; exact gJ
  · rcases List.mem_cons.mp z with z | z
    · exact Nat.succ_ne_self _ z
    · have e := List.mem_singleton.mp z
      rw [← e] at lt
      exact Nat.not_lt.mpr (Nat.le_succ _) lt
  · exact ⟨⟨_, Heap.get?_push_of_some _ (Heap.get?_push_size _ rfl), rfl, rfl⟩, (hl.push _).push _⟩
  · rw [← sz]; exact Heap.get?_push_size _ rfl
  · refine fin' u h2 t2 pu fun c o e => kk c o (fun z => ?_) (fun z => ?_) (Heap.get?_push_of_some _ (k0 c o e))
    · rw [List.mem_singleton.mp z, gJ] at e; cases e
    · rw [z, gZ] at e; cases e
end
def gtDat (d e : PyData) : Bool := PySem.W.dataLt e d
def ltDat (d e : PyData) : Bool := PySem.W.dataLt d e
noncomputable def bestI (q : PyData → PyData → Bool) (xs : List LV) : Nat := argBest (fun i j => q (pd (xs.getD i .non)) (pd (xs.getD j .non))) (xs.length - 1)
def rBest (q : PyData → PyData → Bool) (K : PySem.W.Frag) : List V → Hp → VK → Prop := fun vs H Q => ∃ (a : Addr) (bs : List (LV × V)), vs = [V.ref a] ∧ SqL K H a (bs.map (·.2)) ∧ (∀ b ∈ bs, Dp K H b.2 (pd b.1)) ∧ srtOk (bs.map (·.1)) = true ∧ 0 < bs.length ∧
  ∀ b, bs[bestI q (bs.map (·.1))]? = some b → Q b.2 H
theorem no_none {xs : List LV} (h : (xs.all isNT || xs.all isNoT) = true) : ∀ x ∈ xs, pd x ≠ .none := fun x hx => by
  rcases sortable_ok h with k | k
  · obtain ⟨a, r, e⟩ := k (pd x) (List.mem_map.mpr ⟨x, hx, rfl⟩)
    rw [e]
    exact fun z => by cases z
  · exact (k (pd x) (List.mem_map.mpr ⟨x, hx, rfl⟩)).1
section
variable {X : Cx} {pins : List (Addr × Obj)} {σ : L2.St} {H : Hp} {s : Shared}
theorem best_cmp {op : CmpOp} {q : PyData → PyData → Bool} (ho : ∀ (da db : PyData) (A : Around) (s : Shared) (a b : Value) (as bs : List Addr), Reads s.heap a da as → Reads s.heap b db bs → PySem.W.alike da db = true → da ≠ .none → A.units + min da.depth db.depth < cLine → ∀ (prog : Program) (w : World) (E Q : Value → Shared → Prop), Q (.bool (q da db)) s → wpAny (model prog w) A (richCompare op a b) Q E s)
    (hu : X.A.units + 64 < cLine) (I : Inv X pins σ H s) {bs : List (LV × V)} {us : List Value} (rv : Vals (bs.map (·.2)) us) (hd : ∀ b ∈ bs, Dp X.K H b.2 (pd b.1)) (hk : srtOk (bs.map (·.1)) = true) :
    CmpKept X.prog X.w X.A.in1 op s.heap (fun i v => us.toArray[i]? = some v) (fun i j => q (pd ((bs.map (·.1)).getD i .non)) (pd ((bs.map (·.1)).getD j .non))) := by
  obtain ⟨k1, k2, k3, k4⟩ := srt_split hk
  have at_ : ∀ (i : Nat) (v : Value), us.toArray[i]? = some v → ∃ b ∈ bs, (bs.map (·.1)).getD i .non = b.1 ∧ ∃ as, Reads s.heap v (pd b.1) as := fun i v e => by
    have e2 : us[i]? = some v := by simpa using e
    obtain ⟨x, hx, rx⟩ : ∃ x, (bs.map (·.2))[i]? = some x ∧ RelV x v := by
      have hl := rv.length
      have hi : i < us.length := (List.getElem?_eq_some_iff.mp e2).1
      obtain ⟨u, h1, h2⟩ := Vals.get (i := i) (x := (bs.map (·.2))[i]'(by omega)) rv (List.getElem?_eq_getElem _)
      rw [e2] at h1
      cases h1
      exact ⟨_, List.getElem?_eq_getElem _, h2⟩
    rw [List.getElem?_map, Option.map_eq_some_iff] at hx
    obtain ⟨b, hb, rfl⟩ := hx
    have hm := List.mem_of_getElem? hb
    exact ⟨b, hm, by simp [List.getD, hb], Dp.reads I _ _ _ (hd b hm) rx⟩
  intro i j x y s1 Q1 Q2 kg hx hy hq
  obtain ⟨b, hb, e1, as, r1⟩ := at_ i x hx
  obtain ⟨c, hc, e2, cs, r2⟩ := at_ j y hy
  simp only at hq
  rw [e1, e2] at hq
  have mb : b.1 ∈ bs.map (·.1) := List.mem_map.mpr ⟨b, hb, rfl⟩
  have mc : c.1 ∈ bs.map (·.1) := List.mem_map.mpr ⟨c, hc, rfl⟩
  have d1 := dz_dep 60 b.1 (List.all_eq_true.mp k1 _ mb)
  exact ho _ _ X.A.in1 s1 x y as cs (PyProof.Rows.Reads.keeps kg r1) (PyProof.Rows.Reads.keeps kg r2) (alk_ok k2 _ (List.mem_map.mpr ⟨_, mb, rfl⟩) _ (List.mem_map.mpr ⟨_, mc, rfl⟩)) (no_none k3 _ mb) (by
    show X.A.units + 1 + _ < cLine
    have := Nat.min_le_left (pd b.1).depth (pd c.1).depth
    omega) _ _ _ _ hq
end
section
variable {X : Cx}
theorem best_end {q : PyData → PyData → Bool} {bs : List (LV × V)} {us : List Value} (rv : Vals (bs.map (·.2)) us) {u : Value} (e : us.toArray[bestI q (bs.map (·.1))]? = some u) : ∃ b, bs[bestI q (bs.map (·.1))]? = some b ∧ RelV b.2 u := by
  generalize bestI q (bs.map (·.1)) = i at *
  have e2 : us[i]? = some u := by simpa using e
  have hl := rv.length
  have hi : i < us.length := (List.getElem?_eq_some_iff.mp e2).1
  rw [List.length_map] at hl
  obtain ⟨w, h1, h2⟩ := Vals.get (i := i) (x := (bs[i]'(by omega)).2) rv (by rw [List.getElem?_map, List.getElem?_eq_getElem (by omega)]; rfl)
  rw [e2] at h1
  cases h1
  exact ⟨_, List.getElem?_eq_getElem _, h2⟩
theorem cr_maxB (hu : X.A.units + 64 < cLine) (hc : X.calm = true) : CallR X (.builtin "max") (rBest gtDat X.K) := by
  intro pins s σ H vs us Q I r h
  obtain ⟨a, bs, rfl, hs, hd, hk, hn, q⟩ := h
  obtain ⟨its, rv, hl, _⟩ := I.list hs
  rw [Vals.ref1 r]
  have len : its.length = bs.length := by rw [← rv.length, List.length_map]
  refine maxK_walk _ (I.ok.hd hc) hl.isList (by simp; omega) (fun i v e => e) (best_cmp (q := gtDat) PySem.W.rcGt_alike hu I rv hd hk) fun u h2 t2 pu kk => ?_
  obtain ⟨b, e1, e2⟩ := best_end (q := gtDat) rv (u := u) (by
    unfold bestI
    rw [List.length_map, ← len]
    simpa using pu)
  exact ⟨b.2, H, I.kept kk, e2, q b e1⟩
theorem cr_minB (hu : X.A.units + 64 < cLine) (hc : X.calm = true) : CallR X (.builtin "min") (rBest ltDat X.K) := by
  intro pins s σ H vs us Q I r h
  obtain ⟨a, bs, rfl, hs, hd, hk, hn, q⟩ := h
  obtain ⟨its, rv, hl, _⟩ := I.list hs
  rw [Vals.ref1 r]
  have len : its.length = bs.length := by rw [← rv.length, List.length_map]
  refine minK_walk _ (I.ok.hd hc) hl.isList (by simp; omega) (fun i v e => e) (best_cmp (q := ltDat) PySem.W.rcLt_alike hu I rv hd hk) fun u h2 t2 pu kk => ?_
  obtain ⟨b, e1, e2⟩ := best_end (q := ltDat) rv (u := u) (by
    unfold bestI
    rw [List.length_map, ← len]
    simpa using pu)
  exact ⟨b.2, H, I.kept kk, e2, q b e1⟩
end
noncomputable def bestL (q : PyData → PyData → Bool) : OpN
  | [v], S => match lsO v S with
    | some xs => if (srtOk xs && decide (0 < xs.length)) = true then .ok (xs.getD (bestI q xs) .non) S else .no
    | none => .no
  | _, _ => .no
noncomputable abbrev maxB := bestL gtDat
noncomputable abbrev minB := bestL ltDat
theorem cl_best {K : PySem.W.Frag} {T : Env1} {q : PyData → PyData → Bool} : CallL K T (rBest q K) (bestL q) := fun m S H vs xs Q W r rv h => by
  unfold bestL at h
  split at h
  · obtain ⟨x, rfl, rx⟩ := rv.one
    split at h
    · rename_i ys hn
      split at h
      · rename_i hk
        rw [Bool.and_eq_true, decide_eq_true_eq] at hk
        obtain ⟨a, zs, rfl, ha, hs⟩ := lsO_ok r rx hn
        have hl := hs.len
        have e1 : (ys.zip zs).map (·.1) = ys := List.map_fst_zip (by omega)
        have e2 : (ys.zip zs).map (·.2) = zs := List.map_snd_zip (by omega)
        have hr := zip_rel hs
        refine ⟨a, ys.zip zs, rfl, SqL.of (by rw [ha, e2]), fun b hb => ?_, by rw [e1]; exact hk.1, by rw [List.length_zip]; omega, fun b hb => ?_⟩
        · obtain ⟨k1, _⟩ := srt_split hk.1
          have hm : b.1 ∈ ys := by
            have := List.mem_map_of_mem (f := Prod.fst) hb
            rwa [e1] at this
          exact dat_dp r 60 b.1 (pd b.1) b.2 (dz_pd 60 b.1 (List.all_eq_true.mp k1 _ hm)) (hr b hb)
        · rw [e1] at hb
          have : ys.getD (bestI q ys) .non = b.1 := by
            have e3 : ((ys.zip zs).map (·.1))[bestI q ys]? = some b.1 := by rw [List.getElem?_map, hb]; rfl
            rw [e1] at e3
            simp [List.getD, e3]
          rw [this] at h
          exact h.here r (hr b (List.mem_of_getElem? hb))
      · exact h.elim
    · exact h.elim
  · exact h.elim
/-! ### a > b of alike tuples -/
def rGtD (K : PySem.W.Frag) : R2 := fun x y H Q => ∃ d e, Dp K H x d ∧ Dp K H y e ∧ PySem.W.alike d e = true ∧ d ≠ .none ∧ d.depth ≤ 60 ∧ Q (.bl (PySem.W.dataLt e d)) H
theorem op_gtD {X : Cx} (hu : X.A.units + 64 < cLine) : OpR X (compareOp .Gt) (rGtD X.K) := by
  intro pins s σ H x y v u Q I rx ry h
  obtain ⟨d, e, hd, he, al, dn, dp, q⟩ := h
  obtain ⟨as, r1⟩ := Dp.reads I d x v hd rx
  obtain ⟨bs, r2⟩ := Dp.reads I e y u he ry
  exact PySem.W.gt_data r1 r2 al dn (by have := Nat.min_le_left d.depth e.depth; omega) ⟨.bl _, H, I, rfl, q⟩
def gtT : Op2 := fun v w S => if (dz 60 v && dz 60 w && PySem.W.alike (pd v) (pd w) && (isNT v || isNoT v)) = true then .ok (.bl (PySem.W.dataLt (pd w) (pd v))) S else .no
theorem ol_gtT {K : PySem.W.Frag} {T : Env1} : OpL K T (rGtD K) gtT := fun m S H v w x y Q W r rv rw h => by
  unfold gtT at h
  split at h
  · rename_i hk
    rw [Bool.and_eq_true, Bool.and_eq_true, Bool.and_eq_true] at hk
    refine ⟨pd v, pd w, dat_dp r 60 v _ x (dz_pd 60 v hk.1.1.1) rv, dat_dp r 60 w _ y (dz_pd 60 w hk.1.1.2) rw, hk.1.2, ?_, dz_dep 60 v hk.1.1.1, h.here r rfl⟩
    exact no_none (xs := [v]) (by simpa using hk.2) v (List.mem_singleton.mpr rfl)
  · exact h.elim
theorem c_gtT {X : Cx} {T : Env1} (hr : X.A.units + 64 < cLine) : CmL X T .Gt (rGtD X.K) gtT := ⟨op_gtD hr, ol_gtT⟩
/-! ### a != b, b a copy of the list a (or a itself) -/
def atm : LV → Bool
  | .non => true
  | .bl _ => true
  | .int _ => true
  | .str _ => true
  | .ref _ => true
  | _ => false
def sameA : LV → LV → Bool
  | .non, .non => true
  | .bl a, .bl b => a == b
  | .int a, .int b => a == b
  | .str a, .str b => decide (a = b)
  | .ref a, .ref b => a == b
  | _, _ => false
def sameAs : List LV → List LV → Bool
  | [], [] => true
  | x :: xs, y :: ys => sameA x y && sameAs xs ys
  | _, _ => false
def rNeS (K : PySem.W.Frag) : R2 := fun x y H Q => ∃ a b xs, x = .ref a ∧ y = .ref b ∧ SqL K H a xs ∧ SqL K H b xs ∧ (∀ v ∈ xs, flatB v = true ∨ ∃ c, v = .ref c) ∧ Q (.bl false) H
theorem op_neS {X : Cx} (hu : X.A.units + 64 < cLine) : OpR X (compareOp .NotEq) (rNeS X.K) := by
  intro pins s σ H x y v u Q I rx ry h
  obtain ⟨a, b, xs, rfl, rfl, ha, hb, hx, q⟩ := h
  cases (show v = Value.ref a from rx)
  cases (show u = Value.ref b from ry)
  obtain ⟨us, r1, p1, _⟩ := I.list ha
  obtain ⟨ws, r2, p2, _⟩ := I.list hb
  have hsz : us.toArray.size = ws.toArray.size := by rw [List.size_toArray, List.size_toArray, ← r1.length, ← r2.length]
  have items : ∀ (zs : List V) (us ws : List Value), (∀ v ∈ zs, flatB v = true ∨ ∃ c, v = .ref c) → Vals zs us → Vals zs ws → ∀ (j : Nat) (j1 : j < us.length) (j2 : j < ws.length), SeqAt.EqAt X.A.in1 s us[j] ws[j] true := by
    intro zs
    induction zs with
    | nil =>
      intro us ws _ r1 r2 j j1 j2
      cases r1
      exact absurd j1 (Nat.not_lt_zero j)
    | cons z zs ih =>
      intro us ws hz r1 r2 j j1 j2
      cases r1 with
      | cons a1 b1 =>
        cases r2 with
        | cons a2 b2 =>
          cases j with
          | zero =>
            rcases hz z List.mem_cons_self with f | ⟨c, rfl⟩
            · exact eqAt_same a1 a2 f
            · obtain rfl := (show _ = Value.ref c from a1)
              obtain rfl := (show _ = Value.ref c from a2)
              exact SeqAt.EqAt.same _
          | succ j => exact ih _ _ (fun v hv => hz v (List.mem_cons_of_mem _ hv)) b1 b2 j (Nat.lt_of_succ_lt_succ j1) (Nat.lt_of_succ_lt_succ j2)
  refine SeqAt.RcNeAt.lists (e := fun _ => true) p1.isList p2.isList hsz (by omega) (fun j j1 j2 => ?_) X.prog X.w _ _ ?_
  · have := items xs us ws hx r1 r2 j (by simpa using j1) (by simpa using j2)
    simpa using this
  · exact ⟨.bl false, H, I, by simp [L2.RelV], q⟩
theorem atm_flat {K : PySem.W.Frag} {m : List Addr} {H : Hp} {v : LV} {x : V} (h : atm v = true) (rv : RV K m H v x) : flatB x = true ∨ ∃ c, x = .ref c := by
  cases v with
  | non => rw [show x = .non from rv]; exact .inl rfl
  | bl b => rw [show x = .bl b from rv]; exact .inl rfl
  | int b => rw [show x = .int b from rv]; exact .inl rfl
  | str b => rw [show x = .str b from rv]; exact .inl rfl
  | ref n =>
    unfold RV at rv
    obtain ⟨a, e, _⟩ := rv
    exact .inr ⟨a, e⟩
  | _ => cases h
theorem same_rel {K : PySem.W.Frag} {m : List Addr} {H : Hp} {v w : LV} {x y : V} (h : sameA v w = true) (rv : RV K m H v x) (rw : RV K m H w y) : x = y ∧ atm v = true := by
  unfold sameA at h
  split at h
  · unfold RV at rv rw; exact ⟨rv.trans rw.symm, rfl⟩
  · unfold RV at rv rw; rw [rv, rw, eq_of_beq h]; exact ⟨rfl, rfl⟩
  · unfold RV at rv rw; rw [rv, rw, eq_of_beq h]; exact ⟨rfl, rfl⟩
  · unfold RV at rv rw; rw [rv, rw, of_decide_eq_true h]; exact ⟨rfl, rfl⟩
  · have e := eq_of_beq h
    subst e
    unfold RV at rv rw
    obtain ⟨a, rfl, h1⟩ := rv
    obtain ⟨b, rfl, h2⟩ := rw
    rw [h1] at h2
    cases h2
    exact ⟨rfl, rfl⟩
  · cases h
theorem sames_rel {K : PySem.W.Frag} {m : List Addr} {H : Hp} : ∀ {vs ws : List LV} {xs ys : List V}, sameAs vs ws = true → RVs K m H vs xs → RVs K m H ws ys → xs = ys ∧ ∀ x ∈ xs, flatB x = true ∨ ∃ c, x = .ref c
  | [], [], xs, ys, _, rv, rw => by rw [rv.nilE, rw.nilE]; exact ⟨rfl, fun x hx => by cases hx⟩
  | [], _ :: _, _, _, h, _, _ => by cases h
  | _ :: _, [], _, _, h, _, _ => by cases h
  | v :: vs, w :: ws, xs, ys, h, rv, rw => by
    unfold sameAs at h
    rw [Bool.and_eq_true] at h
    unfold RVs at rv rw
    obtain ⟨x, r, rfl, h1, h2⟩ := rv
    obtain ⟨y, r', rfl, k1, k2⟩ := rw
    obtain ⟨e, a⟩ := same_rel h.1 h1 k1
    obtain ⟨e2, a2⟩ := sames_rel h.2 h2 k2
    subst e e2
    refine ⟨rfl, fun z hz => ?_⟩
    rcases List.mem_cons.mp hz with rfl | hz
    · exact atm_flat a h1
    · exact a2 z hz
def isD1 (v w : LV) (S : Sto) : Bool := match v, w with
  | .ref n, .ref k => n == k && (match S[n]? with
    | some (.dct [(_, .int _)]) => true
    | _ => false)
  | _, _ => false
def neX : Op2 := fun v w S => match eqV2 v w S with
  | some b => .ok (.bl !b) S
  | none => if isD1 v w S = true then .ok (.bl false) S else match lsO v S, lsO w S with
    | some xs, some ys => if sameAs xs ys = true then .ok (.bl false) S else .no
    | _, _ => .no
def rNeX (K : PySem.W.Frag) : R2 := fun x y H Q => (rNeU K x y H Q ∨ rNeS K x y H Q) ∨ rNeDA x y H Q
theorem ol_neX {K : PySem.W.Frag} {T : Env1} : OpL K T (rNeX K) neX := fun m S H v w x y Q W r rv rw h => by
  unfold neX at h
  split at h
  · rename_i b hb
    exact .inl (.inl (ol_ne m S H v w x y Q W r rv rw (by unfold neL; rw [hb]; exact h)))
  · split at h
    · rename_i hd
      unfold isD1 at hd
      split at hd
      · rename_i n k
        rw [Bool.and_eq_true] at hd
        obtain ⟨e, hd⟩ := hd
        have e := eq_of_beq e
        subst e
        split at hd
        · rename_i key i hn
          unfold RV at rv rw
          obtain ⟨a, rfl, h1⟩ := rv
          obtain ⟨b, rfl, h2⟩ := rw
          rw [h1] at h2
          cases h2
          obtain ⟨ws, q1, q2, q3⟩ := r.ob _ a _ h1 hn
          obtain ⟨w, rfl⟩ : ∃ w, ws = [w] := by
            cases ws with
            | nil => cases q2
            | cons w t => cases t with
              | nil => exact ⟨w, rfl⟩
              | cons _ _ => cases q2
          unfold RVs at q3
          obtain ⟨u, t, e3, e4, _⟩ := q3
          cases e3
          have e4 : w.2 = V.int i := e4
          refine .inr ⟨a, a, [w], [w], rfl, rfl, q1, q1, rfl, fun p hp => ?_, h.here r rfl⟩
          rw [List.mem_singleton.mp hp]
          exact ⟨by simp [valV], by rw [e4]; rfl⟩
        · cases hd
      · cases hd
    · split at h
      · rename_i xs ys h1 h2
        split at h
        · rename_i hs
          obtain ⟨a, zs, rfl, ha, hz⟩ := lsO_ok r rv h1
          obtain ⟨b, zt, rfl, hb, hz2⟩ := lsO_ok r rw h2
          obtain ⟨e, k⟩ := sames_rel hs hz hz2
          subst e
          exact .inl (.inr ⟨a, b, zs, rfl, rfl, SqL.of ha, SqL.of hb, k, h.here r rfl⟩)
        · exact h.elim
      · exact h.elim
theorem c_neX {X : Cx} {T : Env1} (hr : X.A.units + 64 < cLine) : CmL X T .NotEq (rNeX X.K) neX := ⟨OpR.or (OpR.or (op_neU hr) (op_neS hr)) (op_ne_dictA (by omega)), ol_neX⟩
end LL


set_option Elab.async false
set_option linter.all false
set_option maxRecDepth 100000
set_option maxHeartbeats 2000000
/-! The logical layer: comprehensions over what is known by its items (enumerate). -/
namespace LL
open PySem PySem.Spec PyProof.Rows L2
/-- what is walked, at each store behind S -/
structure Wk {β : Type} (S : Sto) (l : LIt) (ws : List β) (g : β → LV) : Prop where
  n : l.n = ws.length
  it : ∀ (U : Sto) (i : Nat) (b : β), ws[i]? = some b → l.item i (S ++ U) = some (g b)
  fine : ∀ U : Sto, l.fine (S ++ U) = true
theorem Wk.of {β : Type} {S : Sto} {l : LIt} {ws : List β} {g : β → LV} (h : ItIs S l (ws.map g)) : Wk S l ws g :=
  ⟨by rw [h.n, List.length_map], fun U i b e => h.app.item (by rw [List.getElem?_map, e]; rfl), fun U => h.app.fine⟩
theorem Wk.enum {β : Type} {S : Sto} {l : LIt} {ws : List β} {g : β → LV} (h : Wk S l ws g) : Wk S (enumI l) (ws.zipIdx) (fun p => .tup [.int (p.2 : Nat), g p.1]) :=
  ⟨by show l.n = _; rw [h.n, List.length_zipIdx], fun U i b e => by
    rw [List.getElem?_zipIdx, Option.map_eq_some_iff] at e
    obtain ⟨w, hw, rfl⟩ := e
    show (l.item i (S ++ U)).map _ = _
    rw [h.it U i w hw]
    simp, fun U => h.fine U⟩
theorem lcKx_map {β : Type} {lg : LG} {ft fe : LE} {ds : Sl} {S : Sto} {l : LIt} {ws : List β} {g : β → LV} (p : β → Bool) (f : β → LV) (hl : Wk S l ws g) (hs : ws.length ≤ 16777216)
    (h : ∀ b ∈ ws, ∀ acc, ∃ ds1, lg (g b) (S ++ [.lst acc]) ds = some ds1 ∧ ft ds1 (S ++ [.lst acc]) = .ok (.bl (p b)) (S ++ [.lst acc]) ∧ (p b = true → fe ds1 (S ++ [.lst acc]) = .ok (f b) (S ++ [.lst acc]))) :
    ∀ (k i : Nat) (acc : List LV), i + k = ws.length → acc.length ≤ i → lcK l lg ft fe ds S.length k i (S ++ [.lst acc]) = .ok (.ref S.length) (S ++ [.lst (acc ++ ((ws.drop i).filter p).map f)])
  | 0, i, acc, e, _ => by
    have : ws.drop i = [] := List.drop_eq_nil_of_le (by omega)
    rw [this]
    unfold lcK
    rw [if_pos (hl.fine _)]
    simp
  | k + 1, i, acc, e, ha => by
    have hi : i < ws.length := by omega
    rw [List.drop_eq_getElem_cons hi]
    obtain ⟨ds1, h1, h2, h3⟩ := h ws[i] (List.getElem_mem hi) acc
    unfold lcK
    rw [hl.it [.lst acc] i ws[i] (List.getElem?_eq_getElem hi)]
    simp only
    rw [h1]
    simp only
    rw [h2]
    cases ht : p ws[i] with
    | true =>
      simp only
      rw [h3 ht]
      simp only
      unfold lcA
      rw [show (S ++ [LO.lst acc])[S.length]? = some (.lst acc) by rw [get_app0]; rfl]
      simp only
      rw [if_pos (by unfold small; exact decide_eq_true (by omega)), set_app0]
      show lcK l lg ft fe ds S.length k (i + 1) (S ++ [.lst (acc ++ [f ws[i]])]) = _
      rw [lcKx_map p f hl hs h k (i + 1) _ (by omega) (by simp; omega), List.filter_cons, if_pos ht, List.map_cons, List.append_assoc]
      rfl
    | false =>
      simp only
      rw [lcKx_map p f hl hs h k (i + 1) _ (by omega) (by omega), List.filter_cons, if_neg (by rw [ht]; simp)]
theorem lcX_map {β : Type} {t : Bool} {lg : LG} {ft fe : LE} {ds : Sl} {S : Sto} {l : LIt} {ws : List β} {g : β → LV} (p : β → Bool) (f : β → LV) (hl : Wk S l ws g) (hs : ws.length ≤ 16777216)
    (h : ∀ b ∈ ws, ∀ acc, ∃ ds1, lg (g b) (S ++ [.lst acc]) ds = some ds1 ∧ ft ds1 (S ++ [.lst acc]) = .ok (.bl (p b)) (S ++ [.lst acc]) ∧ (p b = true → fe ds1 (S ++ [.lst acc]) = .ok (f b) (S ++ [.lst acc])))
    (hlow : ∀ b ∈ ws, p b = true → lowV S.length (f b) = true) : lcR t lg ft fe ds (.ok l S) = newL t ((ws.filter p).map f) S := by
  show gcG t S (lcK l lg ft fe ds S.length l.n 0 (S ++ [.lst []])) = _
  rw [hl.n, lcKx_map p f hl hs h ws.length 0 [] (by omega) (by simp), List.drop_zero, List.nil_append]
  have low : lowVs S.length ((ws.filter p).map f) = true := lows_all.mpr fun v hv => by
    obtain ⟨b, hb, rfl⟩ := List.mem_map.mp hv
    obtain ⟨h1, h2⟩ := List.mem_filter.mp hb
    exact hlow b h1 h2
  cases t with
  | true => rw [gcG_t, gcT_new0 rfl low]; rfl
  | false => rw [gcG_f, gc_frz0 rfl low]; rfl
theorem lcX_all {β : Type} {t : Bool} {lg : LG} {fe : LE} {ds : Sl} {S : Sto} {l : LIt} {ws : List β} {g : β → LV} (f : β → LV) (hl : Wk S l ws g) (hs : ws.length ≤ 16777216)
    (h : ∀ b ∈ ws, ∀ acc, ∃ ds1, lg (g b) (S ++ [.lst acc]) ds = some ds1 ∧ fe ds1 (S ++ [.lst acc]) = .ok (f b) (S ++ [.lst acc])) (hlow : ∀ b ∈ ws, lowV S.length (f b) = true) : lcR t lg lYes fe ds (.ok l S) = newL t (ws.map f) S := by
  rw [lcX_map (fun _ => true) f hl hs (fun b hb acc => by
    obtain ⟨ds1, h1, h2⟩ := h b hb acc
    exact ⟨ds1, h1, rfl, fun _ => h2⟩) (fun b hb _ => hlow b hb)]
  rw [List.filter_eq_self.mpr (by simp)]
/-! data in order: pairs of ints -/
def pv (p : Int × Int) : LV := .tup [.int p.1, .int p.2]
theorem pv_srt {ps : List (Int × Int)} (h : ps.length ≤ 16777216) : srtOk (ps.map pv) = true := by
  unfold srtOk
  have e1 : (ps.map pv).all (dz 60) = true := by simp [dz, pv]
  have e2 : alk (ps.map pv) = true := by
    unfold alk
    rw [List.all_eq_true]
    intro x hx
    obtain ⟨p, _, rfl⟩ := List.mem_map.mp hx
    rw [List.all_eq_true]
    intro y hy
    obtain ⟨q, _, rfl⟩ := List.mem_map.mp hy
    rfl
  have e3 : (ps.map pv).all isNT = true := by simp [isNT, pv]
  rw [e1, e2, e3]
  unfold small
  simpa using h
noncomputable def sortP (ps : List (Int × Int)) : List (Int × Int) := ps.mergeSort fun p q => decide (p.1 < q.1 ∨ (p.1 = q.1 ∧ p.2 ≤ q.2))
theorem sortV_pairs (ps : List (Int × Int)) : sortV (ps.map pv) = (sortP ps).map pv := by
  unfold sortV sortP
  refine (PySem.W.sort_maps (f := pv) (r := fun p q => decide (p.1 < q.1 ∨ (p.1 = q.1 ∧ p.2 ≤ q.2))) (s := PySem.W.dataLe false pd) (l := ps) fun a _ b _ => ?_).symm
  have := congrFun (congrFun (PySem.W.dataLe_ii (fun p : Int × Int => p.1) (fun p => p.2)) a) b
  exact this.symm
theorem sortP_perm (ps : List (Int × Int)) : (sortP ps).Perm ps := List.mergeSort_perm ps _
theorem sortP_pw (ps : List (Int × Int)) : (sortP ps).Pairwise fun p q => p.1 < q.1 ∨ (p.1 = q.1 ∧ p.2 ≤ q.2) := by
  have q := List.pairwise_mergeSort (le := fun p q : Int × Int => decide (p.1 < q.1 ∨ (p.1 = q.1 ∧ p.2 ≤ q.2))) (fun a b c h1 h2 => by
    simp only [decide_eq_true_eq] at h1 h2 ⊢
    omega) (fun a b => by
    simp only [Bool.or_eq_true, decide_eq_true_eq]
    omega) ps
  exact q.imp fun h => by simpa using h
theorem sorted_pairs {t : Bool} {S : Sto} {v : LV} {ps : List (Int × Int)} (hv : lsO v S = some (ps.map pv)) (h : ps.length ≤ 16777216) : sortedG t [v] S = newL t ((sortP ps).map pv) S := by
  unfold sortedG
  simp only [hv, pv_srt h, if_true]
  rw [sortV_pairs]
theorem argBest_le (f : Nat → Nat → Bool) : ∀ k, argBest f k ≤ k
  | 0 => Nat.le_refl _
  | k + 1 => by
    unfold argBest
    have := argBest_le f k
    split <;> omega
/-- what is told is one of them -/
theorem best_pairs {q : PyData → PyData → Bool} {S : Sto} {v : LV} {ps : List (Int × Int)} (hv : lsO v S = some (ps.map pv)) (h : ps.length ≤ 16777216) (h0 : ps ≠ []) : ∃ p ∈ ps, bestL q [v] S = .ok (pv p) S := by
  have hp : 0 < ps.length := by cases ps with | nil => exact absurd rfl h0 | cons _ _ => simp
  have hb : bestI q (ps.map pv) < ps.length := by
    have := argBest_le (fun i j => q (pd ((ps.map pv).getD i .non)) (pd ((ps.map pv).getD j .non))) ((ps.map pv).length - 1)
    unfold bestI
    rw [List.length_map] at this ⊢
    omega
  refine ⟨ps[bestI q (ps.map pv)], List.getElem_mem hb, ?_⟩
  unfold bestL
  simp only [hv, pv_srt h, List.length_map, Bool.true_and]
  rw [if_pos (by simpa using hp)]
  congr 1
  rw [List.getD_eq_getElem?_getD, List.getElem?_map, List.getElem?_eq_getElem hb]
  rfl
theorem gt_pairs {S : Sto} (p q : Int × Int) : gtT (pv p) (pv q) S = .ok (.bl (decide (q.1 < p.1 ∨ (q.1 = p.1 ∧ q.2 < p.2)))) S := by
  have e : PySem.W.dataLt (pd (pv q)) (pd (pv p)) = decide (q.1 < p.1 ∨ (q.1 = p.1 ∧ q.2 < p.2)) := PySem.W.dataLt_ii q.1 q.2 p.1 p.2
  unfold gtT
  rw [if_pos (by rfl), e]
end LL


set_option Elab.async false
set_option linter.all false
set_option maxRecDepth 100000
set_option maxHeartbeats 2000000
/-! The logical layer: sorted of a dict whose keys are tuples; how often a text stands in a text. -/
namespace LL
open PySem PySem.Spec PyProof.Rows L2
theorem reads_keys {h : Heap} : ∀ {ks : List Key} {us : List Value}, Vals (ks.map kV) us → ReadsAll h us (pds (ks.map keyV)) []
  | [], us, r => by cases r; exact .nil
  | .inl i :: ks, us, r => by
    cases r with
    | cons r1 r2 =>
      obtain ⟨t, rfl⟩ := r1
      exact ReadsAll.cons (as := []) (bs := []) (.int i t) (reads_keys r2)
  | .inr z :: ks, us, r => by
    cases r with
    | cons r1 r2 =>
      obtain ⟨t, rfl⟩ := r1
      exact ReadsAll.cons (as := []) (bs := []) (.str z t) (reads_keys r2)
/-- sorted(d), the keys of d tuples that are alike -/
def rSrtT : List V → Hp → VK → Prop := fun xs H Q => ∃ (a : Addr) (kvs : List (List Key × V)), xs = [.ref a] ∧ H a = some (.dT kvs) ∧ srtOk (kvs.map fun kv => keyT kv.1) = true ∧
  ∀ (p : Addr) (L : List (List Key × Addr)), L.map (·.1) = kvs.map (·.1) → (∀ x ∈ L, H x.2 = some (.tup (x.1.map kV))) → H p = none → Q (.ref p) (upd H p (.lst ((L.mergeSort (PySem.W.dataLe false fun x => pd (keyT x.1))).map fun x => V.ref x.2)))
theorem each_key {h : Heap} {L : List (List Key × Addr)} {P : Value → List Key × Addr → Prop} (hp : ∀ x ∈ L, P (.ref x.2) x) : PySem.W.EachIs P (L.map fun x => Value.ref x.2) L := by
  induction L with
  | nil => exact .nil
  | cons x L ih => exact .cons (hp x List.mem_cons_self) (ih fun y hy => hp y (List.mem_cons_of_mem _ hy))
theorem key_vals : ∀ {M : List (List Key × Addr)} {us : List Value}, PySem.W.EachIs (fun u (x : List Key × Addr) => u = Value.ref x.2) us M → Vals (M.map fun x => V.ref x.2) us
  | [], us, h => by cases h; exact .nil
  | x :: M, us, h => by
    cases h with
    | cons h1 h2 => exact .cons h1 (key_vals h2)
theorem kt_keys {H : Hp} {kvs : List (List Key × V)} {ts : List (List Key × Addr × Value)} (pr : Paired (fun (p : List Key × V) (q : List Key × Addr × Value) => p.1 = q.1 ∧ H q.2.1 = some (.tup (p.1.map kV)) ∧ L2.RelV p.2 q.2.2) kvs ts) :
    ts.map (fun x => x.1) = kvs.map (·.1) ∧ ∀ y ∈ ts, H y.2.1 = some (.tup (y.1.map kV)) := by
  induction pr with
  | nil => exact ⟨rfl, fun y hy => by cases hy⟩
  | cons h _ ih =>
    refine ⟨by rw [List.map_cons, List.map_cons, ih.1, h.1]; all_goals rfl, fun y hy => ?_⟩
    rcases List.mem_cons.mp hy with rfl | hy
    · rw [← h.1]; exact h.2.1
    · exact ih.2 y hy
theorem cr_srtT {X : Cx} (hu : X.A.units + 64 < cLine) (hc : X.calm = true) : CallR X (.builtin "sorted") rSrtT := by
  intro pins s σ H vs us Q I r h
  obtain ⟨a, kvs, rfl, hd, hk, q⟩ := h
  rw [Vals.ref1 r]
  obtain ⟨k1, k2, k3, k4⟩ := srt_split hk
  obtain ⟨z, nm, ts, pr, ob, es, ep, ho, hx, hdt, he, _⟩ := (show ObjOk X.prog X.w H s.heap a (.dT kvs) from I.hok a _ hd)
  have n1 : es.size = ts.length := size_of_entries he
  have n2 : kvs.length = ts.length := Paired.length pr
  refine Calls.call_function_entry kind_sorted plain_sorted entry_sorted (args_sorted1 _) ?_; unfold Builtin.«sorted»
  refine wpAny_bind (m := checkCount "sorted" 1 1 _) (wpAny_pure ?_); refine wpAny_bind (PySem.W.kdu_collect (A := X.A.in1) (kdl_raw nm hx hdt) (I.ok.hd hc) ho (by omega) fun h2 t2 acc kp it => ?_)
  have items : acc.toList = ts.map fun x => Value.ref x.2.1 := by
    have ln : acc.toList.length = ts.length := by rw [Array.length_toList, it.1]; exact n1
    refine List.ext_getElem? fun j => ?_
    rw [List.getElem?_map]
    by_cases lt : j < ts.length
    · have hj : acc.toList[j]? = some acc.toList[j] := List.getElem?_eq_getElem (by omega)
      obtain ⟨en, h1, h3⟩ := it.2 j _ (by rw [← Array.getElem?_toList]; exact hj)
      have h4 := entry_at he j
      rw [h1, List.getElem?_eq_getElem lt] at h4
      have h5 : en = entryOfKey (tupleKind (mixKind X.prog X.w)) ts[j] := Option.some.inj h4
      rw [hj, h3, h5, List.getElem?_eq_getElem lt]
      all_goals rfl
    · rw [List.getElem?_eq_none (by omega), List.getElem?_eq_none (by omega)]
      all_goals rfl
  have I1 : Inv X pins σ H { s with heap := h2, toks := t2 } := I.kept kp
  obtain ⟨L, hL⟩ : ∃ L : List (List Key × Addr), L = ts.map fun x => (x.1, x.2.1) := ⟨_, rfl⟩
  have items2 : acc.toList = L.map fun x => Value.ref x.2 := by rw [items, hL, List.map_map]; all_goals rfl
  have keys : L.map (·.1) = kvs.map (·.1) := by
    rw [hL, List.map_map]
    exact (kt_keys pr).1
  have held : ∀ x ∈ L, H x.2 = some (.tup (x.1.map kV)) := fun x hx => by
    rw [hL] at hx
    obtain ⟨y, hy, rfl⟩ := List.mem_map.mp hx
    exact (kt_keys pr).2 y hy
  refine wpAny_bind (wpAny_newList ?_ (by rw [items2, List.length_map, hL, List.length_map]; omega))
  have hob : (h2.push (seqObj "list" acc.toList.toArray 0)).get? h2.objs.size = some (seqObj "list" acc.toList.toArray 0) := Heap.get?_push_size _ rfl
  show wpAny _ _ _ _ _ { s with heap := h2.push (seqObj "list" acc.toList.toArray 0), toks := t2 }
  have kp3 : ∀ (o : Obj) c u, h2.get? c = some u → (h2.push o).get? c = some u := fun o c u e => Heap.get?_push_of_some _ e
  have kl : L.map (fun x => keyT x.1) = kvs.map fun kv => keyT kv.1 := by
    have := congrArg (List.map keyT) keys
    rw [List.map_map, List.map_map] at this
    exact this
  have kp' : (L.map fun x => pd (keyT x.1)) = (kvs.map fun kv => keyT kv.1).map pd := by rw [← kl, List.map_map]; all_goals rfl
  rw [items2] at hob ⊢
  refine wpAny_bind (wpAny_holding (PySem.W.list_sort_data (R := fun u (x : List Key × Addr) => u = Value.ref x.2) (enc := fun x : List Key × Addr => pd (keyT x.1)) (bs := L) hob (each_key (h := h2) fun x _ => rfl) (each_key (h := h2) fun x hx => ?_)
    (by rw [kp']; exact alk_ok k2) (by rw [kp']; exact sortable_ok k3) (by rw [hL, List.length_map]; omega) (fun x hx => ?_) fun out ln eo => ?_))
  · obtain ⟨_, its, rv, o, hg, hcl, n, hdd⟩ := I1.hok x.2 _ (held x hx)
    exact ⟨[], .tuple (kp3 _ _ _ hg) hcl hdd (reads_keys rv), by simp⟩
  · have hm : keyT x.1 ∈ kvs.map fun kv => keyT kv.1 := by rw [← kl]; exact List.mem_map.mpr ⟨x, hx, rfl⟩
    have := dz_dep 60 _ (List.all_eq_true.mp k1 _ hm)
    show X.A.units + 1 + 1 + _ < cLine
    omega
  · obtain ⟨e', he'⟩ := PyProof.Rows.sortedHeap_at (vs := L.map fun x => Value.ref x.2) (out := out.toArray) hob
    have len2 : ((L.mergeSort (PySem.W.dataLe false fun x => pd (keyT x.1))).map fun x => V.ref x.2).length ≤ sizeLine := by rw [List.length_map, List.length_mergeSort, hL, List.length_map]; omega
    refine wpAny_pure ⟨_, rfl, .ref h2.objs.size, upd H h2.objs.size (.lst _), I1.laid (t' := t2) (fun c u e => ?_) (Nat.le_refl _) ⟨len2, out, e', key_vals eo, he'⟩, rfl, q _ L keys held (I1.hok.fresh (Nat.le_refl _))⟩
    have hb : c < h2.objs.size := Heap.lt_size e
    rw [PyProof.Rows.sortedHeap_old (Nat.ne_of_lt hb) (by show c < (h2.push _).objs.size; rw [Heap.size_push]; exact Nat.lt_succ_of_lt hb)]
    exact kp3 _ c u e
end LL
namespace LL
open PySem PySem.Spec PyProof.Rows L2
section
variable {K : PySem.W.Frag} {T : Env1}
noncomputable def sortedTG (t : Bool) : OpN
  | [.ref n], S => match S[n]? with
    | some (.dcT kvs) => if srtOk (kvs.map fun kv => keyT kv.1) = true then newL t (sortV (kvs.map fun kv => keyT kv.1)) S else .no
    | _ => .no
  | _, _ => .no
noncomputable abbrev sortedTL := sortedTG false
noncomputable abbrev sortedTT := sortedTG true
theorem keys_rv {m : List Addr} {H : Hp} : ∀ ks : List Key, RVs K m H (ks.map keyV) (ks.map kV)
  | [] => RVs.nil
  | k :: ks => RVs.cons keyV_rv (keys_rv ks)
theorem keyT_rv {m : List Addr} {H : Hp} {ks : List Key} {a : Addr} (h : H a = some (.tup (ks.map kV))) : RV K m H (keyT ks) (.ref a) := by
  unfold keyT RV
  exact ⟨a, _, rfl, h, keys_rv ks⟩
theorem keyTs_rv {m : List Addr} {H : Hp} : ∀ {L : List (List Key × Addr)}, (∀ x ∈ L, H x.2 = some (.tup (x.1.map kV))) → RVs K m H (L.map fun x => keyT x.1) (L.map fun x => V.ref x.2)
  | [], _ => RVs.nil
  | x :: L, h => RVs.cons (keyT_rv (h x List.mem_cons_self)) (keyTs_rv fun y hy => h y (List.mem_cons_of_mem _ hy))
theorem cl_sortedT {t : Bool} : CallL K T rSrtT (sortedTG t) := fun m S H vs xs Q W r rv h => by
  unfold sortedTG at h
  split at h
  · rename_i n
    obtain ⟨x, rfl, rx⟩ := rv.one
    split at h
    · rename_i kvs hn
      split at h
      · rename_i hk
        unfold RV at rx
        obtain ⟨a, rfl, hm⟩ := rx
        obtain ⟨ws, h1, h2, h3⟩ := r.ob n a _ hm hn
        have e : (ws.map fun kv => keyT kv.1) = kvs.map fun kv => keyT kv.1 := by
          have := congrArg (List.map keyT) h2
          rw [List.map_map, List.map_map] at this
          exact this
        refine ⟨a, ws, rfl, h1, by rw [e]; exact hk, fun p L hL hh hp => ?_⟩
        have e2 : sortV (kvs.map fun kv => keyT kv.1) = (L.mergeSort (PySem.W.dataLe false fun x => pd (keyT x.1))).map fun x => keyT x.1 := by
          have q := PySem.W.sort_maps (f := fun x : List Key × Addr => keyT x.1) (r := PySem.W.dataLe false fun x : List Key × Addr => pd (keyT x.1)) (s := PySem.W.dataLe false pd) (l := L) (fun _ _ _ _ => rfl)
          rw [q]
          unfold sortV
          congr 1
          rw [← e]
          have := congrArg (List.map keyT) hL
          rw [List.map_map, List.map_map] at this
          exact this.symm
        rw [e2] at h
        exact fin_new r (keyTs_rv fun x hx => hh x (List.mem_mergeSort.mp hx)) h p hp
      · exact h.elim
    · exact h.elim
  · exact h.elim
/-! text.count(text) -/
def countL : OpM
  | .str a, [.str b], S => .ok (.int (Txt.count a b)) S
  | _, _, _ => .no
theorem ml_count : MtL K T (fun x xs H Q => ∃ a b, x = .str a ∧ xs = [.str b] ∧ Q (.int (Txt.count a b)) H) countL := fun m S H v vs x xs Q W r rv rvs h => by
  unfold countL at h
  split at h
  · obtain ⟨y, rfl, ry⟩ := rvs.one
    cases (show y = .str _ from ry)
    exact ⟨_, _, rv, rfl, h.here r rfl⟩
  · exact h.elim
end
end LL
namespace LL
open PySem PySem.Spec PyProof.Rows L2
/-! {} for keys that are tuples -/
def lDnewT : LE := fun _ S => .ok (.ref S.length) (S ++ [.dcT []])
section
variable {X : Cx} {T : Env1} {ξ : Xi} {W : WX} {pos : Pos}
theorem fin_dcT {K : PySem.W.Frag} {m : List Addr} {S : Sto} {H : Hp} {Q : VK} {W : XK} (r : RelS K T m S H) (h : PoE K T m H (.ok (.ref S.length) (S ++ [.dcT []])) Q W) : ∀ p, H p = none → Q (.ref p) (upd H p (.dT [])) := fun p hp => by
  have E : Ext m H (m ++ [p]) (upd H p (.dT [])) := Ext.alloc r hp
  refine h _ _ _ E (r.alloc hp ⟨[], upd_same, rfl, RVs.nil⟩) ?_
  unfold RV
  exact ⟨p, rfl, by rw [← r.len, List.getElem?_append_right (Nat.le_refl _), Nat.sub_self] <;> rfl⟩
theorem pl_dnewT : PE X (.Dict [] [] pos) (tL X.K T ξ W lDnewT) := pe_imp pe_dnewT fun σ H Q ⟨m, S, ds, r, rs, h⟩ => fin_dcT r h
end
@[simp] theorem e_dnewT {ds : Sl} {S : Sto} : lDnewT ds S = .ok (.ref S.length) (S ++ [.dcT []]) := (rfl)
/-! what is known of dicts with tuple keys -/
section
variable {S : Sto} {n : Nat} {kvs : List (List Key × LV)} {xs : List LV} {ks : List Key} {w u : LV}
theorem got_dT (h : S[n]? = some (.dcT kvs)) (hk : keysL xs = some ks) : gotO (.ref n) (.tup xs) w S = .ok ((getK kvs ks).getD w) S := by
  simp [gotO, getOv, h, dKs, dTs, hk]
theorem isDc_dT (h : S[n]? = some (.dcT kvs)) : isDc (.ref n) S = true := by simp [isDc, h, dKs, dTs]
theorem put_dT (h : S[n]? = some (.dcT kvs)) (hk : keysL xs = some ks) (hs : kvs.length < 16777216) : putO (.ref n) (.tup xs) w S = some (S.set n (.dcT (putL kvs ks w))) := by
  have hz : small (kvs.length + 1) = true := by unfold small; exact decide_eq_true (by omega)
  simp [putO, h, hk, hz]
theorem ix_dT (h : S[n]? = some (.dcT kvs)) (hk : keysL xs = some ks) (hg : getK kvs ks = some u) : ixL (.ref n) (.tup xs) S = .ok u S := by
  simp [ixL, ixO, h, getOv, dKs, dTs, hk, hg]
end
/-! enumerate of a list -/
theorem enumI_of (xs : List LV) : enumI (itOf xs) = itOf (xs.zipIdx.map fun p => .tup [.int (p.2 : Nat), p.1]) := by
  unfold enumI itOf
  congr 1
  · simp
  · funext i S
    simp only [List.getElem?_map, List.getElem?_zipIdx, Option.map_map]
    cases xs[i]? <;> simp
/-! how often : stands in a text -/
theorem kind_col (z : Str) : ¬ Builtin.Str.strKind z < Builtin.Str.strKind colT := by
  have e : Builtin.Str.strKind colT = 1 := by decide +kernel
  rw [e]
  unfold Builtin.Str.strKind
  split
  · omega
  · split <;> omega
theorem count_col {z : Str} (h : 1 ≤ z.length) : Txt.count z colT = ((names z).length : Int) - 1 := by
  unfold Txt.count names Txt.split
  have c : (decide (z.length < colT.length) || decide (Builtin.Str.strKind z < Builtin.Str.strKind colT)) = false := by
    rw [decide_eq_false (kind_col z), decide_eq_false (by have : colT.length = 1 := rfl; omega)]
    rfl
  rw [c, if_neg (by decide)]
  cases e : Builtin.Str.occurrences z colT 0 z.length (z.length + 1) with
  | nil => simp
  | cons a t =>
    rw [if_neg (by simp)]
    unfold Builtin.Str.partsBetween
    simp
end LL


set_option Elab.async false
set_option linter.all false
set_option maxRecDepth 100000
set_option maxHeartbeats 2000000
/-! The logical layer: reversed(list) walked, enumerate(reversed(list)) walked. -/
namespace LL
open PySem PySem.Spec PyProof.Rows L2
/-! ### the kit's side: a list from its end, numbered -/
section
variable {prog : Program} {w : World} {A : Around} {E : Value → Shared → Prop} {s : Shared}
theorem nextOf_rev {it l : Addr} {i : Nat} {items : Array Value} {x : Value} {Q : Value → Shared → Prop} (hit : s.heap.IsRevIter it l (i : Int)) (hl : s.heap.IsList l items) (hx : items[i]? = some x)
    (hQ : ∀ h', h'.IsRevIter it l ((i : Int) - 1) → Heap.SameBut it s.heap h' → Q x { s with heap := h' }) : wpAny (model prog w) A (Builtin.SmallTypes.nextOf (.ref it)) Q E s := by
  have ty := hit.typeIs
  obtain ⟨o, ho, hc, hd⟩ := hit
  obtain ⟨ol, hol, _, nl, hdl⟩ := hl
  unfold Builtin.SmallTypes.nextOf
  refine wpAny_bind (wpAny_callSpecial?_slot (name := Str.ofString "__next__") ty F.slot_lri_next (wpAny_call_entry F.slot_lri_next ty F.entry_lri_next ?_ (F.args_lri_next_1 _)))
  unfold Builtin.«list_reverseiterator.__next__»
  refine wpAny_bind (wpAny_of_eq (a := (Value.ref it, [])) rfl ?_)
  dsimp only
  refine wpAny_bind (wpAny_field ho hd (x := rawInt (i : Int)) rfl ?_)
  show wpAny _ _ (if (i : Int) < 0 then _ else _) _ _ s
  rw [if_neg (show ¬ (i : Int) < 0 by omega)]
  show wpAny _ _ (field (.ref it) 0 >>= _) _ _ s
  refine wpAny_bind (wpAny_field ho hd (x := .ref l) rfl ?_)
  show wpAny _ _ (seqItems? (.ref l) >>= _) _ _ s
  refine wpAny_bind (wpAny_seqItems hol hdl ?_)
  simp only [Int.toNat_natCast, hx]
  refine wpAny_bind (wpAny_setField ho hd (by simp) ?_)
  first
  | refine wpAny_pure ⟨x, rfl, wpAny_pure (hQ _ ?_ (Heap.SameBut.update ..))⟩
  | refine wpAny_bind (wpAny_pure (wpAny_pure ⟨x, rfl, wpAny_pure (hQ _ ?_ (Heap.SameBut.update ..))⟩))
  refine ⟨_, Heap.get?_update_self _ ho (Obj.isFreed_of_fields (Obj.data_mapFields hd _)), (Obj.cls_mapFields ..).trans hc, ?_⟩
  rw [Obj.data_mapFields hd]
  simp
theorem nextOf_rev0 {it l : Addr} {Q : Value → Shared → Prop} (hh : A.handled = none) (hit : s.heap.IsRevIter it l (-1))
    (hE : ∀ h' e, Heap.ExtBut it s.heap h' → (∃ o, h'.get? e = some o ∧ o.cls = .type "StopIteration") → E (.ref e) { s with heap := h' }) : wpAny (model prog w) A (Builtin.SmallTypes.nextOf (.ref it)) Q E s := by
  have ty := hit.typeIs
  obtain ⟨o, ho, hc, hd⟩ := hit
  unfold Builtin.SmallTypes.nextOf
  refine wpAny_bind (wpAny_callSpecial?_slot (name := Str.ofString "__next__") ty F.slot_lri_next (wpAny_call_entry F.slot_lri_next ty F.entry_lri_next ?_ (F.args_lri_next_1 _)))
  unfold Builtin.«list_reverseiterator.__next__»
  refine wpAny_bind (wpAny_of_eq (a := (Value.ref it, [])) rfl ?_)
  dsimp only
  refine wpAny_bind (wpAny_field ho hd (x := rawInt (-1)) rfl ?_)
  show wpAny _ _ (if (-1 : Int) < 0 then _ else _) _ _ s
  rw [if_pos (show (-1 : Int) < 0 by decide)]
  refine wpAny_bind (wpAny_rule ?_)
  first
  | show wpAny _ _ (newExc (.type "StopIteration") [] >>= _) _ _ _
  | (refine wpAny_bind ?_; show wpAny _ _ (newExc (.type "StopIteration") [] >>= _) _ _ _)
  refine wpAny_bind ?_
  simp only [newExc, newTuple]
  refine wpAny_bind (wpAny_newObj_type ?_ (by size_fits))
  refine wpAny_bind (m := firstArgMember _ _) (wpAny_of_eq (a := Value.none) (by first | rfl | (simp only [firstArgMember]; rfl)) ?_)
  refine wpAny_newObj_type ?_ (by size_fits)
  simp only [raiseNew]
  refine wpAny_bind (wpAny_handled ?_)
  first
  | rw [show A.in1.handled = none from hh]
  | rw [hh]
  refine wpAny_bind (wpAny_pure (wpAny_throw (hE _ _ (((Heap.ExtBut.refl _ _).push _).push _) ⟨_, Heap.get?_push_size _ rfl, rfl⟩)))
end
theorem drawsRev {prog : Program} {w : World} {A : Around} (hh : A.handled = none) (it l : Addr) (hne : l ≠ it) (items : Array Value) :
    Draws prog w A it [it, l] items.size (fun i v => items[items.size - 1 - i]? = some v) (fun i h => i ≤ items.size ∧ h.IsRevIter it l ((items.size : Int) - 1 - (i : Int)) ∧ h.IsList l items) where
  live := fun _ _ st => let ⟨o, ho, _⟩ := st.2.1; ⟨o, ho⟩
  frame := fun _ _ _ st hk => ⟨st.1, st.2.1.at fun o e => hk it (by simp) o e, st.2.2.at fun o e => hk l (by simp) o e⟩
  item := fun i s Q E hi st hQ => by
    have hit := st.2.1
    rw [show (items.size : Int) - 1 - (i : Int) = ((items.size - 1 - i : Nat) : Int) by omega] at hit
    have hx : items[items.size - 1 - i]? = some (items[items.size - 1 - i]'(by omega)) := Array.getElem?_eq_getElem (by omega)
    refine nextOf_rev hit st.2.2 hx fun h' hit' hs' => hQ _ h' s.toks hx ⟨hi, ?_, st.2.2.at fun o eo => (hs'.2 l hne).trans eo⟩ hs'
    rw [show (items.size : Int) - 1 - ((i + 1 : Nat) : Int) = ((items.size - 1 - i : Nat) : Int) - 1 by omega]
    exact hit'
  done := fun s Q E st hE => by
    have hit := st.2.1
    rw [show (items.size : Int) - 1 - (items.size : Int) = -1 by omega] at hit
    exact nextOf_rev0 hh hit hE
/-- the list at a (n items at the start), from its end, each item in a new pair -/
def Itev (K : PySem.W.Frag) (a : Addr) (n : Nat) : It :=
  ⟨fun i H => i < n ∧ ∃ (xs : List V) (x : V), SqL K H a xs ∧ xs.length = n ∧ xs[n - 1 - i]? = some x, fun i H v H' => ∃ T x, v = .ref T ∧ H T = none ∧ H' = upd H T (.tup [.int (i : Nat), x]) ∧ ∀ xs, SqL K H a xs → xs[n - 1 - i]? = some x, fun i H => i = n ∧ ∃ xs : List V, SqL K H a xs ∧ xs.length = n⟩
theorem turn_erev {P : Program} {w : World} {K : PySem.W.Frag} {elts : List Expr} {kk : Nat} {tpos : Pos} (a e it : Addr) (n : Nat) :
    Turn P w K (.Tuple elts kk tpos) (Itev K a n) [e, it] e (fun i h => (∃ old, IsEnum h e it ((i : Nat) : Int) old) ∧ (i ≤ n ∧ h.IsRevIter it a ((n : Int) - 1 - (i : Nat))) ∧ e ≠ it) where
  mem := by simp
  obj := fun i h st b hb => by
    obtain ⟨⟨old, he⟩, ⟨_, o, ho, hc, hd⟩, _⟩ := st
    rcases (show b = e ∨ b = it by simpa using hb) with z | z
    · rw [z]; exact ⟨_, he, fun v q => nomatch q⟩
    · rw [z]; exact ⟨o, ho, fun v q => by rw [hd] at q; cases q⟩
  keep := fun i h h' st k => let ⟨⟨old, he⟩, hi, hne⟩ := st; ⟨⟨old, k e (by simp) _ he⟩, ⟨hi.1, hi.2.at fun o q => k it (by simp) o q⟩, hne⟩
  item := by
    intro X hP hw hK hc i pins s σ H E I hf st hg
    subst hP hw hK
    obtain ⟨⟨old, he⟩, ⟨hin, hit⟩, hne⟩ := st
    obtain ⟨hlt, xs, x, hq, hxl, hx⟩ := hg
    obtain ⟨its, rv, p, hz⟩ := I.list hq
    obtain ⟨u, hu, ru⟩ := rv.get hx
    have hl := rv.length
    have sz : its.toArray.size = n := by simp only [List.size_toArray]; omega
    have hel : e < s.heap.objs.size := Heap.lt_size he
    have hil : it < s.heap.objs.size := by obtain ⟨_, q, _⟩ := hit; exact Heap.lt_size q
    have ha : a < s.heap.objs.size := by obtain ⟨_, q, _⟩ := p.isList; exact Heap.lt_size q
    have nHe : a ≠ e := fun z => by
      obtain ⟨o, q, c, _⟩ := p.isList
      rw [z, he] at q
      cases q
      injection c with c
      exact absurd c (by decide)
    have nHi : a ≠ it := fun z => by
      obtain ⟨o, q, c, _⟩ := p.isList
      obtain ⟨o2, q2, c2, _⟩ := hit
      rw [z, q2] at q
      cases q
      rw [c2] at c
      injection c with c
      exact absurd c (by decide)
    have D := drawsRev (prog := X.prog) (w := X.w) (A := X.A.in1) (I.ok.hd hc) it a nHi its.toArray
    rw [sz] at D
    refine wpAny_pyNext_enum_itemD D he ⟨hin, hit, p.isList⟩ hlt hne (by simp; exact ⟨hne, fun z => nHe z.symm⟩) fun y h' tk hy ho hs' hT hsz hk => ?_
    have hy' : y = u := by
      have h1 : its.toArray[n - 1 - i]? = some u := by simpa using hu
      rw [h1] at hy
      exact (Option.some.inj hy).symm
    subst hy'
    refine ⟨_, rfl, wpAny_letOwnedTupleGo_enum (s := { s with heap := h', toks := tk + 1 }) ho fun h'' he' sb => ?_⟩
    have hT2 : h''.get? s.heap.objs.size = some { cls := .type "tuple", data := .seq #[.int i tk, y] } := (sb.2 _ (Nat.ne_of_gt hel)).trans hT
    have new : ObjOk X.prog X.w (upd H s.heap.objs.size (.tup [.int (i : Nat), x])) h'' s.heap.objs.size (.tup [.int (i : Nat), x]) :=
      ⟨by show 2 ≤ sizeLine; decide, [.int i tk, y], .cons ⟨_, rfl⟩ (.cons ru .nil), ⟨_, hT2, rfl, _, rfl⟩⟩
    have I1 : Inv X pins σ (upd H s.heap.objs.size (.tup [.int (i : Nat), x])) { s with heap := h'', toks := tk + 1 } :=
      I.turnedNew (ch := [e, it]) (fun b ob hb q => (sb.2 b (fun z => hb (by simp [z]))).trans (hk b ob (fun z => hb (by simp [z])) (fun z => hb (by simp [z])) q)) hf (Nat.le_refl _) new
    refine ⟨.ref s.heap.objs.size, _, I1, rfl, ⟨_, x, rfl, I.hok.fresh (Nat.le_refl _), rfl, fun ys hy => by rw [I.list_inj hy hq]; exact hx⟩, ⟨⟨y, ?_⟩, ⟨hlt, hs'.2.1.at fun o q => (sb.2 it (Ne.symm hne)).trans q⟩, hne⟩, fun b hb => ?_⟩
    · rw [show ((i + 1 : Nat) : Int) = (i : Int) + 1 by omega]; exact he'
    · have hb' : b < s.heap.objs.size := by
        rcases (show b = e ∨ b = it by simpa using hb) with z | z
        · rw [z]; exact hel
        · rw [z]; exact hil
      rw [upd_ne (Nat.ne_of_lt hb')]
      exact (hf b hb).1
  done := by
    intro X hP hw hK hc i pins s σ H E I hf st hg
    subst hP hw hK
    obtain ⟨⟨old, he⟩, ⟨hin, hit⟩, hne⟩ := st
    obtain ⟨rfl, xs, hq, hxl⟩ := hg
    obtain ⟨its, rv, p, hz⟩ := I.list hq
    obtain ⟨f0, f1, f2, f3, f4, f5⟩ := hf it (by simp)
    have hl := rv.length
    have sz : its.toArray.size = i := by simp only [List.size_toArray]; omega
    have nHi : a ≠ it := fun z => by
      obtain ⟨o, q, c, _⟩ := p.isList
      obtain ⟨o2, q2, c2, _⟩ := hit
      rw [z, q2] at q
      cases q
      rw [c2] at c
      injection c with c
      exact absurd c (by decide)
    have D := drawsRev (prog := X.prog) (w := X.w) (A := X.A.in1) (I.ok.hd hc) it a nHi its.toArray
    rw [sz] at D
    exact wpAny_pyNext_enum_endD D he ⟨hin, hit, p.isList⟩ fun h' eb => ⟨rfl, I.turned (t' := s.toks) (fun b o hb q => eb b o hb q) f0 f1 f3 f4 f5⟩
  self := fun A i s Q E st h => let ⟨⟨_, he⟩, _⟩ := st; wpAny_pyIter_enum he h

theorem meets_enum_rev (it l : Addr) (i : Int) : Meets (Builtin.«enumerate.__new__» ⟨[.type "enumerate", .ref it], []⟩) (fun _ R s => s.heap.IsRevIter it l i ∧
      R (.ok (.ret (.ref s.heap.objs.size))) { s with heap := s.heap.push { cls := .type "enumerate", data := .fields #[.none, .bool false, .ref it, rawInt 0, .none, .none] } }) :=
  .of_wp fun prog w A R s h => by
    obtain ⟨hp, g, d, tk, os⟩ := s; obtain ⟨h1, h⟩ := h
    have hsub := sub_enumerate
    have q1 : ∀ {A' : Around} {E : Value → Shared → Prop} {Q : Value → Shared → Prop}, Q (.ref it) ⟨hp, g, d, tk, os⟩ → wpAny (model prog w) A' (pyIter (.ref it)) Q E ⟨hp, g, d, tk, os⟩ :=
      fun q => wpAny_pyIter_revIter (s := ⟨hp, g, d, tk, os⟩) h1 q
    wp_walk using q1
    refine wpAny_stack_any fun st => wpAny_pure ?_
    split
    · rename_i c _ _ _ _ _
      cases (c == Value.type "enumerate")
      · wp_walk using q1
        exact ⟨_, rfl, h⟩
      · wp_walk using q1
        exact ⟨_, rfl, h⟩
    · wp_walk using q1
      exact ⟨_, rfl, h⟩
theorem call_enum_rev {prog : Program} {w : World} {A : Around} {E : Value → Shared → Prop} {s : Shared} {it l : Addr} {i : Int} {Q : Value → Shared → Prop} (hit : s.heap.IsRevIter it l i)
    (h : ∀ h', IsEnum h' s.heap.objs.size it 0 .none → (∀ b o, s.heap.get? b = some o → h'.get? b = some o) → Q (.ref s.heap.objs.size) { s with heap := h' }) :
    wpAny (model prog w) A (call (.type "enumerate") [.ref it]) Q E s := by
  refine callType_new F.called_enumerate (by decide) (F.typeCall_enumerate_1 _) (F.newCall_enumerate_1 _) (fun obj => F.args_object_init_2 obj _) F.entry_enumerate_new (meets_enum_rev it l i) ⟨hit, ?_⟩
  have he : IsEnum (s.heap.push { cls := .type "enumerate", data := .fields #[.none, .bool false, .ref it, rawInt 0, .none, .none] }) s.heap.objs.size it 0 .none := Heap.get?_push_size _ rfl
  exact ⟨⟨_, he, rfl⟩, h _ he fun b o x => Heap.get?_push_of_some _ x⟩
def iEnumRev (K : PySem.W.Frag) (te : TE) : TI := fun σ H R => te σ H fun v H1 => ∃ (a : Addr) (xs : List V), v = .ref a ∧ SqL K H1 a xs ∧ R (Itev K a xs.length) H1
theorem pi_enumRev {X : Cx} {elts : List Expr} {kk : Nat} {tpos : Pos} {e : Expr} {te : TE} {p p2 pos pos2 : Pos} (hg : Gl X "enumerate") (hm : X.mg "enumerate" = none) (hg2 : Gl X "reversed") (hm2 : X.mg "reversed" = none) (he : PE X e te)
    (hs : starEach [e] X.env = (false, eval e X.env) :: starEach [] X.env := by rfl)
    (hs2 : starEach [.Call (.Name "reversed" p2) [e] [] pos2] X.env = (false, eval (.Call (.Name "reversed" p2) [e] [] pos2) X.env) :: starEach [] X.env := by rfl) :
    PI X (.Tuple elts kk tpos) (.Call (.Name "enumerate" p) [.Call (.Name "reversed" p2) [e] [] pos2] [] pos) (iEnumRev X.K te) := by
  refine ⟨fun pins s σ H R I h => ?_⟩
  refine Call_ (ld_blt I hg hm boot_enumerate (PyProof.Rows.callWith_type1 (args_cons (Call_ (ld_blt I hg2 hm2 PyProof.Rows.boot_reversed (PyProof.Rows.callWith_type1 (args_cons (thn (he.run pins s σ H _ I h) fun u s1 ⟨v, H1, I1, r1, q1⟩ => args_nil ?_) hs) hs rfl))) hs2) hs2 rfl))
  obtain ⟨a, xs, ev, hq, q⟩ := q1
  subst ev
  obtain rfl : u = Value.ref a := r1
  obtain ⟨its, rv, p', hz⟩ := I1.list hq
  have hl := rv.length
  refine call_reversed_list p'.isList (args_nil ?_)
  have I2 : Inv X pins σ H1 { s1 with heap := s1.heap.push (revObj a ((its.toArray.size : Int) - 1)) } := I1.kept (t' := s1.toks) fun b o e => Heap.get?_push_of_some _ e
  have sz : (s1.heap.push (revObj a ((its.toArray.size : Int) - 1))).objs.size = s1.heap.objs.size + 1 := Heap.size_push ..
  have hit : (s1.heap.push (revObj a ((its.toArray.size : Int) - 1))).IsRevIter s1.heap.objs.size a ((its.toArray.size : Int) - 1) := ⟨_, Heap.get?_push_size _ rfl, rfl, rfl⟩
  refine call_enum_rev (s := { s1 with heap := s1.heap.push (revObj a ((its.toArray.size : Int) - 1)) }) hit fun h' he' hk => wpAny_pyIter_enum he' ?_
  have I3 : Inv X pins σ H1 { s1 with heap := h' } := I2.kept (t' := s1.toks) hk
  have he2 : IsEnum h' (s1.heap.objs.size + 1) s1.heap.objs.size 0 .none := by rw [← sz]; exact he'
  refine ⟨s1.heap.objs.size + 1, [s1.heap.objs.size + 1, s1.heap.objs.size], _, _, H1, by rw [← sz], I3, turn_erev a (s1.heap.objs.size + 1) s1.heap.objs.size xs.length, ⟨⟨.none, he2⟩, ⟨Nat.zero_le _, ?_⟩, Nat.succ_ne_self _⟩, fun b hb => ?_, q⟩
  · have e1 : ((its.toArray.size : Nat) : Int) - 1 = (xs.length : Int) - 1 - ((0 : Nat) : Int) := by simp only [List.size_toArray]; omega
    rw [← e1]
    exact hit.at fun o z => hk _ _ z
  · have hle : s1.heap.objs.size ≤ b := by
      rcases (show b = s1.heap.objs.size + 1 ∨ b = s1.heap.objs.size by simpa using hb) with z | z
      · rw [z]; exact Nat.le_succ _
      · rw [z]; exact Nat.le_refl _
    exact I1.fpOk hle (I1.hok.fresh hle)
/-! ### the layer's side -/
def revI (k n i : Nat) (S : Sto) : Option LV := match S[k]? with
  | some (.lst ys) => if ys.length = n then ys[n - 1 - i]? else none
  | _ => none
def itRev (k n : Nat) : LIt := ⟨n, fun i S => revI k n i S, fun S => refF k n S⟩
def revO (v : LV) (S : Sto) : RI := match v with
  | .lst xs => .ok (itOf xs.reverse) S
  | .ref n => match S[n]? with
    | some (.lst xs) => .ok (itRev n xs.length) S
    | _ => .no
  | _ => .no
def enrO (v : LV) (S : Sto) : RI := match v with
  | .lst xs => .ok (enumI (itOf xs.reverse)) S
  | .ref n => match S[n]? with
    | some (.lst xs) => .ok (enumI (itRev n xs.length)) S
    | _ => .no
  | _ => .no
def lRev (f : LE) : LI := fun ds S => bindI (f ds S) revO
def lEnumRev (f : LE) : LI := fun ds S => bindI (f ds S) enrO
section
variable {K : PySem.W.Frag} {T : Env1} {m0 : List Addr} {H0 : Hp}
theorem rev_at {α : Type} {xs : List α} {i : Nat} (h : i < xs.length) : xs.reverse[i]? = xs[xs.length - 1 - i]? := by rw [List.getElem?_reverse h]
theorem it_rev {a : Addr} {k n : Nat} (hm : m0[k]? = some a) : ItL K T m0 H0 (Itv K a n) (itRev k n) where
  stop := fun m S H E r h => Nat.le_refl _
  go := fun i m S H v hi E r h => by
    simp only [itRev, revI] at h
    split at h
    · rename_i ys hk
      split at h
      · obtain ⟨vs, h1, h2⟩ := r.at (E.get hm) hk
        obtain ⟨x, hx, _⟩ := h2.get h
        exact ⟨hi, vs, x, SqL.of h1, hx⟩
      · cases h
    · cases h
  yld := fun i x H' m S H v hi E r h y => by
    simp only [itRev, revI] at h
    split at h
    · rename_i ys hk
      split at h
      · obtain ⟨vs, h1, h2⟩ := r.at (E.get hm) hk
        obtain ⟨z, hz, rz⟩ := h2.get h
        obtain ⟨rfl, y2⟩ := y
        have := y2 vs (SqL.of h1)
        rw [hz] at this
        cases this
        exact ⟨Ext.refl, r, rz⟩
      · cases h
    · cases h
theorem it_rlst {a : Addr} {xs : List LV} {vs : List V} (ht : ∀ m H, Ext m0 H0 m H → SqL K H a vs) (hs : RVs K m0 H0 xs vs) : ItL K T m0 H0 (Itv K a vs.length) (itOf xs.reverse) where
  stop := fun m S H E r h => by
    show vs.length ≤ xs.reverse.length
    rw [List.length_reverse, hs.len]
    exact Nat.le_refl _
  go := fun i m S H v hi E r h => by
    have hi' : i < xs.length := by
      have : i < xs.reverse.length := hi
      rwa [List.length_reverse] at this
    have h' : xs.reverse[i]? = some v := h
    rw [rev_at hi'] at h'
    obtain ⟨x, hx, _⟩ := hs.get h'
    rw [hs.len] at hx
    exact ⟨by rw [← hs.len]; exact hi', vs, x, ht m H E, hx⟩
  yld := fun i x H' m S H v hi E r h y => by
    have hi' : i < xs.length := by
      have : i < xs.reverse.length := hi
      rwa [List.length_reverse] at this
    have h' : xs.reverse[i]? = some v := h
    rw [rev_at hi'] at h'
    obtain ⟨z, hz, rz⟩ := hs.get h'
    rw [hs.len] at hz
    obtain ⟨rfl, y2⟩ := y
    have := y2 vs (ht m _ E)
    rw [hz] at this
    cases this
    exact ⟨Ext.refl, r, rz.mono E⟩
theorem it_erev {a : Addr} {n : Nat} {l : LIt} (hn : l.n = n) (hl : ∀ m S H, Ext m0 H0 m H → RelS K T m S H → l.fine S = true → ∃ xs : List V, SqL K H a xs ∧ xs.length = n) (it : ItL K T m0 H0 (Itv K a n) l)
    (hg : ∀ i m S H v, i < n → Ext m0 H0 m H → RelS K T m S H → l.item i S = some v → ∃ (xs : List V) (x : V), SqL K H a xs ∧ xs.length = n ∧ xs[n - 1 - i]? = some x) : ItL K T m0 H0 (Itev K a n) (enumI l) where
  stop := fun m S H E r h => ⟨hn, hl m S H E r h⟩
  go := fun i m S H v hi E r h => by
    have h' : (l.item i S).map (fun v => LV.tup [.int (i : Nat), v]) = some v := h
    have hi' : i < n := by rw [← hn]; exact hi
    cases q : l.item i S with
    | none => rw [q] at h'; cases h'
    | some u => exact ⟨hi', hg i m S H u hi' E r q⟩
  yld := fun i x H' m S H v hi E r h y => by
    have h' : (l.item i S).map (fun v => LV.tup [.int (i : Nat), v]) = some v := h
    cases q : l.item i S with
    | none => rw [q] at h'; cases h'
    | some u =>
      rw [q] at h'
      cases h'
      obtain ⟨p, x0, rfl, hp, rfl, hx⟩ := y
      obtain ⟨_, _, ru⟩ := it.yld i x0 H m S H u hi E r q ⟨rfl, hx⟩
      have E1 : Ext m H m (upd H p (.tup [.int (i : Nat), x0])) := Ext.side hp
      refine ⟨E1, r.side hp, ?_⟩
      unfold RV
      exact ⟨p, _, rfl, upd_same, RVs.cons rfl (RVs.cons (ru.mono E1) RVs.nil)⟩
end

theorem itRev_at {K : PySem.W.Frag} {T : Env1} {m0 : List Addr} {H0 : Hp} {a : Addr} {k n : Nat} (hm : m0[k]? = some a) {m : List Addr} {S : Sto} {H : Hp} (E : Ext m0 H0 m H) (r : RelS K T m S H) (h : refF k n S = true) : ∃ xs : List V, SqL K H a xs ∧ xs.length = n := by
  unfold refF at h
  split at h
  · rename_i ys hk
    obtain ⟨vs, h1, h2⟩ := r.at (E.get hm) hk
    exact ⟨vs, SqL.of h1, by rw [← h2.len]; exact of_decide_eq_true h⟩
  · cases h
theorem itRev_go {K : PySem.W.Frag} {T : Env1} {m0 : List Addr} {H0 : Hp} {a : Addr} {k n : Nat} (hm : m0[k]? = some a) {i : Nat} {v : LV} {m : List Addr} {S : Sto} {H : Hp} (E : Ext m0 H0 m H) (r : RelS K T m S H) (h : revI k n i S = some v) : ∃ (xs : List V) (x : V), SqL K H a xs ∧ xs.length = n ∧ xs[n - 1 - i]? = some x := by
  unfold revI at h
  split at h
  · rename_i ys hk
    split at h
    · rename_i hl
      obtain ⟨vs, h1, h2⟩ := r.at (E.get hm) hk
      obtain ⟨x, hx, _⟩ := h2.get h
      exact ⟨vs, x, SqL.of h1, by rw [← h2.len]; exact hl, hx⟩
    · cases h
  · cases h
section
variable {X : Cx} {T : Env1} {ξ : Xi} {W : WX} {e tg : Expr} {pos p pos2 p2 tpos : Pos} {fe : LE}
theorem il_rev (hg : Gl X "reversed") (hm : X.mg "reversed" = none) (he : PE X e (tL X.K T ξ W fe)) (hs : starEach [e] X.env = (false, eval e X.env) :: starEach [] X.env := by rfl) :
    PI X tg (.Call (.Name "reversed" p) [e] [] pos) (tI X.K T ξ W (lRev fe)) :=
  pi_imp (RT.pi_revA hg hm he hs) fun σ H R ⟨m, S, ds, r, rs, h⟩ => tL.bindI (k := revO) r rs h fun v S1 m1 H1 x e2 E r1 rv h1 => by
    unfold revO at h1
    split at h1
    · obtain ⟨a, vs, rfl, na, ha, hs⟩ := rv.lstE
      exact ⟨a, vs, rfl, .inl ⟨SqL.of ha, h1 m1 H1 _ Ext.refl r1 (it_rlst (fun m2 H2 E2 => SqL.of (E2.fr a _ na ha)) hs)⟩⟩
    · split at h1
      · rename_i xs hn
        obtain ⟨a, vs, rfl, hm, ha, hs⟩ := rv.lst r1 hn
        refine ⟨a, vs, rfl, .inl ⟨SqL.of ha, h1 m1 H1 _ Ext.refl r1 ?_⟩⟩
        rw [hs.len]
        exact it_rev hm
      · exact h1.elim
    · exact h1.elim
theorem il_enumRev {elts : List Expr} {kk : Nat} (hg : Gl X "enumerate") (hm : X.mg "enumerate" = none) (hg2 : Gl X "reversed") (hm2 : X.mg "reversed" = none) (he : PE X e (tL X.K T ξ W fe))
    (hs : starEach [e] X.env = (false, eval e X.env) :: starEach [] X.env := by rfl)
    (hs2 : starEach [.Call (.Name "reversed" p2) [e] [] pos2] X.env = (false, eval (.Call (.Name "reversed" p2) [e] [] pos2) X.env) :: starEach [] X.env := by rfl) :
    PI X (.Tuple elts kk tpos) (.Call (.Name "enumerate" p) [.Call (.Name "reversed" p2) [e] [] pos2] [] pos) (tI X.K T ξ W (lEnumRev fe)) :=
  pi_imp (pi_enumRev hg hm hg2 hm2 he hs hs2) fun σ H R ⟨m, S, ds, r, rs, h⟩ => tL.bindI (k := enrO) r rs h fun v S1 m1 H1 x e2 E r1 rv h1 => by
    unfold enrO at h1
    split at h1
    · rename_i xs
      obtain ⟨a, vs, rfl, na, ha, hs⟩ := rv.lstE
      have sq : ∀ m2 H2, Ext m1 H1 m2 H2 → SqL X.K H2 a vs := fun m2 H2 E2 => SqL.of (E2.fr a _ na ha)
      refine ⟨a, vs, rfl, SqL.of ha, h1 m1 H1 _ Ext.refl r1 (it_erev (by show xs.reverse.length = _; rw [List.length_reverse, hs.len]) (fun m2 S2 H2 E2 _ _ => ⟨vs, sq m2 H2 E2, rfl⟩) (it_rlst sq hs) fun i m2 S2 H2 v hi E2 _ q => ?_)⟩
      have hi' : i < xs.length := by rw [hs.len]; exact hi
      have q : xs.reverse[i]? = some v := q
      rw [rev_at hi'] at q
      obtain ⟨z, hz, _⟩ := hs.get q
      rw [hs.len] at hz
      exact ⟨vs, z, sq m2 H2 E2, rfl, hz⟩
    · split at h1
      · rename_i xs hn
        obtain ⟨a, vs, rfl, hm, ha, hs⟩ := rv.lst r1 hn
        refine ⟨a, vs, rfl, SqL.of ha, h1 m1 H1 _ Ext.refl r1 ?_⟩
        rw [hs.len]
        exact it_erev rfl (fun m2 S2 H2 E2 r2 q => itRev_at hm E2 r2 q) (it_rev hm) fun i m2 S2 H2 v hi E2 r2 q => itRev_go hm E2 r2 q
      · exact h1.elim
    · exact h1.elim
end
/-! how to reckon -/
@[simp] theorem e_rev {fa : LE} {ds : Sl} {S : Sto} : lRev fa ds S = bindI (fa ds S) revO := (rfl)
@[simp] theorem e_enumRev {fa : LE} {ds : Sl} {S : Sto} : lEnumRev fa ds S = bindI (fa ds S) enrO := (rfl)
@[simp] theorem bindI_ok {k : LV → Sto → RI} {v : LV} {S : Sto} : bindI (.ok v S) k = k v S := (rfl)
theorem revI_get {S : Sto} {n i : Nat} {xs : List LV} {v : LV} (h : S[n]? = some (.lst xs)) (e : xs.reverse[i]? = some v) : revI n xs.length i S = some v := by
  have hi : i < xs.reverse.length := (List.getElem?_eq_some_iff.mp e).1
  rw [List.length_reverse] at hi
  rw [rev_at hi] at e
  unfold revI
  rw [h]
  simp [e]
theorem ItIs.rev {S : Sto} {n : Nat} {xs : List LV} (h : S[n]? = some (.lst xs)) : ItIs S (itRev n xs.length) xs.reverse := ⟨(List.length_reverse ..).symm, fun U => by
  have hn : (S ++ U)[n]? = some (.lst xs) := by rw [List.getElem?_append_left (List.getElem?_eq_some_iff.mp h).1]; exact h
  refine ⟨fun i v e => revI_get hn e, ?_⟩
  show refF n xs.length (S ++ U) = _
  unfold refF
  rw [hn]
  simp⟩
theorem ItIs.enum {S : Sto} {l : LIt} {xs : List LV} (h : ItIs S l xs) : ItIs S (enumI l) (xs.zipIdx.map fun p => .tup [.int (p.2 : Nat), p.1]) := ⟨by show l.n = _; rw [h.n, List.length_map, List.length_zipIdx], fun U => ⟨fun i v e => by
  rw [List.getElem?_map, List.getElem?_zipIdx, Option.map_map, Option.map_eq_some_iff] at e
  obtain ⟨w, hw, rfl⟩ := e
  show (l.item i (S ++ U)).map _ = _
  rw [h.app.item hw]
  simp, h.app.fine⟩⟩
theorem revO_r {S : Sto} {n : Nat} {xs : List LV} (h : S[n]? = some (.lst xs)) : revO (.ref n) S = .ok (itRev n xs.length) S := by
  show (match S[n]? with
    | some (.lst xs) => RI.ok (itRev n xs.length) S
    | _ => .no) = _
  rw [h]
theorem enrO_r {S : Sto} {n : Nat} {xs : List LV} (h : S[n]? = some (.lst xs)) : enrO (.ref n) S = .ok (enumI (itRev n xs.length)) S := by
  show (match S[n]? with
    | some (.lst xs) => RI.ok (enumI (itRev n xs.length)) S
    | _ => .no) = _
  rw [h]
/-! dicts walked -/
@[simp] theorem e_iterD {fa : LE} {ds : Sl} {S : Sto} : lIterD fa ds S = bindI (fa ds S) dictO := (rfl)
theorem dictO_k {S : Sto} {n : Nat} {kvs : List (Key × LV)} (h : S[n]? = some (.dck kvs)) : dictO (.ref n) S = .ok (itOf (kvs.map fun kv => keyV kv.1)) S := by
  unfold dictO
  simp only [h]
theorem lockO_k {S : Sto} {n : Nat} {kvs : List (Key × LV)} (h : S[n]? = some (.dct kvs)) : lockO S n = some (S.set n (.dck kvs)) := by
  unfold lockO
  rw [h]
theorem unlO_k {S : Sto} {n : Nat} {kvs : List (Key × LV)} (h : S[n]? = some (.dck kvs)) : unlO S n = some (S.set n (.dct kvs)) := by
  unfold unlO
  rw [h]
theorem lockS_e {fd : LE} {fb : LS} {ds ds' : Sl} {S S0 S' : Sto} {n : Nat} {kvs : List (Key × LV)} (hs : fd ds S = .ok (.ref n) S0) (hn : S[n]? = some (.dct kvs)) (hf : fb ds (S.set n (.dck kvs)) = .nx ds' S') (hn' : S'[n]? = some (.dck kvs)) :
    lLockS fd fb ds S = .nx ds' (S'.set n (.dct kvs)) := by
  unfold lLockS selE
  rw [hs]
  simp only
  rw [lockO_k hn]
  simp only
  rw [hf]
  unfold unlS
  simp only
  rw [unlO_k hn']
theorem lockE_e {fd fe : LE} {ds : Sl} {S S0 S' : Sto} {n : Nat} {v : LV} {kvs : List (Key × LV)} (hs : fd ds S = .ok (.ref n) S0) (hn : S[n]? = some (.dct kvs)) (hf : fe ds (S.set n (.dck kvs)) = .ok v S') (hn' : S'[n]? = some (.dck kvs)) :
    lLock fd fe ds S = .ok v (S'.set n (.dct kvs)) := by
  unfold lLock selE
  rw [hs]
  simp only
  rw [lockO_k hn]
  simp only
  rw [hf]
  unfold unlR
  simp only
  rw [unlO_k hn']
theorem ix_dck {S : Sto} {n : Nat} {kvs : List (Key × LV)} {v u : LV} {k : Key} (h : S[n]? = some (.dck kvs)) (hk : keyL v = some k) (hg : getK kvs k = some u) : ixL (.ref n) v S = .ok u S := by
  simp [ixL, ixO, h, getOv, dKs, hk, hg]
end LL


set_option Elab.async false
set_option linter.all false
set_option maxRecDepth 100000
set_option maxHeartbeats 2000000
/-! The logical layer: list.count, list.index; d.pop, d.setdefault; max with a default; extend, insert, reverse; more of texts. -/
namespace LL
open PySem PySem.Spec PyProof.Rows L2
/-! ### how often, where: lists of flat values -/
def rCntF (K : PySem.W.Frag) : V → List V → Hp → VK → Prop := fun x xs H Q => ∃ (a : Addr) (ys : List V) (y : V), x = .ref a ∧ xs = [y] ∧ SqL K H a ys ∧ flatV y = true ∧ ys.all flatV = true ∧ Q (.int (ys.countP fun z => eqV z y : Nat)) H
theorem count_eqU {x : V} : ∀ {xs : List V} {us : List Value}, Vals xs us → xs.all flatV = true → us.countP (eqU x) = xs.countP fun y => eqV y x
  | _, _, .nil, _ => rfl
  | y :: xs, u :: us, .cons r t, f => by
    rw [List.all_cons, Bool.and_eq_true] at f
    rw [List.countP_cons, List.countP_cons, count_eqU t f.2, eqU_of r f.1]
theorem mt_countF {X : Cx} : MtR X "list.count" (rCntF X.K) := by
  intro pins s σ H x xs v us Q I rx rxs h
  obtain ⟨a, ys, y, rfl, rfl, hs, fy, fys, q⟩ := h
  cases rx
  obtain ⟨u, rfl, ru⟩ := rxs.one
  obtain ⟨its, rv, ⟨⟨cls, dd, data, sl⟩, n, ho, hc, hdn, hd⟩, hlen⟩ := I.list hs
  simp only at hc hd
  subst hc hd
  refine call_meets PySem.F.slot_list_count ⟨_, ho, rfl⟩ PySem.F.entry_list_count (PySem.F.args_list_count_2 _ _)
    (SeqAt.list_countAt a its.toArray n dd sl u (eqU y)) ⟨ho, fun u' hu' => mem_eqAt ru fy rv fys u' (by simpa using hu'), ?_⟩
  have ec : its.toArray.toList.countP (eqU y) = ys.countP fun z => eqV z y := count_eqU rv fys
  refine ⟨.int (ys.countP fun z => eqV z y : Nat), H, I.tok _, ⟨s.toks, ?_⟩, q⟩
  rw [ec]
def cntF (w : LV) (xs : List LV) : Nat := (xs.map fv).countP fun z => eqV z (fv w)
def lcountL : OpM := fun v vs S => match vs with
  | [w] => match lsO v S with
    | some xs => if (flatL w && xs.all flatL) = true then .ok (.int (cntF w xs)) S else .no
    | none => .no
  | _ => .no
def idxL (w : LV) (xs : List LV) : Option Nat := (xs.map fv).findIdx? fun z => eqV z (fv w)
def lindexL : OpM := fun v vs S => match vs with
  | [w] => match lsO v S with
    | some xs => if (flatL w && xs.all flatL) = true then (match idxL w xs with
      | some j => .ok (.int (j : Nat)) S
      | none => .no) else .no
    | none => .no
  | _ => .no
section
variable {K : PySem.W.Frag} {T : Env1}
theorem ml_lcount : MtL K T (rCntF K) lcountL := fun m S H v vs x xs Q W r rv rvs h => by
  unfold lcountL at h
  split at h
  · obtain ⟨y, rfl, ry⟩ := rvs.one
    split at h
    · rename_i ys hn
      split at h
      · rename_i hf
        rw [Bool.and_eq_true] at hf
        obtain ⟨a, zs, rfl, ha, hs⟩ := lsO_ok r rv hn
        obtain ⟨e1, f1⟩ := fv_ok hf.1 ry
        obtain ⟨e2, f2⟩ := fvs_ok hf.2 hs
        refine ⟨a, zs, y, rfl, rfl, SqL.of ha, f1, f2, ?_⟩
        rw [e1, e2]
        exact h.here r rfl
      · exact h.elim
    · exact h.elim
  · exact h.elim
theorem ml_lindex : MtL K T (rIndex K) lindexL := fun m S H v vs x xs Q W r rv rvs h => by
  unfold lindexL at h
  split at h
  · obtain ⟨y, rfl, ry⟩ := rvs.one
    split at h
    · rename_i ys hn
      split at h
      · rename_i hf
        rw [Bool.and_eq_true] at hf
        split at h
        · rename_i j hj
          obtain ⟨a, zs, rfl, ha, hs⟩ := lsO_ok r rv hn
          obtain ⟨e1, f1⟩ := fv_ok hf.1 ry
          obtain ⟨e2, f2⟩ := fvs_ok hf.2 hs
          unfold idxL at hj
          obtain ⟨hl, hp, hno⟩ := List.findIdx?_eq_some_iff_getElem.mp hj
          refine ⟨a, zs, y, j, ((ys.map fv)[j]'hl), rfl, rfl, SqL.of ha, f1, f2, by rw [e2]; exact List.getElem?_eq_getElem hl, by rw [e1]; exact hp, fun k z' hk hz => ?_, h.here r rfl⟩
          rw [e2] at hz
          obtain ⟨hk2, ez⟩ := List.getElem?_eq_some_iff.mp hz
          have := hno k hk
          rw [e1, ← ez]
          simpa using this
        · exact h.elim
      · exact h.elim
    · exact h.elim
  · exact h.elim
end
/-! ### d.pop(k), k there -/
def dropL {κ : Type} [DecidableEq κ] (kvs : List (κ × LV)) (k : κ) : List (κ × LV) := kvs.filter fun kv => decide (kv.1 ≠ k)
theorem drop_rel {κ : Type} [DecidableEq κ] {K : PySem.W.Frag} {m : List Addr} {H : Hp} (k : κ) : ∀ {kvs : List (κ × LV)} {ws : List (κ × V)}, ws.map (·.1) = kvs.map (·.1) → RVs K m H (kvs.map (·.2)) (ws.map (·.2)) →
    (dropK ws k).map (·.1) = (dropL kvs k).map (·.1) ∧ RVs K m H ((dropL kvs k).map (·.2)) ((dropK ws k).map (·.2))
  | [], ws, e, h => by
    have : ws = [] := by simpa using e
    subst this
    exact ⟨rfl, RVs.nil⟩
  | p :: kvs, [], e, h => by simp at e
  | p :: kvs, q :: ws, e, h => by
    simp only [List.map_cons, List.cons.injEq] at e h
    unfold RVs at h
    obtain ⟨y, r, e2, h1, h2⟩ := h
    simp only [List.cons.injEq] at e2
    obtain ⟨rfl, rfl⟩ := e2
    have i := drop_rel k e.2 h2
    unfold dropL dropK at i ⊢
    by_cases c : p.1 = k
    · have c2 : q.1 = k := e.1.trans c
      have hp : decide (p.1 ≠ k) = false := decide_eq_false fun z => z c
      have hq : decide (q.1 ≠ k) = false := decide_eq_false fun z => z c2
      simp only [List.filter_cons, hp, hq, Bool.false_eq_true, if_false]
      exact i
    · have c2 : ¬ q.1 = k := fun z => c (e.1.symm.trans z)
      have hp : decide (p.1 ≠ k) = true := decide_eq_true c
      have hq : decide (q.1 ≠ k) = true := decide_eq_true c2
      simp only [List.filter_cons, hp, hq, if_true]
      refine ⟨?_, RVs.cons h1 i.2⟩
      rw [List.map_cons, List.map_cons, e.1, i.1]
def popK (v k : LV) (S : Sto) : R := match v with
  | .ref n => match S[n]? with
    | some (.dct kvs) => match keyL k with
      | some q => match getK kvs q with
        | some u => .ok u (S.set n (.dct (dropL kvs q)))
        | none => .no
      | none => .no
    | _ => .no
  | _ => .no
def lPop1 (fo fk : LE) : LE := fun ds S => (fo ds S).bind fun v S1 => if isDc v S1 = true then (fk ds S1).bind fun u S2 => popK v u S2 else .no
section
variable {X : Cx} {T : Env1} {ξ : Xi} {W : WX} {e f o : Expr} {pos p apos cpos : Pos} {fo fk fx : LE} {k : Nat}
theorem pl_pop1 (ho : PE X o (tL X.K T ξ W fo)) (he : PE X e (tL X.K T ξ W fk)) (m1 : M1 X o "pop" apos e cpos := by exact ⟨rfl, rfl, rfl, rfl⟩) : PE X (.Call (.Attribute o "pop" apos) [e] [] cpos) (tL X.K T ξ W (lPop1 fo fk)) :=
  pe_imp (pe_dpop1 ho he m1) fun σ H Q ⟨m, S, ds, r, rs, h⟩ => tL.bind r rs h fun v S1 m1 H1 x E r1 rs1 rv h1 => by
    split at h1
    · rename_i hd
      obtain ⟨a, n, rfl, rfl, d⟩ := isDc_ok r1 hd rv
      refine ⟨a, rfl, d, tL.bind r1 rs1 h1 fun u S2 m2 H2 y E2 r2 rs2 ru h2 => ?_⟩
      unfold popK at h2
      simp only at h2
      split at h2
      · rename_i kvs hn
        split at h2
        · rename_i q hq
          split at h2
          · rename_i w hw
            have rv2 := rv.mono E2
            unfold RV at rv2
            obtain ⟨a', ea, hm⟩ := rv2
            cases ea
            obtain ⟨ws, h3, h4, h5⟩ := r2.ob n a _ hm hn
            have ey := keyL_ok hq ru
            rcases getK_rel q h4 h5 with ⟨e1, _⟩ | ⟨v', z, e1, e2, rz⟩
            · rw [hw] at e1; cases e1
            · rw [hw] at e1
              cases e1
              refine ⟨ws, q, z, h3, ey, e2, ?_⟩
              have E3 : Ext m2 H2 m2 (upd H2 a (.dK (dropK ws q))) := Ext.write r2 (List.mem_of_getElem? hm) h3
              have p := drop_rel q h4 h5
              exact h2 m2 _ z E3 (r2.write hm h3 ⟨_, upd_same, p.1, p.2.mono E3⟩) (rz.mono E3)
          · exact h2.elim
        · exact h2.elim
      · exact h2.elim
    · exact h1.elim
end
/-! ### d.setdefault(k, x) -/
section
variable {X : Cx} {pins : List (Addr × Obj)} {σ : L2.St} {H : Hp} {s : Shared} {a b : Addr} {u r : Value} {d : V} {A : Around} {E : Value → Shared → Prop}
theorem d_setdT {kvs : List (List Key × V)} {k : List Key} {Q : Value → Shared → Prop} (hu : A.units + 1 < cLine) (I : Inv X pins σ H s) (e : H a = some (.dT kvs)) (eb : H b = some (.tup (k.map kV))) (rd : RelV d r) (hl : kvs.length < sizeLine)
    (h1 : ∀ v, valV kvs k = some v → ∀ (w' : Value) (s' : Shared), Inv X pins σ H s' → RelV v w' → Q w' s') (h2 : valV kvs k = none → ∀ (w' : Value) (s' : Shared), Inv X pins σ (upd H a (.dT (putK kvs k d))) s' → RelV d w' → Q w' s') :
    wpAny (model X.prog X.w) A (call (.builtin "dict.setdefault") [.ref a, .ref b, r]) Q E s := by
  obtain ⟨z, hd, xs, rel, dd⟩ := dt_of I.hok e
  have hz : xs.length ≤ sizeLine := by rw [← Paired.length rel]; exact z
  refine call_setdefault_heap (knd := tupleKind (mixKind X.prog X.w)) (k := k) (tupleKind_room_in1 hu) (key_of I.hok eb) hd dd (fun p hp => ?_) (fun hn h' dd' hs => ?_) hz
  · have q := rel.val k
    rw [hp] at q
    cases q0 : valV kvs k with
    | none => rw [q0] at q; exact (show False from q).elim
    | some v0 =>
      rw [q0] at q
      exact h1 v0 q0 _ _ (I.tok _) q
  · have q := rel.val k
    rw [hn] at q
    cases q0 : valV kvs k with
    | some v0 => rw [q0] at q; exact (show False from q).elim
    | none =>
      have hl2 : (putK kvs k d).length ≤ sizeLine := by have := length_putK kvs k d; omega
      obtain ⟨q1, es, ep, hq, h2', h3, h4, _, h5⟩ := dd'
      refine h2 q0 _ _ (d_write I (by rw [e]; exact True.intro) hs ⟨q1, hq⟩ ⟨hl2, hd, _, (rel.put k eb rd).keeps fun c ys ec => ?_, q1, es, ep, hq, h2', h3, h4, h5⟩) rd
      rw [upd_ne (ne_of ec e (fun z => nomatch z))]
      exact ec
end
def tDSetU (td ty tx : TE) : TE := fun σ H Q => td σ H fun x H1 => ∃ a, x = .ref a ∧ IsD H1 a ∧ ty σ H1 fun y H2 => tx σ H2 fun z H3 =>
  (∃ (kvs : List (Key × V)) (k : Key), H3 a = some (.dK kvs) ∧ y = kV k ∧ kvs.length < sizeLine ∧ (∀ v, valV kvs k = some v → Q v H3) ∧ (valV kvs k = none → Q z (upd H3 a (.dK (putK kvs k z))))) ∨
  (∃ (kvs : List (List Key × V)) (k : List Key) (b : Addr), H3 a = some (.dT kvs) ∧ y = .ref b ∧ H3 b = some (.tup (k.map kV)) ∧ kvs.length < sizeLine ∧ (∀ v, valV kvs k = some v → Q v H3) ∧ (valV kvs k = none → Q z (upd H3 a (.dT (putK kvs k z)))))
section
variable {X : Cx} {o e f : Expr} {td ty tx : TE} {apos cpos : Pos}
theorem pe_dsetU (hu : X.A.units + 1 < cLine) (ho : PE X o td) (he : PE X e ty) (hf : PE X f tx) (m : M2 X o "setdefault" apos e f cpos) : PE X (.Call (.Attribute o "setdefault" apos) [e, f] [] cpos) (tDSetU td ty tx) := by
  refine ⟨fun pins s σ H Q I h => ?_⟩
  refine wpAny_Call_method m.base m.few m.line PySem.F.plainAttrs_dict PySem.F.slot_dict_setdefault PySem.F.type_dict_setdefault (thn (ho.run pins s σ H _ I h) fun u s1 ⟨x, H1, I1, rx, a, ex, d, q1⟩ => ?_)
  subst ex
  obtain rfl : u = Value.ref a := rx
  obtain ⟨t1, t2, _⟩ := isD_at I1 d
  refine ⟨t1, t2, ?_⟩
  rw [m.trees]
  refine Calls.callWith_builtin rfl (Calls.evalArgs_plain (Calls.spliced_cons (thn (he.run pins s1 σ H1 _ I1 q1) fun iv s2 ⟨y, H2, I2, ry, q2⟩ =>
    Calls.spliced_cons (thn (hf.run pins s2 σ H2 _ I2 q2) fun fv s3 ⟨z, H3, I3, rz, q3⟩ => Calls.spliced_nil ?_))))
  rcases q3 with ⟨kvs, k, ea, ey, hl, q4, q5⟩ | ⟨kvs, k, b, ea, ey, eb, hl, q4, q5⟩
  · subst ey
    exact d_setd I3 ea ry rz hl (fun v hv w' s4 I4 rw' => ⟨v, _, I4, rw', q4 v hv⟩) fun hn w' s4 I4 rw' => ⟨z, _, I4, rw', q5 hn⟩
  · subst ey
    obtain rfl : iv = Value.ref b := ry
    exact d_setdT hu I3 ea eb rz hl (fun v hv w' s4 I4 rw' => ⟨v, _, I4, rw', q4 v hv⟩) fun hn w' s4 I4 rw' => ⟨z, _, I4, rw', q5 hn⟩
end
def setdK (v k z : LV) (S : Sto) : R := match v with
  | .ref n => match S[n]? with
    | some (.dct kvs) => match keyL k with
      | some q => if small (kvs.length + 1) = true then (match getK kvs q with
        | some u => .ok u S
        | none => .ok z (S.set n (.dct (putL kvs q z)))) else .no
      | none => .no
    | some (.dcT kvs) => match k with
      | .tup xs => match keysL xs with
        | some q => if small (kvs.length + 1) = true then (match getK kvs q with
          | some u => .ok u S
          | none => .ok z (S.set n (.dcT (putL kvs q z)))) else .no
        | none => .no
      | _ => .no
    | _ => .no
  | _ => .no
def lSetd (fo fk fx : LE) : LE := fun ds S => (fo ds S).bind fun v S1 => if isDc v S1 = true then (fk ds S1).bind fun u S2 => (fx ds S2).bind fun z S3 => setdK v u z S3 else .no
section
variable {X : Cx} {T : Env1} {ξ : Xi} {W : WX} {e f o : Expr} {pos p apos cpos : Pos} {fo fk fx : LE} {k : Nat}
theorem pl_setd (hr : Room k X.A) (ho : PE X o (tL X.K T ξ W fo)) (he : PE X e (tL X.K T ξ W fk)) (hf : PE X f (tL X.K T ξ W fx)) (m1 : M2 X o "setdefault" apos e f cpos := by exact ⟨rfl, rfl, rfl, rfl⟩) : PE X (.Call (.Attribute o "setdefault" apos) [e, f] [] cpos) (tL X.K T ξ W (lSetd fo fk fx)) :=
  pe_imp (pe_dsetU (hu_of hr) ho he hf m1) fun σ H Q ⟨m, S, ds, r, rs, h⟩ => tL.bind r rs h fun v S1 m1 H1 x E r1 rs1 rv h1 => by
    split at h1
    · rename_i hd
      obtain ⟨a, n, rfl, rfl, d⟩ := isDc_ok r1 hd rv
      refine ⟨a, rfl, d, tL.bind r1 rs1 h1 fun u S2 m2 H2 y E2 r2 rs2 ru h2 => tL.bind r2 rs2 h2 fun w S3 m3 H3 z E3 r3 rs3 rw h3 => ?_⟩
      have rv3 := (rv.mono E2).mono E3
      unfold RV at rv3
      obtain ⟨a', ea, hm⟩ := rv3
      cases ea
      unfold setdK at h3
      simp only at h3
      split at h3
      · rename_i kvs hn
        split at h3
        · rename_i q hq
          split at h3
          · rename_i hz
            obtain ⟨ws, h4, h5, h6⟩ := r3.ob n a _ hm hn
            have hl : ws.length = kvs.length := by have := congrArg List.length h5; simpa using this
            have hs := small_ok hz
            refine .inl ⟨ws, q, h4, keyL_ok hq (ru.mono E3), by omega, fun v' hv => ?_, fun hv => ?_⟩
            · rcases getK_rel q h5 h6 with ⟨_, e2⟩ | ⟨u', z', e1, e2, rz⟩
              · rw [hv] at e2; cases e2
              · rw [hv] at e2
                cases e2
                rw [e1] at h3
                exact h3.here r3 rz
            · rcases getK_rel q h5 h6 with ⟨e1, _⟩ | ⟨u', z', _, e2, _⟩
              · rw [e1] at h3
                have E4 : Ext m3 H3 m3 (upd H3 a (.dK (putK ws q z))) := Ext.write r3 (List.mem_of_getElem? hm) h4
                have p := put_rel q rw h5 h6
                exact h3 m3 _ z E4 (r3.write hm h4 ⟨_, upd_same, p.1, p.2.mono E4⟩) (rw.mono E4)
              · rw [hv] at e2; cases e2
          · exact h3.elim
        · exact h3.elim
      · rename_i kvs hn
        split at h3
        · rename_i xs
          split at h3
          · rename_i q hq
            split at h3
            · rename_i hz
              obtain ⟨ws, h4, h5, h6⟩ := r3.ob n a _ hm hn
              have hl : ws.length = kvs.length := by have := congrArg List.length h5; simpa using this
              have hs := small_ok hz
              obtain ⟨b, us, rfl, hb, hus⟩ := (ru.mono E3).tupE
              have eu := keysL_ok hq hus
              subst eu
              refine .inr ⟨ws, q, b, h4, rfl, hb, by omega, fun v' hv => ?_, fun hv => ?_⟩
              · rcases getK_rel q h5 h6 with ⟨_, e2⟩ | ⟨u', z', e1, e2, rz⟩
                · rw [hv] at e2; cases e2
                · rw [hv] at e2
                  cases e2
                  rw [e1] at h3
                  exact h3.here r3 rz
              · rcases getK_rel q h5 h6 with ⟨e1, _⟩ | ⟨u', z', _, e2, _⟩
                · rw [e1] at h3
                  have E4 : Ext m3 H3 m3 (upd H3 a (.dT (putK ws q z))) := Ext.write r3 (List.mem_of_getElem? hm) h4
                  have p := put_rel q rw h5 h6
                  exact h3 m3 _ z E4 (r3.write hm h4 ⟨_, upd_same, p.1, p.2.mono E4⟩) (rw.mono E4)
                · rw [hv] at e2; cases e2
            · exact h3.elim
          · exact h3.elim
        · exact h3.elim
      · exact h3.elim
    · exact h1.elim
end
/-! ### extend, reverse, insert -/
def extendL : OpM
  | .ref n, [w], S => match S[n]? with
    | some (.lst xs) => match lsO w S with
      | some ys => if small (xs.length + ys.length) = true then .ok .non (S.set n (.lst (xs ++ ys))) else .no
      | none => .no
    | _ => .no
  | _, _, _ => .no
def reverseL : OpM
  | .ref n, [], S => match S[n]? with
    | some (.lst xs) => .ok .non (S.set n (.lst xs.reverse))
    | _ => .no
  | _, _, _ => .no
def insertL : OpM
  | .ref n, [.int i, v], S => match S[n]? with
    | some (.lst xs) => if (small (xs.length + 1) && decide (0 ≤ i) && decide (i < 2 ^ 63)) = true then .ok .non (S.set n (.lst (xs.take i.toNat ++ [v] ++ xs.drop i.toNat))) else .no
    | _ => .no
  | _, _, _ => .no
theorem RVs.rev {K : PySem.W.Frag} {m : List Addr} {H : Hp} : ∀ {vs : List LV} {xs : List V}, RVs K m H vs xs → RVs K m H vs.reverse xs.reverse
  | [], xs, h => by rw [h.nilE]; exact RVs.nil
  | v :: vs, xs, h => by
    unfold RVs at h
    obtain ⟨y, r, rfl, h1, h2⟩ := h
    rw [List.reverse_cons, List.reverse_cons]
    exact RVs.append h2.rev (RVs.cons h1 RVs.nil)
section
variable {K : PySem.W.Frag} {T : Env1}
theorem ml_extend : MtL K T rExtend extendL := fun m S H v vs x xs Q W r rv rvs h => by
  unfold extendL at h
  split at h
  · rename_i n w
    obtain ⟨y, rfl, ry⟩ := rvs.one
    split at h
    · rename_i ys hn
      split at h
      · rename_i us hw
        split at h
        · rename_i hz
          obtain ⟨a, zs, rfl, hm, ha, hs⟩ := rv.lst r hn
          obtain ⟨b, qs, rfl, hb, hq⟩ := lsO_ok r ry hw
          refine ⟨a, b, zs, qs, rfl, rfl, ha, hb, ?_, ?_⟩
          · have := small_ok hz
            rw [← hs.len, ← hq.len]
            exact this
          · have E : Ext m H m (upd H a (.lst (zs ++ qs))) := Ext.write r (List.mem_of_getElem? hm) ha
            exact h m _ _ E (r.write hm ha ⟨_, upd_same, (hs.append hq).mono E⟩) rfl
        · exact h.elim
      · exact h.elim
    · exact h.elim
  · exact h.elim
theorem ml_reverse : MtL K T rReverse reverseL := fun m S H v vs x xs Q W r rv rvs h => by
  unfold reverseL at h
  split at h
  · rename_i n
    have := rvs.nilE
    subst this
    split at h
    · rename_i ys hn
      obtain ⟨a, zs, rfl, hm, ha, hs⟩ := rv.lst r hn
      refine ⟨a, zs, rfl, rfl, ha, ?_⟩
      have E : Ext m H m (upd H a (.lst zs.reverse)) := Ext.write r (List.mem_of_getElem? hm) ha
      exact h m _ _ E (r.write hm ha ⟨_, upd_same, hs.rev.mono E⟩) rfl
    · exact h.elim
  · exact h.elim
def rInsert : V → List V → Hp → VK → Prop := fun x vs H Q => ∃ (l : Addr) (xs : List V) (i : Int) (y : V), x = .ref l ∧ vs = [.int i, y] ∧ H l = some (.lst xs) ∧ xs.length < sizeLine ∧ 0 ≤ i ∧ i < 2 ^ 63 ∧ Q .non (upd H l (.lst (xs.take i.toNat ++ [y] ++ xs.drop i.toNat)))
theorem mt_insertR {X : Cx} : MtR X "list.insert" rInsert := mt_insert
theorem ml_insert : MtL K T rInsert insertL := fun m S H v vs x xs Q W r rv rvs h => by
  unfold insertL at h
  split at h
  · rename_i n i w
    obtain ⟨y, z, rfl, ry, rz⟩ := rvs.two
    split at h
    · rename_i ys hn
      split at h
      · rename_i hc
        simp only [Bool.and_eq_true, decide_eq_true_eq] at hc
        obtain ⟨⟨hz, h0⟩, h1⟩ := hc
        obtain ⟨a, zs, rfl, hm, ha, hs⟩ := rv.lst r hn
        refine ⟨a, zs, i, z, rfl, by rw [show y = .int i from ry], ha, ?_, h0, h1, ?_⟩
        · have := small_ok hz
          rw [← hs.len]
          omega
        · have E : Ext m H m (upd H a (.lst (zs.take i.toNat ++ [z] ++ zs.drop i.toNat))) := Ext.write r (List.mem_of_getElem? hm) ha
          exact h m _ _ E (r.write hm ha ⟨_, upd_same, (((hs.take i.toNat).append (RVs.cons rz RVs.nil)).append (hs.drop i.toNat)).mono E⟩) rfl
      · exact h.elim
    · exact h.elim
  · exact h.elim
end
/-! ### how to reckon -/
def pop1 (fk : LE) (ds : Sl) : R → R
  | .ok v S => if isDc v S = true then (fk ds S).bind fun u S2 => popK v u S2 else .no
  | .ex c fs S => .ex c fs S
  | .no => .no
def pop1b (v : LV) : R → R
  | .ok u S => popK v u S
  | .ex c fs S => .ex c fs S
  | .no => .no
def setd1 (fk fx : LE) (ds : Sl) : R → R
  | .ok v S => if isDc v S = true then (fk ds S).bind fun u S2 => (fx ds S2).bind fun z S3 => setdK v u z S3 else .no
  | .ex c fs S => .ex c fs S
  | .no => .no
def setd2 (v : LV) (fx : LE) (ds : Sl) : R → R
  | .ok u S => (fx ds S).bind fun z S3 => setdK v u z S3
  | .ex c fs S => .ex c fs S
  | .no => .no
def setd3 (v u : LV) : R → R
  | .ok z S => setdK v u z S
  | .ex c fs S => .ex c fs S
  | .no => .no
section
variable {fo fk fx : LE} {ds : Sl} {S : Sto} {v u z w : LV} {n : Nat} {kvs : List (Key × LV)} {tvs : List (List Key × LV)} {q : Key} {qs : List Key} {xs ys : List LV} {j : Nat}
@[simp] theorem e_pop1 : lPop1 fo fk ds S = pop1 fk ds (fo ds S) := by unfold lPop1; cases fo ds S <;> rfl
theorem pop1_ok (h : isDc v S = true) : pop1 fk ds (.ok v S) = pop1b v (fk ds S) := by
  show (if isDc v S = true then _ else _) = _
  rw [if_pos h]
  cases fk ds S <;> rfl
@[simp] theorem pop1b_ok : pop1b v (.ok u S) = popK v u S := (rfl)
theorem popK_ok (h : S[n]? = some (.dct kvs)) (hk : keyL u = some q) (hg : getK kvs q = some w) : popK (.ref n) u S = .ok w (S.set n (.dct (dropL kvs q))) := by simp only [popK, h, hk, hg]
@[simp] theorem e_setd : lSetd fo fk fx ds S = setd1 fk fx ds (fo ds S) := by unfold lSetd; cases fo ds S <;> rfl
theorem setd1_ok (h : isDc v S = true) : setd1 fk fx ds (.ok v S) = setd2 v fx ds (fk ds S) := by
  show (if isDc v S = true then _ else _) = _
  rw [if_pos h]
  cases fk ds S <;> rfl
@[simp] theorem setd2_ok : setd2 v fx ds (.ok u S) = setd3 v u (fx ds S) := by
  show (fx ds S).bind _ = _
  cases fx ds S <;> rfl
@[simp] theorem setd3_ok : setd3 v u (.ok z S) = setdK v u z S := (rfl)
theorem setdK_t (h : S[n]? = some (.dcT tvs)) (hk : keysL xs = some qs) (hl : tvs.length < 16777216) : setdK (.ref n) (.tup xs) z S = match getK tvs qs with | some w => .ok w S | none => .ok z (S.set n (.dcT (putL tvs qs z))) := by
  have hz : small (tvs.length + 1) = true := by unfold small; exact decide_eq_true (by omega)
  simp only [setdK, h, hk, hz, if_true]
theorem setdK_d (h : S[n]? = some (.dct kvs)) (hk : keyL u = some q) (hl : kvs.length < 16777216) : setdK (.ref n) u z S = match getK kvs q with | some w => .ok w S | none => .ok z (S.set n (.dct (putL kvs q z))) := by
  have hz : small (kvs.length + 1) = true := by unfold small; exact decide_eq_true (by omega)
  simp only [setdK, h, hk, hz, if_true]
theorem lcount_ok (h : lsO v S = some xs) (hf : (flatL w && xs.all flatL) = true) : lcountL v [w] S = .ok (.int (cntF w xs)) S := by simp only [lcountL, h, hf, if_true]
theorem lindex_ok (h : lsO v S = some xs) (hf : (flatL w && xs.all flatL) = true) (hj : idxL w xs = some j) : lindexL v [w] S = .ok (.int (j : Nat)) S := by simp only [lindexL, h, hf, if_true, hj]
theorem extend_ok (h : S[n]? = some (.lst xs)) (hw : lsO w S = some ys) (hl : xs.length + ys.length ≤ 16777216) : extendL (.ref n) [w] S = .ok .non (S.set n (.lst (xs ++ ys))) := by
  have hz : small (xs.length + ys.length) = true := by unfold small; exact decide_eq_true hl
  simp only [extendL, h, hw, hz, if_true]
theorem reverse_ok (h : S[n]? = some (.lst xs)) : reverseL (.ref n) [] S = .ok .non (S.set n (.lst xs.reverse)) := by simp only [reverseL, h]
theorem insert_ok {i : Int} (h : S[n]? = some (.lst xs)) (h0 : 0 ≤ i) (h1 : i < 2 ^ 63) (hl : xs.length < 16777216) : insertL (.ref n) [.int i, v] S = .ok .non (S.set n (.lst (xs.take i.toNat ++ [v] ++ xs.drop i.toNat))) := by
  have hz : (small (xs.length + 1) && decide (0 ≤ i) && decide (i < 2 ^ 63)) = true := by
    simp only [Bool.and_eq_true, decide_eq_true_eq]
    exact ⟨⟨by unfold small; exact decide_eq_true (by omega), h0⟩, h1⟩
  simp only [insertL, h, hz, if_true]
end
end LL


set_option Elab.async false
set_option linter.all false
set_option maxRecDepth 100000
set_option maxHeartbeats 2000000
/-! The logical layer: max(list, default=x). -/
namespace LL
open PySem PySem.Spec PyProof.Rows L2
theorem max_dflt (a v : Value) : argsOk "max" ⟨[a], [(Str.ofString "default", v)]⟩ := by unfold argsOk; kernel_rfl
section
variable {P0 : Program} {w0 : World} {B : Around} {E0 : Value → Shared → Prop} {s : Shared}
theorem maxD_walk {l : Addr} {us : Array Value} {d : Value} {Q : Value → Shared → Prop} {Pr : Nat → Value → Prop} (f : Nat → Nat → Bool) (hh : B.handled = none) (hl : s.heap.IsList l us) (hP : ∀ i v, us[i]? = some v → Pr i v) (hq : CmpKept P0 w0 B.in1 .Gt s.heap Pr f)
    (fin0 : us.size = 0 → ∀ h2 t2, Kept s.heap h2 → Q d { s with heap := h2, toks := t2 })
    (fin' : 0 < us.size → ∀ u h2 t2, us[argBest f (us.size - 1)]? = some u → Kept s.heap h2 → Q u { s with heap := h2, toks := t2 }) : wpAny (model P0 w0) B (call (.builtin "max") [.ref l] [(Str.ofString "default", d)]) Q E0 s := by
  have nm : (toString "max" ++ toString ".loop" : String) = "max.loop" := by decide
  refine kmk_tree F.kind_max F.plain_max F.entry_max (max_dflt _ _) ?_
  show wpAny _ B.in1 (Builtin.Builtins.bindParams "max" ["key", "default"] 0 ⟨[], [(Str.ofString "default", d)]⟩ >>= _) _ _ s
  refine wpAny_bind (wpAny_of_eq (show Builtin.Builtins.bindParams "max" ["key", "default"] 0 ⟨[], [(Str.ofString "default", d)]⟩ = pure [none, some d] from rfl) ?_)
  refine wpAny_bind (wpAny_pure ?_)
  have lt : l < s.heap.objs.size := by obtain ⟨_, e, _⟩ := hl; exact Heap.lt_size e
  refine wpAny_bind (wpAny_pyIter_list hl ?_)
  refine wpAny_bind (wpAny_newObj_type ?_)
  rw [nm]
  have gJ : s.heap.get? s.heap.objs.size = none := by
    cases e : s.heap.get? s.heap.objs.size with
    | none => rfl
    | some o => exact absurd (Heap.lt_size e) (Nat.lt_irrefl _)
  have gZ : s.heap.get? (s.heap.objs.size + 1) = none := by
    cases e : s.heap.get? (s.heap.objs.size + 1) with
    | none => rfl
    | some o => exact absurd (Heap.lt_size e) (Nat.not_lt.mpr (Nat.le_succ _))
  have sz : (s.heap.push { cls := .type "list_iterator", data := .fields #[.ref l, .int 0 0] }).objs.size = s.heap.objs.size + 1 := Heap.size_push _ _
  rw [sz]
  have k0 : Kept s.heap (s.heap.push { cls := .type "list_iterator", data := .fields #[.ref l, .int 0 0] }) := fun c o e => Heap.get?_push_of_some _ e
  have hZf : s.heap.objs.size + 1 ∉ [s.heap.objs.size, l] := fun z => by
    rcases List.mem_cons.mp z with z | z
    · exact Nat.succ_ne_self _ z
    · have e := List.mem_singleton.mp z
      rw [← e] at lt
      exact Nat.not_lt.mpr (Nat.le_succ _) lt
  have gz2 : ((s.heap.push { cls := .type "list_iterator", data := .fields #[.ref l, .int 0 0] }).push { cls := .type "list", dict := none, data := .seq #[] 0, slots := #[] }).get? (s.heap.objs.size + 1) = some { cls := .type "list", dict := none, data := .seq #[] 0, slots := #[] } := by
    rw [← sz]; exact Heap.get?_push_size _ rfl
  have Wk := Walks.list (prog := P0) (w := w0) (A := B.in1) hh s.heap.objs.size l (Nat.ne_of_lt lt) us
  by_cases hN : us.size = 0
  · refine wpAny_pure ⟨plainId_quiet F.plain_max_loop _, ?_⟩
    refine codeAny_builtin F.entry_max_loop ?_
    rw [Around.under_plainId F.plain_max_loop _]
    show wpAny _ B.in1 (seqItems? (.ref _) >>= _) _ _ _
    refine wpAny_bind (wpAny_seqItems gz2 rfl ?_)
    show wpAny _ B.in1 (tryCatch (pyNext (.ref _)) _ >>= _) _ _ _
    have st0 : ((s.heap.push { cls := .type "list_iterator", data := .fields #[.ref l, .int 0 0] }).push { cls := .type "list", dict := none, data := .seq #[] 0, slots := #[] }).IsListIter s.heap.objs.size l us.size ∧ ((s.heap.push { cls := .type "list_iterator", data := .fields #[.ref l, .int 0 0] }).push { cls := .type "list", dict := none, data := .seq #[] 0, slots := #[] }).IsList l us := by
      rw [hN]
      exact ⟨⟨_, Heap.get?_push_of_some _ (Heap.get?_push_size _ rfl), rfl, rfl⟩, (hl.push _).push _⟩
    refine wpAny_bind (wpAny_tryCatch (Wk.done _ _ _ st0 fun h2 t2 kk => ?_))
    refine wpAny_bind (wpAny_rule (wpAny_pure ?_))
    refine fin0 hN h2 t2 fun c o e => kk c o (fun z => ?_) (Heap.get?_push_of_some _ (k0 c o e))
    rw [List.mem_singleton.mp z, gJ] at e
    cases e
  · refine wpAny_pure ⟨plainId_quiet F.plain_max_loop _, maxK_first Wk f (g := s.heap) (cap := 0) (fun i j x y s1 Q1 Q2 kg hx hy q => hq i j x y s1 Q1 Q2 kg (hP i x hx) (hP j y hy) q) (fun c hc => ?_) (s.heap.objs.size + 1) hZf gZ (by omega) ?_ (fun c o e => Heap.get?_push_of_some _ (k0 c o e)) gz2 fun u h2 t2 pu kk => ?_⟩
    · rw [List.mem_singleton.mp hc]; exact gJ
    · exact ⟨⟨_, Heap.get?_push_of_some _ (Heap.get?_push_size _ rfl), rfl, rfl⟩, (hl.push _).push _⟩
    · refine fin' (by omega) u h2 t2 pu fun c o e => kk c o (fun z => ?_) (fun z => ?_) (Heap.get?_push_of_some _ (k0 c o e))
      · rw [List.mem_singleton.mp z, gJ] at e; cases e
      · rw [z, gZ] at e; cases e
end
def rBestD (K : PySem.W.Frag) : List V → List V → Hp → VK → Prop := fun vs zs H Q => ∃ (a : Addr) (bs : List (LV × V)) (d : V), vs = [V.ref a] ∧ zs = [d] ∧ SqL K H a (bs.map (·.2)) ∧ (∀ b ∈ bs, Dp K H b.2 (pd b.1)) ∧ srtOk (bs.map (·.1)) = true ∧
  (bs.length = 0 → Q d H) ∧ ∀ b, 0 < bs.length → bs[bestI gtDat (bs.map (·.1))]? = some b → Q b.2 H
theorem cr_maxD {X : Cx} (hu : X.A.units + 64 < cLine) (hc : X.calm = true) : CallRK X (.builtin "max") [Str.ofString "default"] (rBestD X.K) := by
  intro pins s σ H vs zs us ws Q I r rz h
  obtain ⟨a, bs, d, rfl, rfl, hs, hd, hk, q0, q⟩ := h
  obtain ⟨its, rv, hl, _⟩ := I.list hs
  rw [Vals.ref1 r]
  obtain ⟨w, rfl, rw'⟩ := rz.one
  have len : its.length = bs.length := by rw [← rv.length, List.length_map]
  refine maxD_walk _ (I.ok.hd hc) hl.isList (fun i v e => e) (best_cmp (q := gtDat) PySem.W.rcGt_alike hu I rv hd hk) (fun h0 h2 t2 kk => ⟨d, H, I.kept kk, rw', q0 (by rw [← len]; simpa using h0)⟩) fun h0 u h2 t2 pu kk => ?_
  obtain ⟨b, e1, e2⟩ := best_end (q := gtDat) rv (u := u) (by
    unfold bestI
    rw [List.length_map, ← len]
    simpa using pu)
  exact ⟨b.2, H, I.kept kk, e2, q b (by rw [← len]; simpa using h0) e1⟩
/-- max(xs, default=d) -/
noncomputable def maxDK (v d : LV) (S : Sto) : R := match lsO v S with
  | some xs => if srtOk xs = true then (if xs.length = 0 then .ok d S else .ok (xs.getD (bestI gtDat xs) .non) S) else .no
  | none => .no
noncomputable def lMaxD (fa fd : LE) : LE := fun ds S => (fa ds S).bind fun v S1 => (fd ds S1).bind fun d S2 => maxDK v d S2
section
variable {X : Cx} {T : Env1} {ξ : Xi} {W : WX} {e f : Expr} {p pos kpos : Pos} {fa fd : LE}
theorem pl_maxD (hu : X.A.units + 64 < cLine) (hc : X.calm = true) (hg : Gl X "max") (hm : X.mg "max" = none) (ha : PE X e (tL X.K T ξ W fa)) (hd : PE X f (tL X.K T ξ W fd)) (hs : starEach [e] X.env = (false, eval e X.env) :: starEach [] X.env := by rfl)
    (he : backTo pos (starEach [e] X.env) = (false, eval e X.env) :: backTo pos (starEach [] X.env) := by rfl) (hpl : (backTo pos (starEach [e] X.env)).any (·.1) = false := by rfl)
    (hall : (backToKw pos (keywordEach [⟨some (Str.ofString "default"), f, kpos⟩] X.env)).all (·.1.isSome) = true := by rfl) (hnone : (backToKw pos (keywordEach [⟨some (Str.ofString "default"), f, kpos⟩] X.env)).any (·.1.isNone) = false := by rfl) (hks : (backToKw pos (keywordEach [⟨some (Str.ofString "default"), f, kpos⟩] X.env)).filterMap (·.1) = [Str.ofString "default"] := by rfl) :
    PE X (.Call (.Name "max" p) [e] [⟨some (Str.ofString "default"), f, kpos⟩] pos) (tL X.K T ξ W (lMaxD fa fd)) :=
  pe_imp (pe_callBK (cr_maxD hu hc) hg hm (by decide +kernel) (pa_cons ha pa_nil hs) (pk_cons hd pk_nil) (by decide) (by decide) he hpl hall hnone hks) fun σ H Q ⟨m, S, ds, r, rs, h⟩ =>
    tL.bind r rs h fun v S1 m1 H1 x E r1 rs1 rv h1 => tL.bind r1 rs1 h1 fun d S2 m2 H2 z E2 r2 rs2 rz h2 => by
      unfold maxDK at h2
      split at h2
      · rename_i ys hn
        split at h2
        · rename_i hk
          obtain ⟨a, zs, rfl, ha, hs⟩ := lsO_ok r2 (rv.mono E2) hn
          have hl := hs.len
          have e1 : (ys.zip zs).map (·.1) = ys := List.map_fst_zip (by omega)
          have e2 : (ys.zip zs).map (·.2) = zs := List.map_snd_zip (by omega)
          have hr := zip_rel hs
          obtain ⟨k1, _⟩ := srt_split hk
          refine ⟨a, ys.zip zs, z, rfl, rfl, SqL.of (by rw [ha, e2]), fun b hb => ?_, by rw [e1]; exact hk, fun h0 => ?_, fun b hb hg => ?_⟩
          · have hm : b.1 ∈ ys := by
              have := List.mem_map_of_mem (f := Prod.fst) hb
              rwa [e1] at this
            exact dat_dp r2 60 b.1 (pd b.1) b.2 (dz_pd 60 b.1 (List.all_eq_true.mp k1 _ hm)) (hr b hb)
          · have : ys.length = 0 := by rw [List.length_zip] at h0; omega
            rw [if_pos this] at h2
            exact h2.here r2 rz
          · have : ¬ ys.length = 0 := by rw [List.length_zip] at hb; omega
            rw [if_neg this] at h2
            rw [e1] at hg
            have hbm := List.mem_of_getElem? hg
            have ey : ys[bestI gtDat ys]? = some b.1 := by
              have := congrArg (Option.map Prod.fst) hg
              rw [← List.getElem?_map, e1] at this
              exact this
            have : ys.getD (bestI gtDat ys) .non = b.1 := by rw [List.getD_eq_getElem?_getD, ey]; rfl
            rw [this] at h2
            exact h2.here r2 (hr b hbm)
        · exact h2.elim
      · exact h2.elim
end
noncomputable def maxd1 (fd : LE) (ds : Sl) : R → R
  | .ok v S => (fd ds S).bind fun d S2 => maxDK v d S2
  | .ex c fs S => .ex c fs S
  | .no => .no
noncomputable def maxd2 (v : LV) : R → R
  | .ok d S => maxDK v d S
  | .ex c fs S => .ex c fs S
  | .no => .no
section
variable {fa fd : LE} {ds : Sl} {S : Sto} {v d : LV}
@[simp] theorem e_maxD : lMaxD fa fd ds S = maxd1 fd ds (fa ds S) := by unfold lMaxD; cases fa ds S <;> rfl
@[simp] theorem maxd1_ok : maxd1 fd ds (.ok v S) = maxd2 v (fd ds S) := by
  show (fd ds S).bind _ = _
  cases fd ds S <;> rfl
@[simp] theorem maxd2_ok : maxd2 v (.ok d S) = maxDK v d S := (rfl)
end
/-! ### the best of whole numbers, of texts -/
theorem argBest_max {α : Type} (le : α → α → Prop) (tr : ∀ a b c, le a b → le b c → le a c) (rf : ∀ a, le a a) (v : Nat → α) (f : Nat → Nat → Bool) (h1 : ∀ i j, f i j = true → le (v j) (v i)) (h2 : ∀ i j, f i j = false → le (v i) (v j)) : ∀ k j, j ≤ k → le (v j) (v (argBest f k))
  | 0, j, hj => by
    have : j = 0 := by omega
    subst this
    exact rf _
  | k + 1, j, hj => by
    have ih := argBest_max le tr rf v f h1 h2 k
    unfold argBest
    cases c : f (k + 1) (argBest f k) with
    | true =>
      simp only [if_true]
      rcases Nat.lt_or_ge k j with q | q
      · have : j = k + 1 := by omega
        subst this
        exact rf _
      · exact tr _ _ _ (ih j q) (h1 _ _ c)
    | false =>
      simp only [Bool.false_eq_true, if_false]
      rcases Nat.lt_or_ge k j with q | q
      · have : j = k + 1 := by omega
        subst this
        exact h2 _ _ c
      · exact ih j q
theorem ints_srt {ns : List Int} (h : ns.length ≤ 16777216) : srtOk (ns.map .int) = true := by
  unfold srtOk
  have e1 : (ns.map LV.int).all (dz 60) = true := by simp [dz]
  have e2 : alk (ns.map .int) = true := by
    unfold alk
    simp [pd, PySem.W.alike]
  have e3 : (ns.map LV.int).all isNoT = true := by simp [isNoT]
  rw [e1, e2, e3]
  unfold small
  simpa using h
theorem best_int {ns : List Int} (h0 : ns ≠ []) : ∃ m ∈ ns, (∀ n ∈ ns, n ≤ m) ∧ (ns.map LV.int).getD (bestI gtDat (ns.map .int)) .non = .int m := by
  have hp : 0 < ns.length := by cases ns with | nil => exact absurd rfl h0 | cons _ _ => simp
  have hb : bestI gtDat (ns.map .int) < ns.length := by
    have := argBest_le (fun i j => gtDat (pd ((ns.map LV.int).getD i .non)) (pd ((ns.map LV.int).getD j .non))) ((ns.map LV.int).length - 1)
    unfold bestI
    rw [List.length_map] at this ⊢
    omega
  have at_ : ∀ i, i < ns.length → (ns.map LV.int).getD i .non = .int (ns.getD i 0) := fun i hi => by
    rw [List.getD_eq_getElem?_getD, List.getElem?_map, List.getElem?_eq_getElem hi, List.getD_eq_getElem?_getD, List.getElem?_eq_getElem hi]
    rfl
  have mx : ∀ k, k < ns.length → ∀ j, j ≤ k → ns.getD j 0 ≤ ns.getD (argBest (fun i j => gtDat (pd ((ns.map LV.int).getD i .non)) (pd ((ns.map LV.int).getD j .non))) k) 0 := fun k hk => by
    induction k with
    | zero =>
      intro j hj
      have : j = 0 := by omega
      subst this
      exact Int.le_refl _
    | succ k ih =>
      intro j hj
      have ih := ih (by omega)
      have hl := argBest_le (fun i j => gtDat (pd ((ns.map LV.int).getD i .non)) (pd ((ns.map LV.int).getD j .non))) k
      unfold argBest
      generalize argBest (fun i j => gtDat (pd ((ns.map LV.int).getD i .non)) (pd ((ns.map LV.int).getD j .non))) k = b at *
      have e : gtDat (pd ((ns.map LV.int).getD (k + 1) .non)) (pd ((ns.map LV.int).getD b .non)) = decide (ns.getD b 0 < ns.getD (k + 1) 0) := by
        rw [at_ _ hk, at_ _ (by omega)]
        exact PySem.W.dataLt_int _ _
      rw [e]
      by_cases c : ns.getD b 0 < ns.getD (k + 1) 0
      · rw [decide_eq_true c, if_pos rfl]
        rcases Nat.lt_or_ge k j with q | q
        · have : j = k + 1 := by omega
          subst this
          exact Int.le_refl _
        · have := ih j q
          omega
      · rw [decide_eq_false c, if_neg (by decide)]
        rcases Nat.lt_or_ge k j with q | q
        · have : j = k + 1 := by omega
          subst this
          omega
        · exact ih j q
  refine ⟨ns.getD (bestI gtDat (ns.map .int)) 0, ?_, fun n hn => ?_, at_ _ hb⟩
  · rw [List.getD_eq_getElem?_getD, List.getElem?_eq_getElem hb]
    exact List.getElem_mem hb
  · obtain ⟨j, hj⟩ := List.mem_iff_getElem?.mp hn
    have jl := (List.getElem?_eq_some_iff.mp hj).1
    have := mx (ns.length - 1) (by omega) j (by omega)
    rw [List.getD_eq_getElem?_getD, hj] at this
    unfold bestI
    rw [List.length_map]
    exact this
theorem maxD_ints {S : Sto} {v d : LV} {ns : List Int} (hv : lsO v S = some (ns.map .int)) (hl : ns.length ≤ 16777216) : (ns = [] ∧ maxDK v d S = .ok d S) ∨ ∃ m ∈ ns, (∀ n ∈ ns, n ≤ m) ∧ maxDK v d S = .ok (.int m) S := by
  by_cases h : ns = []
  · refine .inl ⟨h, ?_⟩
    subst h
    simp only [maxDK, hv, ints_srt hl, if_true]
    rfl
  · obtain ⟨m, hm, h1, h2⟩ := best_int h
    refine .inr ⟨m, hm, h1, ?_⟩
    have : ¬ (ns.map LV.int).length = 0 := by rw [List.length_map]; intro e; exact h (List.length_eq_zero_iff.mp e)
    simp only [maxDK, hv, ints_srt hl, if_true, if_neg this]
    rw [h2]
end LL


set_option Elab.async false
set_option linter.all false
set_option maxRecDepth 100000
set_option maxHeartbeats 2000000
/-! The logical layer: min, max of two texts; dicts with tuple keys locked; the least text. -/
namespace LL
open PySem PySem.Spec PyProof.Rows L2
section
variable {prog : Program} {w : World} {A : Around} {E : Value → Shared → Prop} {s : Shared}
theorem two_strs {a b : Str} {t u : Tok} {i : Nat} {v : Value} (h : (#[Value.str a t, .str b u] : Array Value)[i]? = some v) : (i = 0 ∧ v = .str a t) ∨ (i = 1 ∧ v = .str b u) := by
  rcases i with _ | _ | i
  · simp at h; exact .inl ⟨rfl, h.symm⟩
  · simp at h; exact .inr ⟨rfl, h.symm⟩
  · simp at h
theorem max_two_strs {a b : Str} {t u : Tok} {Q : Value → Shared → Prop} (hh : A.handled = none)
    (h : ∀ h' tk, (∀ c o, s.heap.get? c = some o → h'.get? c = some o) → Q (if sLt a b = true then .str b u else .str a t) { s with heap := h', toks := tk }) :
    wpAny (model prog w) A (call (.builtin "max") [.str a t, .str b u]) Q E s := by
  have hT : (s.heap.push { cls := .type "tuple", data := .seq #[.str a t, .str b u] }).IsTuple s.heap.objs.size #[.str a t, .str b u] := ⟨_, Heap.get?_push_size _ rfl, rfl, 0, rfl⟩
  refine call_max_two (wpAny_pyIter_tuple hT ?_)
  have hsz : (s.heap.push { cls := .type "tuple", data := .seq #[.str a t, .str b u] }).objs.size = s.heap.objs.size + 1 := Heap.size_push ..
  have cm : CmpOf prog w A.in1 .Gt (fun i v => (#[Value.str a t, .str b u] : Array Value)[i]? = some v) (fun i j => sLt (if j = 0 then a else b) (if i = 0 then a else b)) := fun i j vi vj s2 Q2 E2 hi hj hq => by
    rcases two_strs hi with ⟨rfl, rfl⟩ | ⟨rfl, rfl⟩ <;> rcases two_strs hj with ⟨rfl, rfl⟩ | ⟨rfl, rfl⟩ <;> exact (PySem.P.gt_str hq : wpAny (model prog w) A.in1 (compareOp .Gt _ _) Q2 E2 s2)
  refine ⟨_, [_, s.heap.objs.size], [_], _, _, _, _, rfl, Walks.tuple (A := A.in1) hh _ s.heap.objs.size (by rw [hsz]; exact Nat.ne_of_lt (Nat.lt_succ_self _)) #[.str a t, .str b u],
    ⟨⟨_, Heap.get?_push_size _ rfl, rfl, rfl⟩, hT.push _⟩, fun c hc => ?_, by simp, cm, fun v h' tk hP hk => ?_⟩
  · show c < ((s.heap.push _).push _).objs.size
    rw [Heap.size_push, hsz]
    rcases List.mem_cons.mp hc with rfl | hc
    · rw [hsz]; exact Nat.lt_succ_self _
    · rcases List.mem_cons.mp hc with rfl | hc
      · exact Nat.lt_succ_of_lt (Nat.lt_succ_self _)
      · cases hc
  · have hold : ∀ c o, s.heap.get? c = some o → h'.get? c = some o := fun c o e => by
      refine hk c o (fun hm => ?_) (Heap.get?_push_of_some _ (Heap.get?_push_of_some _ e))
      rcases List.mem_cons.mp hm with e1 | hm
      · have := Heap.lt_size e; rw [e1, hsz] at this; exact Nat.lt_irrefl _ (Nat.lt_of_succ_lt this)
      · cases hm
    have := h h' tk hold
    have hv : v = if sLt a b = true then .str b u else .str a t := by
      cases hc : sLt a b <;> simp [argBest, hc] at hP <;> simp [hP]
    rw [hv]; exact this
theorem min_two_strs {a b : Str} {t u : Tok} {Q : Value → Shared → Prop} (hh : A.handled = none)
    (h : ∀ h' tk, (∀ c o, s.heap.get? c = some o → h'.get? c = some o) → Q (if sLt b a = true then .str b u else .str a t) { s with heap := h', toks := tk }) :
    wpAny (model prog w) A (call (.builtin "min") [.str a t, .str b u]) Q E s := by
  have hT : (s.heap.push { cls := .type "tuple", data := .seq #[.str a t, .str b u] }).IsTuple s.heap.objs.size #[.str a t, .str b u] := ⟨_, Heap.get?_push_size _ rfl, rfl, 0, rfl⟩
  refine call_min_two (wpAny_pyIter_tuple hT ?_)
  have hsz : (s.heap.push { cls := .type "tuple", data := .seq #[.str a t, .str b u] }).objs.size = s.heap.objs.size + 1 := Heap.size_push ..
  have cm : CmpOf prog w A.in1 .Lt (fun i v => (#[Value.str a t, .str b u] : Array Value)[i]? = some v) (fun i j => sLt (if i = 0 then a else b) (if j = 0 then a else b)) := fun i j vi vj s2 Q2 E2 hi hj hq => by
    rcases two_strs hi with ⟨rfl, rfl⟩ | ⟨rfl, rfl⟩ <;> rcases two_strs hj with ⟨rfl, rfl⟩ | ⟨rfl, rfl⟩ <;> exact (PyProof.Rows.lt_str hq : wpAny (model prog w) A.in1 (compareOp .Lt _ _) Q2 E2 s2)
  refine ⟨_, [_, s.heap.objs.size], [_], _, _, _, _, rfl, Walks.tuple (A := A.in1) hh _ s.heap.objs.size (by rw [hsz]; exact Nat.ne_of_lt (Nat.lt_succ_self _)) #[.str a t, .str b u],
    ⟨⟨_, Heap.get?_push_size _ rfl, rfl, rfl⟩, hT.push _⟩, fun c hc => ?_, by simp, cm, fun v h' tk hP hk => ?_⟩
  · show c < ((s.heap.push _).push _).objs.size
    rw [Heap.size_push, hsz]
    rcases List.mem_cons.mp hc with rfl | hc
    · rw [hsz]; exact Nat.lt_succ_self _
    · rcases List.mem_cons.mp hc with rfl | hc
      · exact Nat.lt_succ_of_lt (Nat.lt_succ_self _)
      · cases hc
  · have hold : ∀ c o, s.heap.get? c = some o → h'.get? c = some o := fun c o e => by
      refine hk c o (fun hm => ?_) (Heap.get?_push_of_some _ (Heap.get?_push_of_some _ e))
      rcases List.mem_cons.mp hm with e1 | hm
      · have := Heap.lt_size e; rw [e1, hsz] at this; exact Nat.lt_irrefl _ (Nat.lt_of_succ_lt this)
      · cases hm
    have := h h' tk hold
    have hv : v = if sLt b a = true then .str b u else .str a t := by
      cases hc : sLt b a <;> simp [argBest, hc] at hP <;> simp [hP]
    rw [hv]; exact this
end
section
variable {X : Cx}
theorem call_maxS (hc : X.calm = true) : CallR X (.builtin "max") (fun xs H Q => ∃ i j, xs = [.str i, .str j] ∧ Q (.str (if sLt i j = true then j else i)) H) := by
  intro pins s σ H xs us Q I r h
  obtain ⟨i, j, rfl, q⟩ := h
  obtain ⟨u, w', rfl, ⟨t, rfl⟩, ⟨t', rfl⟩⟩ := vals2 r
  refine max_two_strs (I.ok.hd hc) fun h' tk k => ⟨_, H, I.kept k, ?_, q⟩
  by_cases hj : sLt i j = true
  · rw [if_pos hj, if_pos hj]; exact ⟨_, rfl⟩
  · rw [if_neg hj, if_neg hj]; exact ⟨_, rfl⟩
theorem call_minS (hc : X.calm = true) : CallR X (.builtin "min") (fun xs H Q => ∃ i j, xs = [.str i, .str j] ∧ Q (.str (if sLt j i = true then j else i)) H) := by
  intro pins s σ H xs us Q I r h
  obtain ⟨i, j, rfl, q⟩ := h
  obtain ⟨u, w', rfl, ⟨t, rfl⟩, ⟨t', rfl⟩⟩ := vals2 r
  refine min_two_strs (I.ok.hd hc) fun h' tk k => ⟨_, H, I.kept k, ?_, q⟩
  by_cases hj : sLt j i = true
  · rw [if_pos hj, if_pos hj]; exact ⟨_, rfl⟩
  · rw [if_neg hj, if_neg hj]; exact ⟨_, rfl⟩
def rMaxU : List V → Hp → VK → Prop := fun xs H Q => (∃ i j, xs = [.int i, .int j] ∧ Q (.int (if j > i then j else i)) H) ∨ ∃ i j, xs = [.str i, .str j] ∧ Q (.str (if sLt i j = true then j else i)) H
def rMinU : List V → Hp → VK → Prop := fun xs H Q => (∃ i j, xs = [.int i, .int j] ∧ Q (.int (if j < i then j else i)) H) ∨ ∃ i j, xs = [.str i, .str j] ∧ Q (.str (if sLt j i = true then j else i)) H
theorem cr_maxU (hc : X.calm = true) : CallR X (.builtin "max") rMaxU := CallR.or (call_max2 hc) (call_maxS hc)
theorem cr_minU (hc : X.calm = true) : CallR X (.builtin "min") rMinU := CallR.or (call_min2 hc) (call_minS hc)
end
def maxU : OpN
  | [.int i, .int j], S => .ok (.int (if j > i then j else i)) S
  | [.str i, .str j], S => .ok (.str (if sLt i j = true then j else i)) S
  | _, _ => .no
def minU : OpN
  | [.int i, .int j], S => .ok (.int (if j < i then j else i)) S
  | [.str i, .str j], S => .ok (.str (if sLt j i = true then j else i)) S
  | _, _ => .no
section
variable {K : PySem.W.Frag} {T : Env1}
theorem cl_maxU : CallL K T rMaxU maxU := fun m S H vs xs Q W r rv h => by
  unfold maxU at h
  split at h
  · obtain ⟨x, y, rfl, rx, ry⟩ := rv.two
    cases (show x = .int _ from rx)
    cases (show y = .int _ from ry)
    exact .inl ⟨_, _, rfl, h.here r rfl⟩
  · obtain ⟨x, y, rfl, rx, ry⟩ := rv.two
    cases (show x = .str _ from rx)
    cases (show y = .str _ from ry)
    exact .inr ⟨_, _, rfl, h.here r rfl⟩
  · exact h.elim
theorem cl_minU : CallL K T rMinU minU := fun m S H vs xs Q W r rv h => by
  unfold minU at h
  split at h
  · obtain ⟨x, y, rfl, rx, ry⟩ := rv.two
    cases (show x = .int _ from rx)
    cases (show y = .int _ from ry)
    exact .inl ⟨_, _, rfl, h.here r rfl⟩
  · obtain ⟨x, y, rfl, rx, ry⟩ := rv.two
    cases (show x = .str _ from rx)
    cases (show y = .str _ from ry)
    exact .inr ⟨_, _, rfl, h.here r rfl⟩
  · exact h.elim
end
section
variable {S : Sto} {i j : Int} {a b : Str}
@[simp] theorem maxU_ii : maxU [.int i, .int j] S = .ok (.int (if j > i then j else i)) S := (rfl)
@[simp] theorem minU_ii : minU [.int i, .int j] S = .ok (.int (if j < i then j else i)) S := (rfl)
@[simp] theorem maxU_ss : maxU [.str a, .str b] S = .ok (.str (if sLt a b = true then b else a)) S := (rfl)
@[simp] theorem minU_ss : minU [.str a, .str b] S = .ok (.str (if sLt b a = true then b else a)) S := (rfl)
end
/-! ### dicts with tuple keys locked -/
theorem dictO_t {S : Sto} {n : Nat} {kvs : List (List Key × LV)} (h : S[n]? = some (.dcl kvs)) : dictO (.ref n) S = .ok (itOf (kvs.map fun kv => keyT kv.1)) S := by
  unfold dictO
  simp only [h]
theorem lockO_t {S : Sto} {n : Nat} {kvs : List (List Key × LV)} (h : S[n]? = some (.dcT kvs)) : lockO S n = some (S.set n (.dcl kvs)) := by
  unfold lockO
  rw [h]
theorem unlO_t {S : Sto} {n : Nat} {kvs : List (List Key × LV)} (h : S[n]? = some (.dcl kvs)) : unlO S n = some (S.set n (.dcT kvs)) := by
  unfold unlO
  rw [h]
theorem lockS_t {fd : LE} {fb : LS} {ds ds' : Sl} {S S0 S' : Sto} {n : Nat} {kvs : List (List Key × LV)} (hs : fd ds S = .ok (.ref n) S0) (hn : S[n]? = some (.dcT kvs)) (hf : fb ds (S.set n (.dcl kvs)) = .nx ds' S') (hn' : S'[n]? = some (.dcl kvs)) :
    lLockS fd fb ds S = .nx ds' (S'.set n (.dcT kvs)) := by
  unfold lLockS selE
  rw [hs]
  simp only
  rw [lockO_t hn]
  simp only
  rw [hf]
  unfold unlS
  simp only
  rw [unlO_t hn']
theorem lockE_t {fd fe : LE} {ds : Sl} {S S0 S' : Sto} {n : Nat} {v : LV} {kvs : List (List Key × LV)} (hs : fd ds S = .ok (.ref n) S0) (hn : S[n]? = some (.dcT kvs)) (hf : fe ds (S.set n (.dcl kvs)) = .ok v S') (hn' : S'[n]? = some (.dcl kvs)) :
    lLock fd fe ds S = .ok v (S'.set n (.dcT kvs)) := by
  unfold lLock selE
  rw [hs]
  simp only
  rw [lockO_t hn]
  simp only
  rw [hf]
  unfold unlR
  simp only
  rw [unlO_t hn']
theorem ix_dcl {S : Sto} {n : Nat} {kvs : List (List Key × LV)} {xs : List LV} {ks : List Key} {u : LV} (h : S[n]? = some (.dcl kvs)) (hk : keysL xs = some ks) (hg : getK kvs ks = some u) : ixL (.ref n) (.tup xs) S = .ok u S := by
  simp [ixL, ixO, h, getOv, dKs, dTs, hk, hg]
/-! ### the least text -/
theorem sLt_iff {a b : Str} : sLt a b = true ↔ tl a < tl b := decide_eq_true_iff
theorem least_str {ys : List Str} (h0 : ys ≠ []) (hl : ys.length ≤ 16777216) : ∃ m ∈ ys, (∀ n ∈ ys, tl m ≤ tl n) ∧ ∀ (S : Sto) (v : LV), lsO v S = some (ys.map .str) → minB [v] S = .ok (.str m) S := by
  have hp : 0 < ys.length := by cases ys with | nil => exact absurd rfl h0 | cons _ _ => simp
  have hb : bestI ltDat (ys.map .str) < ys.length := by
    have := argBest_le (fun i j => ltDat (pd ((ys.map LV.str).getD i .non)) (pd ((ys.map LV.str).getD j .non))) ((ys.map LV.str).length - 1)
    unfold bestI
    rw [List.length_map] at this ⊢
    omega
  have at_ : ∀ i, i < ys.length → (ys.map LV.str).getD i .non = .str (ys.getD i ("" : Str)) := fun i hi => by
    rw [List.getD_eq_getElem?_getD, List.getElem?_map, List.getElem?_eq_getElem hi, List.getD_eq_getElem?_getD, List.getElem?_eq_getElem hi]
    rfl
  have mx : ∀ k, k < ys.length → ∀ j, j ≤ k → tl (ys.getD (argBest (fun i j => ltDat (pd ((ys.map LV.str).getD i .non)) (pd ((ys.map LV.str).getD j .non))) k) ("" : Str)) ≤ tl (ys.getD j ("" : Str)) := fun k hk => by
    induction k with
    | zero =>
      intro j hj
      have : j = 0 := by omega
      subst this
      exact List.le_refl _
    | succ k ih =>
      intro j hj
      have ih := ih (by omega)
      have hl := argBest_le (fun i j => ltDat (pd ((ys.map LV.str).getD i .non)) (pd ((ys.map LV.str).getD j .non))) k
      unfold argBest
      generalize argBest (fun i j => ltDat (pd ((ys.map LV.str).getD i .non)) (pd ((ys.map LV.str).getD j .non))) k = b at *
      have e : ltDat (pd ((ys.map LV.str).getD (k + 1) .non)) (pd ((ys.map LV.str).getD b .non)) = decide (tl (ys.getD (k + 1) ("" : Str)) < tl (ys.getD b ("" : Str))) := by
        rw [at_ _ hk, at_ _ (by omega)]
        exact PySem.W.dataLt_str _ _
      rw [e]
      by_cases c : tl (ys.getD (k + 1) ("" : Str)) < tl (ys.getD b ("" : Str))
      · rw [decide_eq_true c, if_pos rfl]
        rcases Nat.lt_or_ge k j with q | q
        · have : j = k + 1 := by omega
          subst this
          exact List.le_refl _
        · exact List.le_trans (List.le_of_lt c) (ih j q)
      · rw [decide_eq_false c, if_neg (by decide)]
        rcases Nat.lt_or_ge k j with q | q
        · have : j = k + 1 := by omega
          subst this
          exact List.not_lt.mp c
        · exact ih j q
  refine ⟨ys.getD (bestI ltDat (ys.map .str)) ("" : Str), ?_, fun n hn => ?_, ?_⟩
  · rw [List.getD_eq_getElem?_getD, List.getElem?_eq_getElem hb]
    exact List.getElem_mem hb
  · obtain ⟨j, hj⟩ := List.mem_iff_getElem?.mp hn
    have jl := (List.getElem?_eq_some_iff.mp hj).1
    have := mx (ys.length - 1) (by omega) j (by omega)
    rw [List.getD_eq_getElem?_getD (l := ys) (i := j), hj] at this
    unfold bestI
    rw [List.length_map]
    exact this
  · intro S v hv
    unfold minB bestL
    simp only [hv]
    rw [strs_srt hl, decide_eq_true (by rw [List.length_map]; exact hp)]
    rw [Bool.and_self, if_pos rfl, at_ _ hb]
/-! ### d.get(k, v), how to reckon -/
def get2a (fk fx : LE) (ds : Sl) : R → R
  | .ok v S => if isDc v S = true then (fk ds S).bind fun u S2 => (fx ds S2).bind fun z S3 => gotO v u z S3 else .no
  | .ex c fs S => .ex c fs S
  | .no => .no
def get2b (v : LV) (fx : LE) (ds : Sl) : R → R
  | .ok u S => (fx ds S).bind fun z S3 => gotO v u z S3
  | .ex c fs S => .ex c fs S
  | .no => .no
def get2c (v u : LV) : R → R
  | .ok z S => gotO v u z S
  | .ex c fs S => .ex c fs S
  | .no => .no
section
variable {fo fk fx : LE} {ds : Sl} {S : Sto} {v u z : LV}
@[simp] theorem e_get2 : lGet2 fo fk fx ds S = get2a fk fx ds (fo ds S) := by unfold lGet2; cases fo ds S <;> rfl
theorem get2a_ok (h : isDc v S = true) : get2a fk fx ds (.ok v S) = get2b v fx ds (fk ds S) := by
  unfold get2a
  simp only [h, if_true]
  cases fk ds S <;> rfl
@[simp] theorem get2b_ok : get2b v fx ds (.ok u S) = get2c v u (fx ds S) := by
  show (fx ds S).bind _ = _
  cases fx ds S <;> rfl
@[simp] theorem get2c_ok : get2c v u (.ok z S) = gotO v u z S := (rfl)
end
/-! ### keys -/
section
variable {κ : Type} [DecidableEq κ] {kvs : List (κ × LV)} {k j : κ} {v w : LV}
theorem getK_mem (h : getK kvs k = some v) : (k, v) ∈ kvs := by
  unfold getK at h
  obtain ⟨kv, h1, h2⟩ := Option.map_eq_some_iff.mp h
  have h3 : kv.1 = k := of_decide_eq_true (List.find?_some (p := fun kv : κ × LV => decide (kv.1 = k)) h1)
  have h4 := List.mem_of_find?_eq_some h1
  rw [← h3, ← h2]
  exact h4
theorem getK_non : getK kvs k = none ↔ ∀ kv ∈ kvs, kv.1 ≠ k := by
  unfold getK
  rw [Option.map_eq_none_iff, List.find?_eq_none]
  exact ⟨fun h kv hm e => h kv hm (decide_eq_true e), fun h kv hm e => h kv hm (of_decide_eq_true e)⟩
theorem getK_put (kvs : List (κ × LV)) (k j : κ) (v : LV) : getK (putL kvs k v) j = if j = k then some v else getK kvs j := by
  unfold putL
  split
  · rename_i c
    have e : ∀ l : List (κ × LV), (l.map fun kv => if kv.1 = k then (kv.1, v) else kv).find? (fun kv => decide (kv.1 = j)) = (l.find? fun kv => decide (kv.1 = j)).map fun kv => if kv.1 = k then (kv.1, v) else kv := fun l => by
      rw [List.find?_map]
      congr 2
      funext kv
      show decide ((if kv.1 = k then (kv.1, v) else kv).1 = j) = _
      split <;> rfl
    unfold getK
    rw [e]
    cases f : kvs.find? fun kv => decide (kv.1 = j) with
    | none =>
      have : j ≠ k := fun z => by
        subst z
        rw [List.find?_eq_none] at f
        obtain ⟨kv, hm, hk⟩ := List.any_eq_true.mp c
        exact f kv hm hk
      rw [if_neg this]
      rfl
    | some kv =>
      have h3 : kv.1 = j := of_decide_eq_true (List.find?_some (p := fun kv : κ × LV => decide (kv.1 = j)) f)
      by_cases z : j = k
      · rw [if_pos z]
        show some (if kv.1 = k then (kv.1, v) else kv).2 = _
        rw [if_pos (h3.trans z)]
      · rw [if_neg z]
        show some (if kv.1 = k then (kv.1, v) else kv).2 = _
        rw [if_neg fun q => z (h3.symm.trans q)]
        rfl
  · rename_i c
    have c : ∀ kv ∈ kvs, kv.1 ≠ k := fun kv hm e => c (List.any_eq_true.mpr ⟨kv, hm, decide_eq_true e⟩)
    unfold getK
    rw [List.find?_append]
    cases f : kvs.find? fun kv => decide (kv.1 = j) with
    | some kv =>
      have h3 : kv.1 = j := of_decide_eq_true (List.find?_some (p := fun kv : κ × LV => decide (kv.1 = j)) f)
      rw [if_neg fun z => c kv (List.mem_of_find?_eq_some f) (h3.trans z)]
      rfl
    | none =>
      by_cases z : j = k
      · subst z
        simp
      · rw [if_neg z]
        have : ¬ k = j := fun q => z q.symm
        simp [this]
theorem mem_putL {kv : κ × LV} (h : kv ∈ putL kvs k v) : kv = (k, v) ∨ (kv ∈ kvs ∧ kv.1 ≠ k) := by
  unfold putL at h
  split at h
  · obtain ⟨u, hu, rfl⟩ := List.mem_map.mp h
    by_cases q : u.1 = k
    · rw [if_pos q, q]; exact .inl rfl
    · rw [if_neg q]; exact .inr ⟨hu, q⟩
  · rename_i c
    rcases List.mem_append.mp h with h | h
    · exact .inr ⟨h, fun e => c (List.any_eq_true.mpr ⟨kv, h, decide_eq_true e⟩)⟩
    · exact .inl (List.mem_singleton.mp h)
theorem len_putL (kvs : List (κ × LV)) (k : κ) (v : LV) : (putL kvs k v).length ≤ kvs.length + 1 := by
  unfold putL
  split <;> simp
end
theorem ix_dk {S : Sto} {n : Nat} {kvs : List (Key × LV)} {v u : LV} {k : Key} (h : S[n]? = some (.dct kvs)) (hk : keyL v = some k) (hg : getK kvs k = some u) : ixL (.ref n) v S = .ok u S := by
  simp [ixL, ixO, h, getOv, dKs, hk, hg]
/-! ### while, with a store that changes -/
theorem wh_runE {α : Type} {fc : LE} {fb : LS} (D : α → Sl) (T : α → Sto) (c : α → Bool) (P : α → Prop) (μ : α → Nat) (hc : ∀ a, P a → fc (D a) (T a) = .ok (.bl (c a)) (T a))
    (hb : ∀ a, P a → c a = true → ∃ a', fb (D a) (T a) = .nx (D a') (T a') ∧ P a' ∧ μ a' < μ a) : ∀ (n : Nat) (a : α), P a → μ a < n → ∃ b, P b ∧ c b = false ∧ lWh n fc fb (D a) (T a) = .nx (D b) (T b)
  | 0, a, _, h => absurd h (Nat.not_lt_zero _)
  | n + 1, a, p, h => by
    have h1 := hc a p
    cases e : c a with
    | false =>
      refine ⟨a, p, e, ?_⟩
      unfold lWh whK
      rw [h1, e]
      rfl
    | true =>
      obtain ⟨a', h2, p2, m2⟩ := hb a p e
      obtain ⟨b, pb, eb, hb2⟩ := wh_runE D T c P μ hc hb n a' p2 (by omega)
      refine ⟨b, pb, eb, ?_⟩
      rw [← hb2]
      unfold lWh
      conv => lhs; unfold whK
      rw [h1, e]
      show (match fb (D a) (T a) with | .nx ds2 S2 => whK fc fb n ds2 S2 | .ct ds2 S2 => whK fc fb n ds2 S2 | .bk ds2 S2 => .nx ds2 S2 | r => r) = _
      rw [h2]
/-! ### for, by places -/
theorem forL_at {J : Type} {lg : LG} {fb : LS} {xs : List LV} (D : Nat → J → Sl) (T : Nat → Sto) (h : ∀ k v, xs[k]? = some v → ∀ j, ∃ j', turn lg fb v (D k j) (T k) = .nx (D (k + 1) j') (T (k + 1))) :
    ∀ (m k : Nat), k + m = xs.length → ∀ j, ∃ j', forL lg fb (xs.drop k) (D k j) (T k) = .nx (D xs.length j') (T xs.length)
  | 0, k, e, j => by
    have e : k = xs.length := by omega
    subst e
    rw [List.drop_length]
    exact ⟨j, rfl⟩
  | m + 1, k, e, j => by
    have hk : k < xs.length := by omega
    rw [List.drop_eq_getElem_cons hk]
    obtain ⟨j1, h1⟩ := h k xs[k] (List.getElem?_eq_getElem hk) j
    obtain ⟨j2, h2⟩ := forL_at D T h m (k + 1) (by omega) j1
    refine ⟨j2, ?_⟩
    rw [← h2]
    unfold turn at h1
    conv => lhs; unfold forL
    cases q : lg xs[k] (T k) (D k j) with
    | none => rw [q] at h1; cases h1
    | some ds1 =>
      rw [q] at h1
      simp only at h1 ⊢
      cases q2 : fb ds1 (T k) with
      | nx ds2 S2 => rw [q2] at h1; cases h1; rfl
      | ct ds2 S2 => rw [q2] at h1; cases h1; rfl
      | _ => rw [q2] at h1; cases h1
theorem for_at {J : Type} {lg : LG} {fb : LS} {xs : List LV} (D : Nat → J → Sl) (T : Nat → Sto) (h : ∀ k v, xs[k]? = some v → ∀ j, ∃ j', turn lg fb v (D k j) (T k) = .nx (D (k + 1) j') (T (k + 1))) (j : J) :
    ∃ j', forS lg fb (D 0 j) (.ok (itOf xs) (T 0)) = .nx (D xs.length j') (T xs.length) := by
  rw [forS_of]
  exact forL_at D T h xs.length 0 (by omega) j
theorem for_rng {J : Type} {lg : LG} {fb : LS} {lo : Int} {n : Nat} (D : Nat → J → Sl) (T : Nat → Sto) (h : ∀ k : Nat, k < n → ∀ j, ∃ j', turn lg fb (.int (lo + k)) (D k j) (T k) = .nx (D (k + 1) j') (T (k + 1))) (j : J) :
    ∃ j', forS lg fb (D 0 j) (.ok (itOf (rng lo n)) (T 0)) = .nx (D n j') (T n) := by
  have l : (rng lo n).length = n := by unfold rng; rw [List.length_map, List.length_range]
  have := for_at (lg := lg) (fb := fb) (xs := rng lo n) D T (fun k v hv j => by
    unfold rng at hv
    rw [List.getElem?_map, Option.map_eq_some_iff] at hv
    obtain ⟨m, hm, rfl⟩ := hv
    obtain ⟨h1, h2⟩ := List.getElem?_eq_some_iff.mp hm
    rw [List.getElem_range] at h2
    subst h2
    rw [List.length_range] at h1
    exact h k h1 j) j
  rw [l] at this
  exact this
/-! ### while, in many stores at once -/
theorem wh_runF {α ι J : Type} {fc : LE} {fb : LS} (D : ι → α → J → Sl) (T : ι → α → Sto) (c : α → Bool) (P : α → Prop) (μ : α → Nat) (hc : ∀ a, P a → ∀ i j, fc (D i a j) (T i a) = .ok (.bl (c a)) (T i a))
    (hb : ∀ a, P a → c a = true → ∃ a', P a' ∧ μ a' < μ a ∧ ∀ i j, ∃ j', fb (D i a j) (T i a) = .nx (D i a' j') (T i a')) : ∀ (n : Nat) (a : α), P a → μ a < n → ∃ b, P b ∧ c b = false ∧ ∀ i j, ∃ j', lWh n fc fb (D i a j) (T i a) = .nx (D i b j') (T i b)
  | 0, a, _, h => absurd h (Nat.not_lt_zero _)
  | n + 1, a, p, h => by
    cases e : c a with
    | false =>
      refine ⟨a, p, e, fun i j => ⟨j, ?_⟩⟩
      have h1 := hc a p i j
      unfold lWh whK
      rw [h1, e]
      rfl
    | true =>
      obtain ⟨a', p2, m2, h2⟩ := hb a p e
      obtain ⟨b, pb, eb, hb2⟩ := wh_runF D T c P μ hc hb n a' p2 (by omega)
      refine ⟨b, pb, eb, fun i j => ?_⟩
      have h1 := hc a p i j
      obtain ⟨j1, h2⟩ := h2 i j
      obtain ⟨j2, hb2⟩ := hb2 i j1
      refine ⟨j2, ?_⟩
      rw [← hb2]
      unfold lWh
      conv => lhs; unfold whK
      rw [h1, e]
      show (match fb (D i a j) (T i a) with | .nx ds2 S2 => whK fc fb n ds2 S2 | .ct ds2 S2 => whK fc fb n ds2 S2 | .bk ds2 S2 => .nx ds2 S2 | r => r) = _
      rw [h2]
theorem gtp_r {gs : LGs} {n : Nat} {xs : List LV} {ds : Sl} {S : Sto} (h : S[n]? = some (.lst xs)) : asgK (gTp gs) ds (.ref n) S = (match gs xs S ds with | some ds1 => .nx ds1 S | none => .no) := by
  show (match gTp gs (.ref n) S ds with | some ds1 => RS.nx ds1 S | none => .no) = _
  have e : gTp gs (.ref n) S ds = gs xs S ds := by
    unfold gTp
    simp only [h]
  rw [e]
/-! ### great factors; the bits of a script -/
def CMulB (i j : Int) : Prop := Builtin.Int.intBits i ≤ 1048576 ∧ Builtin.Int.intBits j ≤ 1048576
theorem op_mulB {X : Cx} : OpR X (binaryOp .Mult) (rI CMulB fun i j => .int (i * j)) := opI fun _ _ _ _ _ _ _ hc q => mul_int q (IntMulOk.of_bits (Nat.le_trans hc.1 (by decide)) (Nat.le_trans hc.2 (by decide)))
def mulBL : Op2
  | .int i, .int j, S => if (decide (Builtin.Int.intBits i ≤ 1048576) && decide (Builtin.Int.intBits j ≤ 1048576)) = true then .ok (.int (i * j)) S else .no
  | _, _, _ => .no
section
variable {K : PySem.W.Frag} {T : Env1} {X : Cx} {ξ : Xi} {W : WX} {a b : Expr} {fa fb : LE} {pos : Pos}
theorem ol_mulB : OpL K T (rI CMulB fun i j => .int (i * j)) mulBL := fun m S H v w x y Q W r rv rw h => by
  unfold mulBL at h
  split at h
  · split at h
    · rename_i hz
      rw [Bool.and_eq_true, decide_eq_true_eq, decide_eq_true_eq] at hz
      exact ⟨_, _, rv, rw, hz, h.here r rfl⟩
    · exact h.elim
  · exact h.elim
theorem pl_mulB (ha : PE X a (tL X.K T ξ W fa)) (hb : PE X b (tL X.K T ξ W fb)) : PE X (.BinOp a .Mult b pos) (tL X.K T ξ W (lOp mulBL fa fb)) := pl_bin op_mulB ol_mulB ha hb
end
theorem mulB_ii {S : Sto} {i j : Int} (h : Builtin.Int.intBits i ≤ 1048576) (h2 : Builtin.Int.intBits j ≤ 1048576) : mulBL (.int i) (.int j) S = .ok (.int (i * j)) S := by
  have c : (decide (Builtin.Int.intBits i ≤ 1048576) && decide (Builtin.Int.intBits j ≤ 1048576)) = true := by rw [decide_eq_true h, decide_eq_true h2]; rfl
  show (if (decide (Builtin.Int.intBits i ≤ 1048576) && decide (Builtin.Int.intBits j ≤ 1048576)) = true then R.ok (.int (i * j)) S else .no) = _
  rw [if_pos c]
section
variable {K : PySem.W.Frag} {T : Env1} {P : Program} {w : World} {mg : Str → Option Value} {base : Heap}
def spTopB (K : PySem.W.Frag) : Sp := fun vs H Q _ => ∃ a ns, vs = [.ref a] ∧ scrOk K H a ns ∧ ns.length ≤ 63 ∧ (∀ z ∈ ns, Builtin.Int.intBits z ≤ 1048576) ∧ ∀ H', Q (.bl true) H'
theorem top_spB {H : Hp} {a : Addr} {ns : List Int} (hl : ns.length ≤ 63) (hb : ∀ z ∈ ns, Builtin.Int.intBits z ≤ 1048576) (hO : Only H) (hS : SqL K H a (ns.map V.int)) : spTopB K [.ref a] H (fun v _ => v = .bl true) fun _ _ _ => False := by
  obtain ⟨a', ns', h1, h2, _, _⟩ := top_sp (K := K) hl hO hS
  refine ⟨a, ns, rfl, ?_, hl, hb, fun _ => rfl⟩
  rcases hS with (h | ⟨o, h⟩) | h
  · rcases hO a with z | ⟨o, xs, z⟩
    · rw [z] at h; cases h
    · rw [z] at h; cases h
  · exact .inl ⟨o, h⟩
  · exact .inr fun _ => .inr h
theorem top_lawB {f : Addr} {fd : FuncData} {ps : List Str} {k : Nat} {g : Fn} (F : FnOk P w K mg base (L2N.CX P w) k f fd ps (spF K T g)) (hg : ∀ ns : List Int, ns.length ≤ 63 → (∀ z ∈ ns, Builtin.Int.intBits z ≤ 1048576) → ∃ S, g [.scr ns] [] = .ok (.bl true) S) : FnOk P w K mg base (L2N.CX P w) k f fd ps (spTopB K) :=
  F.imp fun vs H Q E ⟨a, ns, ev, hs, hl, hb, q⟩ => by
    subst ev
    obtain ⟨S, e⟩ := hg ns hl hb
    refine ⟨[], [], [.scr ns], RelS.nil, RVs.cons (by unfold RV; exact ⟨a, rfl, hs⟩) RVs.nil, ?_⟩
    rw [e]
    intro m' H' x E' r' rv
    cases (show x = .bl true from rv)
    exact q H'
end
end LL


set_option Elab.async false
set_option linter.all false
set_option maxRecDepth 100000
set_option maxHeartbeats 2000000
/-! The logical layer: sorted of the same things in another order. -/
namespace LL
open PySem PySem.Spec PyProof.Rows L2
theorem dle_iff (a b : LV) : PySem.W.dataLe false pd a b = !PySem.W.dataLt (pd b) (pd a) := rfl
theorem dle_trans (a b c : LV) (h1 : PySem.W.dataLe false pd a b = true) (h2 : PySem.W.dataLe false pd b c = true) : PySem.W.dataLe false pd a c = true := by
  rw [dle_iff, Bool.not_eq_true'] at *
  cases e : PySem.W.dataLt (pd c) (pd a) with
  | false => rfl
  | true =>
    rcases lex_negTrans (O := itemOrd) _ (PySem.W.keyToks (pd b)) _ e with z | z
    · rw [show PyProof.Rows.lexLt itemOrd (PySem.W.keyToks (pd c)) (PySem.W.keyToks (pd b)) = PySem.W.dataLt (pd c) (pd b) from rfl, h2] at z; cases z
    · rw [show PyProof.Rows.lexLt itemOrd (PySem.W.keyToks (pd b)) (PySem.W.keyToks (pd a)) = PySem.W.dataLt (pd b) (pd a) from rfl, h1] at z; cases z
theorem dle_total (a b : LV) : (PySem.W.dataLe false pd a b || PySem.W.dataLe false pd b a) = true := by
  rw [dle_iff, dle_iff]
  cases e : PySem.W.dataLt (pd b) (pd a) with
  | false => rfl
  | true =>
    cases e2 : PySem.W.dataLt (pd a) (pd b) with
    | false => rfl
    | true =>
      have := lex_trans (O := itemOrd) _ _ _ e e2
      rw [lex_irrefl] at this
      cases this
theorem dle_anti {a b : LV} (h1 : PySem.W.dataLe false pd a b = true) (h2 : PySem.W.dataLe false pd b a = true) : PySem.W.keyToks (pd a) = PySem.W.keyToks (pd b) := by
  rw [dle_iff, Bool.not_eq_true'] at *
  exact lex_total (O := itemOrd) _ _ h2 h1
theorem sortV_perm (xs : List LV) : (sortV xs).Perm xs := List.mergeSort_perm xs _
theorem sortV_pw (xs : List LV) : (sortV xs).Pairwise fun a b => PySem.W.dataLe false pd a b = true := List.pairwise_mergeSort dle_trans dle_total xs
/-- sorted of the same things -/
theorem sortV_same {xs ys : List LV} (h : xs.Perm ys) (inj : ∀ x ∈ xs, ∀ y ∈ xs, PySem.W.keyToks (pd x) = PySem.W.keyToks (pd y) → x = y) : sortV xs = sortV ys :=
  (((sortV_perm xs).trans h).trans (sortV_perm ys).symm).eq_of_pairwise (le := fun a b => PySem.W.dataLe false pd a b = true) (fun a b ha hb h1 h2 => inj a ((sortV_perm xs).mem_iff.mp ha) b (h.mem_iff.mpr ((sortV_perm ys).mem_iff.mp hb)) (dle_anti h1 h2)) (sortV_pw xs) (sortV_pw ys)
theorem sorted_ok {t : Bool} {S : Sto} {v : LV} {xs : List LV} (hv : lsO v S = some xs) (h : srtOk xs = true) : sortedG t [v] S = newL t (sortV xs) S := by
  unfold sortedG
  simp only [hv, h, if_true]
/-- tuples of a number, a text, a number, a text, a number -/
theorem keyToks_5 {a c e a' c' e' : Int} {b d b' d' : Str} (h : PySem.W.keyToks (pd (.tup [.int a, .str b, .int c, .str d, .int e])) = PySem.W.keyToks (pd (.tup [.int a', .str b', .int c', .str d', .int e']))) : a = a' ∧ b = b' ∧ c = c' ∧ d = d' ∧ e = e' := by
  simp only [pd, pds, PySem.W.keyToks, PySem.W.keyToksAll] at h
  simp at h
  obtain ⟨h1, h2, h3, h4, h5⟩ := h
  exact ⟨h1, PySem.W.str_of_cps (congrArg Array.toList h2), h3, PySem.W.str_of_cps (congrArg Array.toList h4), h5⟩
def isT5 (x : LV) : Prop := ∃ a b c d e, x = .tup [.int a, .str b, .int c, .str d, .int e]
theorem srt_5 {xs : List LV} (h : ∀ x ∈ xs, isT5 x) (hl : xs.length ≤ 16777216) : srtOk xs = true := by
  have e1 : xs.all (dz 60) = true := List.all_eq_true.mpr fun x hx => by
    obtain ⟨a, b, c, d, e, rfl⟩ := h x hx
    rfl
  have e2 : alk xs = true := by
    unfold alk
    rw [List.all_eq_true]
    intro x hx
    rw [List.all_eq_true]
    intro y hy
    obtain ⟨a, b, c, d, e, rfl⟩ := h x hx
    obtain ⟨a', b', c', d', e', rfl⟩ := h y hy
    rfl
  have e3 : xs.all isNT = true := List.all_eq_true.mpr fun x hx => by
    obtain ⟨a, b, c, d, e, rfl⟩ := h x hx
    rfl
  unfold srtOk
  rw [e1, e2, e3]
  unfold small
  simpa using hl
theorem sort_5 {xs ys : List LV} (h : xs.Perm ys) (h5 : ∀ x ∈ xs, isT5 x) : sortV xs = sortV ys := sortV_same h fun x hx y hy e => by
  obtain ⟨a, b, c, d, e', rfl⟩ := h5 x hx
  obtain ⟨a', b', c', d', e'', rfl⟩ := h5 y hy
  obtain ⟨rfl, rfl, rfl, rfl, rfl⟩ := keyToks_5 e
  rfl
/-! ### for over what is known, by places -/
theorem forK_at {J : Type} {lg : LG} {fb : LS} {l : LIt} {xs : List LV} (D : Nat → J → Sl) (T : Nat → Sto) (hl : ∀ k, ItIs (T k) l xs) (h : ∀ k v, xs[k]? = some v → ∀ j, ∃ j', turn lg fb v (D k j) (T k) = .nx (D (k + 1) j') (T (k + 1))) :
    ∀ (m k : Nat), k + m = xs.length → ∀ j, ∃ j', forK l lg fb m k (D k j) (T k) = .nx (D xs.length j') (T xs.length)
  | 0, k, e, j => by
    have e : k = xs.length := by omega
    subst e
    refine ⟨j, ?_⟩
    unfold forK
    rw [if_pos (hl _).fine]
  | m + 1, k, e, j => by
    have hk : k < xs.length := by omega
    obtain ⟨j1, h1⟩ := h k xs[k] (List.getElem?_eq_getElem hk) j
    obtain ⟨j2, h2⟩ := forK_at D T hl h m (k + 1) (by omega) j1
    refine ⟨j2, ?_⟩
    rw [← h2]
    have it := (hl k).item (List.getElem?_eq_getElem hk)
    unfold turn at h1
    conv => lhs; unfold forK
    rw [it]
    simp only
    cases q : lg xs[k] (T k) (D k j) with
    | none => rw [q] at h1; cases h1
    | some ds1 =>
      rw [q] at h1
      simp only at h1 ⊢
      cases q2 : fb ds1 (T k) with
      | nx ds2 S2 => rw [q2] at h1; cases h1; rfl
      | ct ds2 S2 => rw [q2] at h1; cases h1; rfl
      | _ => rw [q2] at h1; cases h1
theorem for_atI {J : Type} {lg : LG} {fb : LS} {l : LIt} {xs : List LV} (D : Nat → J → Sl) (T : Nat → Sto) (hl : ∀ k, ItIs (T k) l xs) (h : ∀ k v, xs[k]? = some v → ∀ j, ∃ j', turn lg fb v (D k j) (T k) = .nx (D (k + 1) j') (T (k + 1))) (j : J) :
    ∃ j', forS lg fb (D 0 j) (.ok l (T 0)) = .nx (D xs.length j') (T xs.length) := by
  have := forK_at D T hl h xs.length 0 (by omega) j
  have e : forS lg fb (D 0 j) (.ok l (T 0)) = forK l lg fb xs.length 0 (D 0 j) (T 0) := by
    show forK l lg fb l.n 0 _ _ = _
    rw [(hl 0).n]
  rw [e]
  exact this
theorem snoc_ind {α : Type} {p : List α → Prop} (h0 : p []) (h1 : ∀ l x, p l → p (l ++ [x])) (l : List α) : p l := by
  have k : ∀ m : List α, p m.reverse := fun m => by
    induction m with
    | nil => exact h0
    | cons x m ih => rw [List.reverse_cons]; exact h1 _ _ ih
  have := k l.reverse
  rwa [List.reverse_reverse] at this
end LL


set_option Elab.async false
set_option linter.all false
set_option maxRecDepth 100000
set_option maxHeartbeats 4000000

namespace K09
open PySem PySem.Spec PyProof.Rows L2 LL
noncomputable def g_is_whole : LS := (lRet (lAnd (lBi isiL (lCons (lVar 0) (lCons (lC (.ty "int")) lNil))) (lNot (lBi isiL (lCons (lVar 0) (lCons (lC (.ty "bool")) lNil))))))
noncomputable def f_is_whole : Fn := mkFn 1 1 g_is_whole
noncomputable def g_is_among : LS := (lRet (lAnd (lCall f_is_whole (lCons (lVar 0) lNil)) (lChain leL leL (lVar 1) (lVar 0) (lVar 2))))
noncomputable def f_is_among : Fn := mkFn 3 3 g_is_among
noncomputable def b_is_made_of_1 : LS := (lIf (lOp notinL (lVar 3) (lVar 1))
  (lRet (lC (.bl false)))
  lNx)
noncomputable def g_is_made_of : LS := (lSeq (lIf (lOr (lNot (lBi isiL (lCons (lVar 0) (lCons (lC (.ty "str")) lNil)))) (lOp gtL (lBi lenL (lCons (lVar 0) lNil)) (lVar 2)))
  (lRet (lC (.bl false)))
  lNx)
  (lSeq (lFor (lIter (lVar 0)) (gNm 3) b_is_made_of_1)
  (lRet (lC (.bl true)))))
noncomputable def f_is_made_of : Fn := mkFn 3 4 g_is_made_of
noncomputable def g_is_day : LS := (lRet (lCall f_is_among (lCons (lVar 0) (lCons (lC (.int 0)) (lCons (lC (.int 146096)) lNil)))))
noncomputable def f_is_day : Fn := mkFn 1 1 g_is_day
noncomputable def g_is_currency : LS := (lRet (lAnd (lCall f_is_made_of (lCons (lVar 0) (lCons (lC (.str "ABCDEFGHIJKLMNOPQRSTUVWXYZ")) (lCons (lC (.int 3)) lNil)))) (lOp eqL (lBi lenL (lCons (lVar 0) lNil)) (lC (.int 3)))))
noncomputable def f_is_currency : Fn := mkFn 1 1 g_is_currency
noncomputable def g_Rates___init__ : LS := (lSfl 100 0 lDnewT (lVar 0))
noncomputable def f_Rates___init__ : Fn := mkFn 1 1 g_Rates___init__
@[simp] noncomputable def r_Rates_quote_4 : LS := (lSub (lIte (lOp ltL (lVar 2) (lVar 4)) (lTup (lCons (lVar 3) (lCons (lVar 5) lNil))) (lTup (lCons (lVar 5) (lCons (lVar 3) lNil)))) (lVar 6) (lVar 1))
@[simp] noncomputable def r_Rates_quote_3 : LS := (lSeq (lAsg (lSetd (lUn (fldL 100 0) (lVar 0)) (lTup (lCons (lBi minU (lCons (lVar 2) (lCons (lVar 4) lNil))) (lCons (lBi maxU (lCons (lVar 2) (lCons (lVar 4) lNil))) lNil))) lDnew) (gNm 6)) r_Rates_quote_4)
@[simp] noncomputable def r_Rates_quote_2 : LS := (lSeq (lIf (lOr (lNot (lCall f_is_among (lCons (lVar 3) (lCons (lC (.int 1)) (lCons (lC (.int 1000000000)) lNil))))) (lNot (lCall f_is_among (lCons (lVar 5) (lCons (lC (.int 1)) (lCons (lC (.int 1000000000)) lNil))))))
  (lRaise 3)
  lNx) r_Rates_quote_3)
@[simp] noncomputable def r_Rates_quote_1 : LS := (lSeq (lIf (lOr (lNot (lCall f_is_currency (lCons (lVar 2) lNil))) (lOr (lNot (lCall f_is_currency (lCons (lVar 4) lNil))) (lOp eqL (lVar 2) (lVar 4))))
  (lRaise 2)
  lNx) r_Rates_quote_2)
noncomputable def g_Rates_quote : LS := (lSeq (lIf (lNot (lCall f_is_day (lCons (lVar 1) lNil)))
  (lRaise 1)
  lNx) r_Rates_quote_1)
noncomputable def f_Rates_quote : Fn := mkFn 6 7 g_Rates_quote
noncomputable def t_Rates_newest_1 : LE := (lOp leL (lVar 8) (lVar 3))
noncomputable def e_Rates_newest_1 : LE := (lVar 8)
noncomputable def c_Rates_newest_1 : LE := (lLc (lIterD (lVar 4)) (gNm 8) t_Rates_newest_1 e_Rates_newest_1 [8])
@[simp] noncomputable def r_Rates_newest_5 : LS := (lRet (lTup (lCons (lVar 7) (lCons (lVar 6) lNil))))
@[simp] noncomputable def r_Rates_newest_4 : LS := (lSeq (lIf (lOp ltL (lVar 1) (lVar 2))
  (lRet (lTup (lCons (lVar 6) (lCons (lVar 7) lNil))))
  lNx) r_Rates_newest_5)
@[simp] noncomputable def r_Rates_newest_3 : LS := (lSeq (lAsg (lOp ixL (lVar 4) (lVar 5)) (gTp (gsCons (gNm 6) (gsCons (gNm 7) gsNil)))) r_Rates_newest_4)
@[simp] noncomputable def r_Rates_newest_2 : LS := (lSeq (lIf (lOp isL (lVar 5) (lC .non))
  (lRet (lC .non))
  lNx) r_Rates_newest_3)
@[simp] noncomputable def r_Rates_newest_1 : LS := (lSeq (lAsg (lMaxD (lLock (lVar 4) c_Rates_newest_1) (lC .non)) (gNm 5)) r_Rates_newest_2)
noncomputable def g_Rates_newest : LS := (lSeq (lAsg (lGet2 (lUn (fldL 100 0) (lVar 0)) (lTup (lCons (lBi minU (lCons (lVar 1) (lCons (lVar 2) lNil))) (lCons (lBi maxU (lCons (lVar 1) (lCons (lVar 2) lNil))) lNil))) lDnew) (gNm 4)) r_Rates_newest_1)
noncomputable def f_Rates_newest : Fn := mkFn 4 9 g_Rates_newest
noncomputable def b_Rates_currencies_1 : LS := (lSeq (lSub (lC (.bl true)) (lVar 1) (lVar 2))
  (lSub (lC (.bl true)) (lVar 1) (lVar 3)))
noncomputable def g_Rates_currencies : LS := (lSeq (lAsg lDnew (gNm 1))
  (lSeq (lLockS (lUn (fldL 100 0) (lVar 0)) (lFor (lIterD (lUn (fldL 100 0) (lVar 0))) (gTp (gsCons (gNm 2) (gsCons (gNm 3) gsNil))) b_Rates_currencies_1))
  (lRet (lBi sortedDL (lCons (lVar 1) lNil)))))
noncomputable def f_Rates_currencies : Fn := mkFn 1 4 g_Rates_currencies
noncomputable def b_Rates_currencies_T_1 : LS := (lSeq (lSub (lC (.bl true)) (lVar 1) (lVar 2))
  (lSub (lC (.bl true)) (lVar 1) (lVar 3)))
noncomputable def g_Rates_currencies_T : LS := (lSeq (lAsg lDnew (gNm 1))
  (lSeq (lLockS (lUn (fldL 100 0) (lVar 0)) (lFor (lIterD (lUn (fldL 100 0) (lVar 0))) (gTp (gsCons (gNm 2) (gsCons (gNm 3) gsNil))) b_Rates_currencies_T_1))
  (lRet (lBi sortedDT (lCons (lVar 1) lNil)))))
noncomputable def f_Rates_currencies_T : Fn := mkFnT 1 4 g_Rates_currencies_T
noncomputable def b_Rates_quotes_2 : LS := (lDrop (lBm "list" appendL (lVar 1) (lCons (lTup (lCons (lVar 4) (lCons (lVar 2) (lCons (lOp ixL (lVar 5) (lC (.int 0))) (lCons (lVar 3) (lCons (lOp ixL (lVar 5) (lC (.int 1))) lNil)))))) lNil)))
noncomputable def b_Rates_quotes_1 : LS := (lLockS (lOp ixL (lUn (fldL 100 0) (lVar 0)) (lTup (lCons (lVar 2) (lCons (lVar 3) lNil)))) (lFor (lItems (lOp ixL (lUn (fldL 100 0) (lVar 0)) (lTup (lCons (lVar 2) (lCons (lVar 3) lNil))))) (gTp (gsCons (gNm 4) (gsCons (gNm 5) gsNil))) b_Rates_quotes_2))
noncomputable def g_Rates_quotes : LS := (lSeq (lAsg (lLsT lNil) (gNm 1))
  (lSeq (lLockS (lUn (fldL 100 0) (lVar 0)) (lFor (lIterD (lUn (fldL 100 0) (lVar 0))) (gTp (gsCons (gNm 2) (gsCons (gNm 3) gsNil))) b_Rates_quotes_1))
  (lRet (lBi sortedL (lCons (lVar 1) lNil)))))
noncomputable def f_Rates_quotes : Fn := mkFn 1 6 g_Rates_quotes
noncomputable def b_Rates_quotes_T_2 : LS := (lDrop (lBm "list" appendL (lVar 1) (lCons (lTup (lCons (lVar 4) (lCons (lVar 2) (lCons (lOp ixL (lVar 5) (lC (.int 0))) (lCons (lVar 3) (lCons (lOp ixL (lVar 5) (lC (.int 1))) lNil)))))) lNil)))
noncomputable def b_Rates_quotes_T_1 : LS := (lLockS (lOp ixL (lUn (fldL 100 0) (lVar 0)) (lTup (lCons (lVar 2) (lCons (lVar 3) lNil)))) (lFor (lItems (lOp ixL (lUn (fldL 100 0) (lVar 0)) (lTup (lCons (lVar 2) (lCons (lVar 3) lNil))))) (gTp (gsCons (gNm 4) (gsCons (gNm 5) gsNil))) b_Rates_quotes_T_2))
noncomputable def g_Rates_quotes_T : LS := (lSeq (lAsg (lLsT lNil) (gNm 1))
  (lSeq (lLockS (lUn (fldL 100 0) (lVar 0)) (lFor (lIterD (lUn (fldL 100 0) (lVar 0))) (gTp (gsCons (gNm 2) (gsCons (gNm 3) gsNil))) b_Rates_quotes_T_1))
  (lRet (lBi sortedT (lCons (lVar 1) lNil)))))
noncomputable def f_Rates_quotes_T : Fn := mkFnT 1 6 g_Rates_quotes_T
noncomputable def g__law_cell_at : LS := (lSeq (lIf (lOp ltL (lVar 1) (lBi lenL (lCons (lVar 0) lNil)))
  (lRet (lOp ixL (lVar 0) (lVar 1)))
  lNx)
  (lRet (lC (.int 0))))
noncomputable def f__law_cell_at : Fn := mkFn 2 2 g__law_cell_at
noncomputable def e__law_currency_by_1 : LE := (lOp ixL (lVar 2) (lOp modL (lOp addL (lVar 3) (lOp mulL (lC (.int 7)) (lVar 5))) (lC (.int 26))))
noncomputable def c__law_currency_by_1 : LE := (lLcT (lRng1 (lCons (lC (.int 3)) lNil)) (gNm 5) lYes e__law_currency_by_1 [5])
noncomputable def g__law_currency_by : LS := (lSeq (lAsg (lC (.str "ABCDEFGHIJKLMNOPQRSTUVWXYZ")) (gNm 2))
  (lSeq (lAsg (lOp modL (lOp divL (lVar 0) (lC (.int 3))) (lC (.int 26))) (gNm 3))
  (lSeq (lAsg c__law_currency_by_1 (gNm 4))
  (lSeq (lSub (lOp ixL (lVar 2) (lOp modL (lOp addL (lOp addL (lOp addL (lVar 3) (lOp mulL (lC (.int 7)) (lOp modL (lVar 0) (lC (.int 3))))) (lC (.int 1))) (lVar 1)) (lC (.int 26)))) (lVar 4) (lOp modL (lVar 0) (lC (.int 3))))
  (lRet (lBm "str" joinL2 (lC (.str "")) (lCons (lVar 4) lNil)))))))
noncomputable def f__law_currency_by : Fn := mkFn 2 6 g__law_currency_by
noncomputable def b__law_newest_1 : LS := (lIf (lAnd (lOp leL (lOp ixL (lVar 5) (lC (.int 0))) (lVar 3)) (lOr (lOp isL (lVar 4) (lC .non)) (lOp geL (lOp ixL (lVar 5) (lC (.int 0))) (lOp ixL (lVar 4) (lC (.int 0))))))
  (lIf (lAnd (lOp eqL (lOp ixL (lVar 5) (lC (.int 1))) (lVar 1)) (lOp eqL (lOp ixL (lVar 5) (lC (.int 3))) (lVar 2)))
  (lAsg (lTup (lCons (lOp ixL (lVar 5) (lC (.int 0))) (lCons (lOp ixL (lVar 5) (lC (.int 2))) (lCons (lOp ixL (lVar 5) (lC (.int 4))) lNil)))) (gNm 4))
  (lIf (lAnd (lOp eqL (lOp ixL (lVar 5) (lC (.int 1))) (lVar 2)) (lOp eqL (lOp ixL (lVar 5) (lC (.int 3))) (lVar 1)))
  (lAsg (lTup (lCons (lOp ixL (lVar 5) (lC (.int 0))) (lCons (lOp ixL (lVar 5) (lC (.int 4))) (lCons (lOp ixL (lVar 5) (lC (.int 2))) lNil)))) (gNm 4))
  lNx))
  lNx)
noncomputable def g__law_newest : LS := (lSeq (lAsg (lC .non) (gNm 4))
  (lSeq (lFor (lIter (lVar 0)) (gNm 5) b__law_newest_1)
  (lRet (lIte (lOp isL (lVar 4) (lC .non)) (lC .non) (lSl (lVar 4) (some (lC (.int 1))) none)))))
noncomputable def f__law_newest : Fn := mkFn 4 6 g__law_newest
noncomputable def g__law_is_whole : LS := (lRet (lAnd (lBi isiL (lCons (lVar 0) (lCons (lC (.ty "int")) lNil))) (lAnd (lNot (lBi isiL (lCons (lVar 0) (lCons (lC (.ty "bool")) lNil)))) (lChain leL leL (lVar 1) (lVar 0) (lVar 2)))))
noncomputable def f__law_is_whole : Fn := mkFn 3 3 g__law_is_whole
noncomputable def t__law_is_currency_1 : LE := (lOp notinL (lVar 1) (lC (.str "ABCDEFGHIJKLMNOPQRSTUVWXYZ")))
noncomputable def e__law_is_currency_1 : LE := (lVar 1)
noncomputable def c__law_is_currency_1 : LE := (lLc (lIter (lVar 0)) (gNm 1) t__law_is_currency_1 e__law_is_currency_1 [1])
noncomputable def g__law_is_currency : LS := (lSeq (lIf (lOr (lNot (lBi isiL (lCons (lVar 0) (lCons (lC (.ty "str")) lNil)))) (lOp neL (lBi lenL (lCons (lVar 0) lNil)) (lC (.int 3))))
  (lRet (lC (.bl false)))
  lNx)
  (lRet (lOp eqL c__law_is_currency_1 (lLst lNil))))
noncomputable def f__law_is_currency : Fn := mkFn 1 2 g__law_is_currency
@[simp] noncomputable def r__law_due_3 : LS := (lRet (lOp mulL (lC (.str "rate")) (lBi intL (lCons (lOr (lNot (lCall f__law_is_whole (lCons (lVar 3) (lCons (lC (.int 1)) (lCons (lOp powL (lC (.int 10)) (lC (.int 9))) lNil))))) (lNot (lCall f__law_is_whole (lCons (lVar 5) (lCons (lC (.int 1)) (lCons (lOp powL (lC (.int 10)) (lC (.int 9))) lNil)))))) lNil))))
@[simp] noncomputable def r__law_due_2 : LS := (lSeq (lIf (lOr (lNot (lCall f__law_is_currency (lCons (lVar 2) lNil))) (lOr (lNot (lCall f__law_is_currency (lCons (lVar 4) lNil))) (lOp eqL (lVar 2) (lVar 4))))
  (lRet (lC (.str "currency")))
  lNx) r__law_due_3)
@[simp] noncomputable def r__law_due_1 : LS := (lSeq (lIf (lNot (lCall f__law_is_whole (lCons (lVar 1) (lCons (lC (.int 0)) (lCons (lC (.int 146096)) lNil)))))
  (lRet (lC (.str "day")))
  lNx) r__law_due_2)
noncomputable def g__law_due : LS := (lSeq (lAsg (lVar 0) (gTp (gsCons (gNm 1) (gsCons (gNm 2) (gsCons (gNm 3) (gsCons (gNm 4) (gsCons (gNm 5) gsNil))))))) r__law_due_1)
noncomputable def f__law_due : Fn := mkFn 1 6 g__law_due
@[simp] noncomputable def r__law_spoilt_7 : LS := (lRet (lOp ixL (lVar 12) (lOp modL (lVar 1) (lC (.int 7)))))
@[simp] noncomputable def r__law_spoilt_6 : LS := (lSeq (lAsg (lOp addL (lVar 12) (lLst (lCons (lTup (lCons (lVar 3) (lCons (lVar 4) (lCons (lVar 5) (lCons (lVar 6) (lCons (lVar 11) lNil)))))) (lCons (lTup (lCons (lVar 9) (lCons (lVar 10) (lCons (lVar 5) (lCons (lVar 6) (lCons (lVar 7) lNil)))))) (lCons (lTup (lCons (lVar 3) (lCons (lVar 4) (lCons (lVar 11) (lCons (lVar 4) (lCons (lVar 7) lNil)))))) lNil))))) (gNm 12)) r__law_spoilt_7)
@[simp] noncomputable def r__law_spoilt_5 : LS := (lSeq (lAsg (lLst (lCons (lTup (lCons (lVar 9) (lCons (lVar 4) (lCons (lVar 5) (lCons (lVar 6) (lCons (lVar 7) lNil)))))) (lCons (lTup (lCons (lVar 3) (lCons (lVar 10) (lCons (lVar 5) (lCons (lVar 6) (lCons (lVar 7) lNil)))))) (lCons (lTup (lCons (lVar 3) (lCons (lVar 4) (lCons (lVar 5) (lCons (lVar 10) (lCons (lVar 7) lNil)))))) (lCons (lTup (lCons (lVar 3) (lCons (lVar 4) (lCons (lVar 11) (lCons (lVar 6) (lCons (lVar 7) lNil)))))) lNil))))) (gNm 12)) r__law_spoilt_6)
@[simp] noncomputable def r__law_spoilt_4 : LS := (lSeq (lAsg (lOp ixL (lLst (lCons (lC (.int 0)) (lCons (lUn negL (lC (.int 1))) (lCons (lOp addL (lOp powL (lC (.int 10)) (lC (.int 9))) (lC (.int 1))) (lCons (lC (.bl true)) (lCons (lC .non) (lCons (lC (.str "3")) (lCons (lOp addL (lOp addL (lOp powL (lC (.int 10)) (lC (.int 9))) (lC (.int 1))) (lVar 8)) (lCons (lC (.bl false)) lNil))))))))) (lOp modL (lVar 2) (lC (.int 8)))) (gNm 11)) r__law_spoilt_5)
@[simp] noncomputable def r__law_spoilt_3 : LS := (lSeq (lAsg (lOp ixL (lLst (lCons (lC (.str "")) (lCons (lC (.str "EU")) (lCons (lC (.str "eur")) (lCons (lC (.int 5)) (lCons (lC .non) (lCons (lLst (lCons (lC (.str "EUR")) lNil)) (lCons (lC (.str "A1B")) (lCons (lC (.str "EURO")) lNil))))))))) (lOp modL (lVar 2) (lC (.int 8)))) (gNm 10)) r__law_spoilt_4)
@[simp] noncomputable def r__law_spoilt_2 : LS := (lSeq (lAsg (lOp ixL (lLst (lCons (lUn negL (lC (.int 1))) (lCons (lC (.int 146097)) (lCons (lC .non) (lCons (lC (.bl true)) (lCons (lC (.str "5")) (lCons (lLst (lCons (lC (.int 5)) lNil)) (lCons (lOp addL (lC (.int 146097)) (lVar 8)) (lCons (lC (.bl false)) lNil))))))))) (lOp modL (lVar 2) (lC (.int 8)))) (gNm 9)) r__law_spoilt_3)
@[simp] noncomputable def r__law_spoilt_1 : LS := (lSeq (lAsg (lOp modL (lBi absL (lCons (lVar 2) lNil)) (lOp powL (lC (.int 10)) (lC (.int 60)))) (gNm 8)) r__law_spoilt_2)
noncomputable def g__law_spoilt : LS := (lSeq (lAsg (lVar 0) (gTp (gsCons (gNm 3) (gsCons (gNm 4) (gsCons (gNm 5) (gsCons (gNm 6) (gsCons (gNm 7) gsNil))))))) r__law_spoilt_1)
noncomputable def f__law_spoilt : Fn := mkFn 3 13 g__law_spoilt
@[simp] noncomputable def r__law_word_E_2 : LS := (lRet (lOp ixL (lLst (lCons (lC (.str "day")) (lCons (lC (.str "currency")) (lCons (lC (.str "rate")) (lCons (lC (.str "none")) lNil))))) (lBm "list" lindexL (lVar 1) (lCons (lC (.bl true)) lNil))))
@[simp] noncomputable def r__law_word_E_1 : LS := (lSeq (lIf (lOr (lOp neL (lBm "list" lcountL (lVar 1) (lCons (lC (.bl true)) lNil)) (lC (.int 1))) (lNot (lIsE 0 (hitA [(1, true), (2, true), (3, true)]))))
  (lRet (lC (.str "odd")))
  lNx) r__law_word_E_2)
noncomputable def g__law_word_E : LS := (lSeq (lAsg (lLst (lCons (lIsE 0 (hitA [(1, true), (2, false), (3, false)])) (lCons (lIsE 0 (hitA [(1, false), (2, true), (3, false)])) (lCons (lIsE 0 (hitA [(1, false), (2, false), (3, true)])) (lCons (lIsE 0 (hitA [(1, false), (2, false), (3, false)])) lNil))))) (gNm 1)) r__law_word_E_1)
noncomputable def f__law_word_E : Fn := mkE 2 g__law_word_E
noncomputable def g__law_told : LS := (lSeq (lAsg (lC .non) (gNm 2))
  (lSeq (lTryAs 3 (hitA [(1, true), (2, true), (3, true)])
  (lAsg (lMeth (tabA [(100, f_Rates_quote)]) (lVar 0) (lCons (lOp ixL (lVar 1) (lC (.int 0))) (lCons (lOp ixL (lVar 1) (lC (.int 1))) (lCons (lOp ixL (lVar 1) (lC (.int 2))) (lCons (lOp ixL (lVar 1) (lC (.int 3))) (lCons (lOp ixL (lVar 1) (lC (.int 4))) lNil)))))) (gNm 2))
  (lRet (lCallE f__law_word_E 3)))
  (lRet (lOp mulL (lC (.str "told")) (lBi intL (lCons (lOp isnotL (lVar 2) (lC .non)) lNil))))))
noncomputable def f__law_told : Fn := mkFn 2 4 g__law_told
noncomputable def t__law_newest_good_1 : LE := (lBi isiL (lCons (lVar 7) (lCons (lC (.ty "bool")) lNil)))
noncomputable def e__law_newest_good_1 : LE := (lVar 7)
noncomputable def c__law_newest_good_1 : LE := (lLc (lIter (lVar 6)) (gNm 7) t__law_newest_good_1 e__law_newest_good_1 [7])
@[simp] noncomputable def r__law_newest_good_4 : LS := (lRet (lOp eqL c__law_newest_good_1 (lLst lNil)))
@[simp] noncomputable def r__law_newest_good_3 : LS := (lSeq (lIf (lOr (lNot (lBi isiL (lCons (lVar 6) (lCons (lC (.ty "tuple")) lNil)))) (lOp neL (lVar 6) (lVar 5)))
  (lRet (lC (.bl false)))
  lNx) r__law_newest_good_4)
@[simp] noncomputable def r__law_newest_good_2 : LS := (lSeq (lIf (lOr (lOp isL (lVar 5) (lC .non)) (lOp isL (lVar 6) (lC .non)))
  (lRet (lAnd (lOp isL (lVar 5) (lC .non)) (lOp isL (lVar 6) (lC .non))))
  lNx) r__law_newest_good_3)
@[simp] noncomputable def r__law_newest_good_1 : LS := (lSeq (lAsg (lMeth (tabA [(100, f_Rates_newest)]) (lVar 0) (lCons (lVar 2) (lCons (lVar 3) (lCons (lVar 4) lNil)))) (gNm 6)) r__law_newest_good_2)
noncomputable def g__law_newest_good : LS := (lSeq (lAsg (lCall f__law_newest (lCons (lVar 1) (lCons (lVar 2) (lCons (lVar 3) (lCons (lVar 4) lNil))))) (gNm 5)) r__law_newest_good_1)
noncomputable def f__law_newest_good : Fn := mkFn 5 8 g__law_newest_good
noncomputable def b__law_pair_good_1 : LS := (lIf (lOr (lNot (lCall f__law_newest_good (lCons (lVar 0) (lCons (lVar 1) (lCons (lVar 2) (lCons (lVar 3) (lCons (lVar 5) lNil))))))) (lNot (lCall f__law_newest_good (lCons (lVar 0) (lCons (lVar 1) (lCons (lVar 3) (lCons (lVar 2) (lCons (lVar 5) lNil))))))))
  (lRet (lC (.bl false)))
  lNx)
noncomputable def g__law_pair_good : LS := (lSeq (lFor (lIter (lTup (lCons (lVar 4) (lCons (lBi maxU (lCons (lC (.int 0)) (lCons (lOp subL (lVar 4) (lC (.int 1))) lNil))) (lCons (lBi minU (lCons (lC (.int 146096)) (lCons (lOp addL (lVar 4) (lC (.int 7))) lNil))) lNil))))) (gNm 5) b__law_pair_good_1)
  (lRet (lC (.bl true))))
noncomputable def f__law_pair_good : Fn := mkFn 5 6 g__law_pair_good
noncomputable def e__law_lists_2 : LE := (lTup (lCons (lOp ixL (lVar 8) (lC (.int 0))) (lCons (lOp ixL (lVar 8) (lC (.int 1))) (lCons (lOp ixL (lOp ixL (lVar 1) (lVar 8)) (lC (.int 0))) (lCons (lOp ixL (lVar 8) (lC (.int 2))) (lCons (lOp ixL (lOp ixL (lVar 1) (lVar 8)) (lC (.int 1))) lNil))))))
noncomputable def c__law_lists_2 : LE := (lLc (lIterD (lVar 1)) (gNm 8) lYes e__law_lists_2 [8])
noncomputable def b__law_lists_1 : LS := (lSeq (lSub (lC (.bl true)) (lVar 2) (lVar 4))
  (lSeq (lSub (lC (.bl true)) (lVar 2) (lVar 6))
  (lSub (lIte (lOp ltL (lVar 4) (lVar 6)) (lTup (lCons (lVar 5) (lCons (lVar 7) lNil))) (lTup (lCons (lVar 7) (lCons (lVar 5) lNil)))) (lVar 1) (lTup (lCons (lVar 3) (lCons (lBi minU (lCons (lVar 4) (lCons (lVar 6) lNil))) (lCons (lBi maxU (lCons (lVar 4) (lCons (lVar 6) lNil))) lNil)))))))
noncomputable def g__law_lists : LS := (lSeq (lAsg lDnewT (gNm 1))
  (lSeq (lAsg lDnew (gNm 2))
  (lSeq (lFor (lIter (lVar 0)) (gTp (gsCons (gNm 3) (gsCons (gNm 4) (gsCons (gNm 5) (gsCons (gNm 6) (gsCons (gNm 7) gsNil)))))) b__law_lists_1)
  (lRet (lLst (lCons (lBi sortedL (lCons (lLock (lVar 1) c__law_lists_2) lNil)) (lCons (lBi sortedDL (lCons (lVar 2) lNil)) lNil)))))))
noncomputable def f__law_lists : Fn := mkFn 1 9 g__law_lists
noncomputable def g__law_list : LS := (lSeq (lIf (lOp eqL (lVar 1) (lC (.int 0)))
  (lRet (lMeth (tabA [(100, f_Rates_quotes)]) (lVar 0) lNil))
  lNx)
  (lRet (lMeth (tabA [(100, f_Rates_currencies)]) (lVar 0) lNil)))
noncomputable def f__law_list : Fn := mkFn 2 2 g__law_list
noncomputable def g__law_list_T : LS := (lSeq (lIf (lOp eqL (lVar 1) (lC (.int 0)))
  (lRet (lMeth (tabA [(100, f_Rates_quotes_T)]) (lVar 0) lNil))
  lNx)
  (lRet (lMeth (tabA [(100, f_Rates_currencies_T)]) (lVar 0) lNil)))
noncomputable def f__law_list_T : Fn := mkFnT 2 2 g__law_list_T
@[simp] noncomputable def rb__law_listed_1_4 : LS := (lIf (lOp neL (lOp ixL (lVar 2) (lUn negL (lC (.int 1)))) (lOp ixL (lVar 4) (lVar 5)))
  (lRet (lC (.bl false)))
  lNx)
@[simp] noncomputable def rb__law_listed_1_3 : LS := (lSeq (lDrop (lBm "list" appendL (lVar 2) (lCons (lCall f__law_list (lCons (lVar 0) (lCons (lVar 5) lNil))) lNil))) rb__law_listed_1_4)
@[simp] noncomputable def rb__law_listed_1_2 : LS := (lSeq (lDrop (lBm "list" appendL (lVar 6) (lCons (lC (.str "more")) lNil))) rb__law_listed_1_3)
@[simp] noncomputable def rb__law_listed_1_1 : LS := (lSeq (lIf (lOr (lNot (lBi isiL (lCons (lVar 6) (lCons (lC (.ty "list")) lNil)))) (lOp neL (lVar 6) (lOp ixL (lVar 4) (lVar 5))))
  (lRet (lC (.bl false)))
  lNx) rb__law_listed_1_2)
noncomputable def b__law_listed_1 : LS := (lSeq (lAsg (lCall f__law_list_T (lCons (lVar 0) (lCons (lVar 5) lNil))) (gNm 6)) rb__law_listed_1_1)
noncomputable def g__law_listed : LS := (lSeq (lAsg (lCall f__law_lists (lCons (lVar 1) lNil)) (gNm 4))
  (lSeq (lFor (lIter (lOp ixL (lLst (lCons (lLst (lCons (lC (.int 0)) (lCons (lC (.int 1)) lNil))) (lCons (lLst (lCons (lC (.int 1)) (lCons (lC (.int 0)) lNil))) lNil))) (lOp modL (lVar 3) (lC (.int 2))))) (gNm 5) b__law_listed_1)
  (lRet (lC (.bl true)))))
noncomputable def f__law_listed : Fn := mkFn 4 7 g__law_listed
noncomputable def t__law_all_good_2 : LE := (lNot (lCall f__law_newest_good (lCons (lVar 0) (lCons (lVar 1) (lCons (lVar 4) (lCons (lVar 5) (lCons (lVar 3) lNil)))))))
noncomputable def e__law_all_good_2 : LE := (lVar 5)
noncomputable def c__law_all_good_2 : LE := (lLc (lIter (lVar 2)) (gNm 5) t__law_all_good_2 e__law_all_good_2 [5])
noncomputable def b__law_all_good_1 : LS := (lIf (lOp neL c__law_all_good_2 (lLst lNil))
  (lRet (lC (.bl false)))
  lNx)
noncomputable def g__law_all_good : LS := (lSeq (lFor (lIter (lVar 2)) (gNm 4) b__law_all_good_1)
  (lRet (lC (.bl true))))
noncomputable def f__law_all_good : Fn := mkFn 4 6 g__law_all_good
noncomputable def b__law_end_good_1 : LS := (lSeq (lIf (lNot (lCall f__law_all_good (lCons (lOp ixL (lVar 0) (lVar 4)) (lCons (lOp ixL (lVar 1) (lVar 4)) (lCons (lVar 2) (lCons (lVar 3) lNil))))))
  (lRet (lC (.bl false)))
  lNx)
  (lIf (lNot (lCall f__law_listed (lCons (lOp ixL (lVar 0) (lVar 4)) (lCons (lOp ixL (lVar 1) (lVar 4)) (lCons (lLsT lNil) (lCons (lOp addL (lVar 3) (lVar 4)) lNil))))))
  (lRet (lC (.bl false)))
  lNx))
noncomputable def g__law_end_good : LS := (lSeq (lFor (lRng1 (lCons (lC (.int 2)) lNil)) (gNm 4) b__law_end_good_1)
  (lRet (lC (.bl true))))
noncomputable def f__law_end_good : Fn := mkFn 4 5 g__law_end_good
noncomputable def e_law_4 : LE := (lBi listL (lCons (lVar 18) lNil))
noncomputable def c_law_4 : LE := (lLc (lIter (lSl (lVar 5) (some (lBi lenL (lCons (lVar 6) lNil))) none)) (gNm 18) lYes e_law_4 [18])
noncomputable def b_law_3 : LS := (lIf (lNot (lCall f__law_pair_good (lCons (lOp ixL (lVar 3) (lVar 17)) (lCons (lOp ixL (lVar 4) (lVar 17)) (lCons (lVar 11) (lCons (lVar 12) (lCons (lVar 7) lNil)))))))
  (lRet (lC (.bl false)))
  lNx)
@[simp] noncomputable def rb_law_2_15 : LS := (lAsg (lOp addL (lVar 6) c_law_4) (gNm 6))
@[simp] noncomputable def rb_law_2_14 : LS := (lSeq (lIf (lAnd (lOp eqL (lOp modL (lOp divL (lVar 15) (lC (.int 2))) (lC (.int 3))) (lC (.int 1))) (lNot (lCall f__law_listed (lCons (lOp ixL (lVar 3) (lVar 9)) (lCons (lOp ixL (lVar 4) (lVar 9)) (lCons (lVar 5) (lCons (lVar 15) lNil)))))))
  (lRet (lC (.bl false)))
  lNx) rb_law_2_15)
@[simp] noncomputable def rb_law_2_13 : LS := (lSeq (lFor (lRng1 (lCons (lC (.int 2)) lNil)) (gNm 17) b_law_3) rb_law_2_14)
@[simp] noncomputable def rb_law_2_12 : LS := (lSeq (lIf (lAnd (lOp eqL (lOp modL (lOp divL (lVar 15) (lC (.int 2))) (lC (.int 3))) (lC (.int 0))) (lNot (lCall f__law_listed (lCons (lOp ixL (lVar 3) (lVar 9)) (lCons (lOp ixL (lVar 4) (lVar 9)) (lCons (lVar 5) (lCons (lVar 15) lNil)))))))
  (lRet (lC (.bl false)))
  lNx) rb_law_2_13)
@[simp] noncomputable def rb_law_2_11 : LS := (lSeq (lIf (lOp eqL (lVar 14) (lC (.str "")))
  (lDrop (lBm "list" appendL (lOp ixL (lVar 4) (lVar 9)) (lCons (lVar 13) lNil)))
  lNx) rb_law_2_12)
@[simp] noncomputable def rb_law_2_10 : LS := (lSeq (lIf (lOr (lNot (lVar 16)) (lOp neL (lCall f__law_told (lCons (lOp ixL (lVar 3) (lVar 9)) (lCons (lVar 13) lNil))) (lVar 14)))
  (lRet (lC (.bl false)))
  lNx) rb_law_2_11)
@[simp] noncomputable def rb_law_2_9 : LS := (lSeq (lAsg (lOr (lOp gtL (lOp modL (lVar 15) (lC (.int 3))) (lC (.int 0))) (lCall f__law_pair_good (lCons (lOp ixL (lVar 3) (lVar 9)) (lCons (lOp ixL (lVar 4) (lVar 9)) (lCons (lVar 11) (lCons (lVar 12) (lCons (lVar 7) lNil))))))) (gNm 16)) rb_law_2_10)
@[simp] noncomputable def rb_law_2_8 : LS := (lSeq (lAsg (lOp addL (lOp divL (lOp ixL (lVar 0) (lOp addL (lVar 8) (lC (.int 2)))) (lC (.int 3))) (lOp divL (lOp ixL (lVar 0) (lOp addL (lVar 8) (lC (.int 3)))) (lC (.int 5)))) (gNm 15)) rb_law_2_9)
@[simp] noncomputable def rb_law_2_7 : LS := (lSeq (lAsg (lCall f__law_due (lCons (lVar 13) lNil)) (gNm 14)) rb_law_2_8)
@[simp] noncomputable def rb_law_2_6 : LS := (lSeq (lIf (lOp eqL (lOp modL (lOp divL (lOp ixL (lVar 0) (lVar 8)) (lC (.int 50))) (lC (.int 9))) (lC (.int 1)))
  (lAsg (lCall f__law_spoilt (lCons (lVar 13) (lCons (lOp ixL (lVar 0) (lOp addL (lVar 8) (lC (.int 2)))) (lCons (lOp ixL (lVar 0) (lOp addL (lVar 8) (lC (.int 3)))) lNil)))) (gNm 13))
  lNx) rb_law_2_7)
@[simp] noncomputable def rb_law_2_5 : LS := (lSeq (lAsg (lTup (lCons (lVar 7) (lCons (lVar 11) (lCons (lOp addL (lC (.int 1)) (lOp modL (lOp ixL (lVar 0) (lOp addL (lVar 8) (lC (.int 2)))) (lVar 10))) (lCons (lVar 12) (lCons (lOp addL (lC (.int 1)) (lOp modL (lOp ixL (lVar 0) (lOp addL (lVar 8) (lC (.int 3)))) (lVar 10))) lNil)))))) (gNm 13)) rb_law_2_6)
@[simp] noncomputable def rb_law_2_4 : LS := (lSeq (lAsg (lOp ixL (lVar 1) (lOp modL (lOp divL (lOp ixL (lVar 0) (lVar 8)) (lC (.int 10))) (lC (.int 5)))) (gNm 12)) rb_law_2_5)
@[simp] noncomputable def rb_law_2_3 : LS := (lSeq (lAsg (lOp ixL (lVar 1) (lOp modL (lOp divL (lOp ixL (lVar 0) (lVar 8)) (lC (.int 2))) (lC (.int 5)))) (gNm 11)) rb_law_2_4)
@[simp] noncomputable def rb_law_2_2 : LS := (lSeq (lAsg (lOp ixL (lLst (lCons (lC (.int 20)) (lCons (lOp powL (lC (.int 10)) (lC (.int 9))) lNil))) (lOp modL (lOp divL (lOp ixL (lVar 0) (lOp addL (lVar 8) (lC (.int 1)))) (lC (.int 12))) (lC (.int 2)))) (gNm 10)) rb_law_2_3)
@[simp] noncomputable def rb_law_2_1 : LS := (lSeq (lAsg (lBi minU (lCons (lC (.int 146096)) (lCons (lOp addL (lVar 2) (lOp modL (lOp ixL (lVar 0) (lOp addL (lVar 8) (lC (.int 1)))) (lC (.int 12)))) lNil))) (gNm 7)) rb_law_2_2)
noncomputable def b_law_2 : LS := (lSeq (lAsg (lOp modL (lOp ixL (lVar 0) (lVar 8)) (lC (.int 2))) (gNm 9)) rb_law_2_1)
noncomputable def e_law_1 : LE := (lCall f__law_currency_by (lCons (lCall f__law_cell_at (lCons (lVar 0) (lCons (lC (.int 0)) lNil))) (lCons (lVar 8) lNil)))
noncomputable def c_law_1 : LE := (lLc (lRng1 (lCons (lC (.int 6)) lNil)) (gNm 8) lYes e_law_1 [8])
@[simp] noncomputable def r_law_8 : LS := (lRet (lAnd (lCall f__law_end_good (lCons (lVar 3) (lCons (lVar 4) (lCons (lVar 1) (lCons (lVar 7) lNil))))) (lOp eqL (lVar 5) (lVar 6))))
@[simp] noncomputable def r_law_7 : LS := (lSeq (lFor (lRng3 (lCons (lC (.int 2)) (lCons (lOp subL (lBi lenL (lCons (lVar 0) lNil)) (lC (.int 3))) (lCons (lC (.int 4)) lNil)))) (gNm 8) b_law_2) r_law_8)
@[simp] noncomputable def r_law_6 : LS := (lSeq (lAsg (lVar 2) (gNm 7)) r_law_7)
@[simp] noncomputable def r_law_5 : LS := (lSeq (lAsg (lLst lNil) (gNm 6)) r_law_6)
@[simp] noncomputable def r_law_4 : LS := (lSeq (lAsg (lLsT lNil) (gNm 5)) r_law_5)
@[simp] noncomputable def r_law_3 : LS := (lSeq (lAsg (lLsT (lCons (lLsT lNil) (lCons (lLsT lNil) lNil))) (gNm 4)) r_law_4)
@[simp] noncomputable def r_law_2 : LS := (lSeq (lAsg (lLst (lCons (lMake 100 f_Rates___init__ lNil) (lCons (lMake 100 f_Rates___init__ lNil) lNil))) (gNm 3)) r_law_3)
@[simp] noncomputable def r_law_1 : LS := (lSeq (lAsg (lOp modL (lCall f__law_cell_at (lCons (lVar 0) (lCons (lC (.int 1)) lNil))) (lC (.int 146097))) (gNm 2)) r_law_2)
noncomputable def g_law : LS := (lSeq (lAsg c_law_1 (gNm 1)) r_law_1)
noncomputable def f_law : Fn := mkFn 1 19 g_law
-- CLASSES Rates=100
-- CODES HouseError=0 BadDay=1 BadCurrency=2 BadRate=3 NoRate=4
end K09


set_option Elab.async false
set_option linter.all false
set_option maxRecDepth 100000
set_option maxHeartbeats 4000000

namespace K09
open PySem PySem.Spec PyProof.Rows L2 LL
def topS (i : Nat) : Stmt := PySem.Challenge.pw_evenhall_k09_quotes_by_plain_rows.main.body.getD i (.Pass ⟨0, 0, 0, 0⟩)
abbrev s_is_whole : Stmt := topS 7
theorem sc_is_whole : FnScope ["thing"] ["thing"] (defScope s_is_whole) := ⟨rfl, rfl, rfl, by decide +kernel, rfl, by decide +kernel, by decide +kernel⟩
abbrev s_is_among : Stmt := topS 8
theorem sc_is_among : FnScope ["thing", "least", "most"] ["thing", "least", "most"] (defScope s_is_among) := ⟨rfl, rfl, rfl, by decide +kernel, rfl, by decide +kernel, by decide +kernel⟩
abbrev s_is_made_of : Stmt := topS 9
theorem sc_is_made_of : FnScope ["thing", "signs", "most", "sign"] ["thing", "signs", "most"] (defScope s_is_made_of) := ⟨rfl, rfl, rfl, by decide +kernel, rfl, by decide +kernel, by decide +kernel⟩
abbrev s_is_day : Stmt := topS 12
theorem sc_is_day : FnScope ["thing"] ["thing"] (defScope s_is_day) := ⟨rfl, rfl, rfl, by decide +kernel, rfl, by decide +kernel, by decide +kernel⟩
abbrev s_is_currency : Stmt := topS 15
theorem sc_is_currency : FnScope ["thing"] ["thing"] (defScope s_is_currency) := ⟨rfl, rfl, rfl, by decide +kernel, rfl, by decide +kernel, by decide +kernel⟩
abbrev s_Rates___init__ : Stmt := inClass (topS 18) 0
theorem sc_Rates___init__ : FnScope ["self"] ["self"] (defScope s_Rates___init__) := ⟨rfl, rfl, rfl, by decide +kernel, rfl, by decide +kernel, by decide +kernel⟩
abbrev s_Rates_quote : Stmt := inClass (topS 18) 1
theorem sc_Rates_quote : FnScope ["self", "day", "one", "p", "other", "q", "days"] ["self", "day", "one", "p", "other", "q"] (defScope s_Rates_quote) := ⟨rfl, rfl, rfl, by decide +kernel, rfl, by decide +kernel, by decide +kernel⟩
abbrev s_Rates_newest : Stmt := inClass (topS 18) 2
theorem sc_Rates_newest : FnScope ["self", "one", "other", "day", "days", "latest", "p", "q", "at"] ["self", "one", "other", "day"] (defScope s_Rates_newest) := ⟨rfl, rfl, rfl, by decide +kernel, rfl, by decide +kernel, by decide +kernel⟩
abbrev s_Rates_currencies : Stmt := inClass (topS 18) 3
theorem sc_Rates_currencies : FnScope ["self", "found", "one", "other"] ["self"] (defScope s_Rates_currencies) := ⟨rfl, rfl, rfl, by decide +kernel, rfl, by decide +kernel, by decide +kernel⟩
abbrev s_Rates_quotes : Stmt := inClass (topS 18) 4
theorem sc_Rates_quotes : FnScope ["self", "found", "one", "other", "day", "coins"] ["self"] (defScope s_Rates_quotes) := ⟨rfl, rfl, rfl, by decide +kernel, rfl, by decide +kernel, by decide +kernel⟩
abbrev s__law_cell_at : Stmt := topS 20
theorem sc__law_cell_at : FnScope ["_law_script", "_law_k"] ["_law_script", "_law_k"] (defScope s__law_cell_at) := ⟨rfl, rfl, rfl, by decide +kernel, rfl, by decide +kernel, by decide +kernel⟩
abbrev s__law_currency_by : Stmt := topS 21
theorem sc__law_currency_by : FnScope ["_law_cell", "_law_k", "_law_letters", "_law_first", "_law_signs", "_law_j"] ["_law_cell", "_law_k"] (defScope s__law_currency_by) := ⟨rfl, rfl, rfl, by decide +kernel, rfl, by decide +kernel, by decide +kernel⟩
abbrev s__law_newest : Stmt := topS 22
theorem sc__law_newest : FnScope ["_law_told_here", "_law_one", "_law_other", "_law_day", "_law_best", "_law_row"] ["_law_told_here", "_law_one", "_law_other", "_law_day"] (defScope s__law_newest) := ⟨rfl, rfl, rfl, by decide +kernel, rfl, by decide +kernel, by decide +kernel⟩
abbrev s__law_is_whole : Stmt := topS 24
theorem sc__law_is_whole : FnScope ["_law_thing", "_law_least", "_law_most"] ["_law_thing", "_law_least", "_law_most"] (defScope s__law_is_whole) := ⟨rfl, rfl, rfl, by decide +kernel, rfl, by decide +kernel, by decide +kernel⟩
abbrev s__law_is_currency : Stmt := topS 25
theorem sc__law_is_currency : FnScope ["_law_thing", "_law_sign"] ["_law_thing"] (defScope s__law_is_currency) := ⟨rfl, rfl, rfl, by decide +kernel, rfl, by decide +kernel, by decide +kernel⟩
abbrev s__law_due : Stmt := topS 26
theorem sc__law_due : FnScope ["_law_row", "_law_day", "_law_one", "_law_p", "_law_other", "_law_q"] ["_law_row"] (defScope s__law_due) := ⟨rfl, rfl, rfl, by decide +kernel, rfl, by decide +kernel, by decide +kernel⟩
abbrev s__law_spoilt : Stmt := topS 27
theorem sc__law_spoilt : FnScope ["_law_row", "_law_cell", "_law_more", "_law_day", "_law_one", "_law_p", "_law_other", "_law_q", "_law_far", "_law_wrong", "_law_coin", "_law_count", "_law_some"] ["_law_row", "_law_cell", "_law_more"] (defScope s__law_spoilt) := ⟨rfl, rfl, rfl, by decide +kernel, rfl, by decide +kernel, by decide +kernel⟩
abbrev s__law_word : Stmt := topS 23
theorem sc__law_word : FnScope ["_law_e", "_law_found"] ["_law_e"] (defScope s__law_word) := ⟨rfl, rfl, rfl, by decide +kernel, rfl, by decide +kernel, by decide +kernel⟩
abbrev s__law_told : Stmt := topS 28
theorem sc__law_told : FnScope ["_law_rates", "_law_row", "_law_found", "_law_e"] ["_law_rates", "_law_row"] (defScope s__law_told) := ⟨rfl, rfl, rfl, by decide +kernel, rfl, by decide +kernel, by decide +kernel⟩
abbrev s__law_newest_good : Stmt := topS 29
theorem sc__law_newest_good : FnScope ["_law_rates", "_law_told_here", "_law_one", "_law_other", "_law_day", "_law_due_here", "_law_found", "_law_number"] ["_law_rates", "_law_told_here", "_law_one", "_law_other", "_law_day"] (defScope s__law_newest_good) := ⟨rfl, rfl, rfl, by decide +kernel, rfl, by decide +kernel, by decide +kernel⟩
abbrev s__law_pair_good : Stmt := topS 30
theorem sc__law_pair_good : FnScope ["_law_rates", "_law_told_here", "_law_one", "_law_other", "_law_day", "_law_when"] ["_law_rates", "_law_told_here", "_law_one", "_law_other", "_law_day"] (defScope s__law_pair_good) := ⟨rfl, rfl, rfl, by decide +kernel, rfl, by decide +kernel, by decide +kernel⟩
abbrev s__law_lists : Stmt := topS 31
theorem sc__law_lists : FnScope ["_law_told_here", "_law_last", "_law_names", "_law_day", "_law_one", "_law_p", "_law_other", "_law_q", "_law_key"] ["_law_told_here"] (defScope s__law_lists) := ⟨rfl, rfl, rfl, by decide +kernel, rfl, by decide +kernel, by decide +kernel⟩
abbrev s__law_list : Stmt := topS 32
theorem sc__law_list : FnScope ["_law_rates", "_law_which"] ["_law_rates", "_law_which"] (defScope s__law_list) := ⟨rfl, rfl, rfl, by decide +kernel, rfl, by decide +kernel, by decide +kernel⟩
abbrev s__law_listed : Stmt := topS 33
theorem sc__law_listed : FnScope ["_law_rates", "_law_told_here", "_law_held", "_law_turn", "_law_dues", "_law_which", "_law_found"] ["_law_rates", "_law_told_here", "_law_held", "_law_turn"] (defScope s__law_listed) := ⟨rfl, rfl, rfl, by decide +kernel, rfl, by decide +kernel, by decide +kernel⟩
abbrev s__law_all_good : Stmt := topS 34
theorem sc__law_all_good : FnScope ["_law_rates", "_law_told_here", "_law_coins", "_law_day", "_law_one", "_law_other"] ["_law_rates", "_law_told_here", "_law_coins", "_law_day"] (defScope s__law_all_good) := ⟨rfl, rfl, rfl, by decide +kernel, rfl, by decide +kernel, by decide +kernel⟩
abbrev s__law_end_good : Stmt := topS 35
theorem sc__law_end_good : FnScope ["_law_both", "_law_told_here", "_law_coins", "_law_day", "_law_which"] ["_law_both", "_law_told_here", "_law_coins", "_law_day"] (defScope s__law_end_good) := ⟨rfl, rfl, rfl, by decide +kernel, rfl, by decide +kernel, by decide +kernel⟩
abbrev s_law : Stmt := topS 36
theorem sc_law : FnScope ["_law_script", "_law_coins", "_law_base", "_law_both", "_law_told_here", "_law_held", "_law_kept", "_law_day", "_law_k", "_law_side", "_law_most", "_law_one", "_law_other", "_law_row", "_law_due_here", "_law_turn", "_law_good", "_law_which", "_law_some"] ["_law_script"] (defScope s_law) := ⟨rfl, rfl, rfl, by decide +kernel, rfl, by decide +kernel, by decide +kernel⟩
abbrev nm_Rates : List Str := ["quoted"]
theorem ix_Rates_quoted : idxF nm_Rates "quoted" = some 0 := by decide +kernel
theorem no_Rates_quote : idxF nm_Rates "quote" = none := by decide +kernel
theorem no_Rates_newest : idxF nm_Rates "newest" = none := by decide +kernel
theorem no_Rates_currencies : idxF nm_Rates "currencies" = none := by decide +kernel
theorem no_Rates_quotes : idxF nm_Rates "quotes" = none := by decide +kernel
structure Txt (K : PySem.W.Frag) (mg : Str → Option Value) where
  a_is_whole : Addr
  d_is_whole : FuncData
  F_is_whole : Fun K "is_whole" "is_whole" s_is_whole a_is_whole d_is_whole
  b_is_whole : Binds K d_is_whole ["thing"] []
  m_is_whole : mg "is_whole" = some (.ref a_is_whole)
  a_is_among : Addr
  d_is_among : FuncData
  F_is_among : Fun K "is_among" "is_among" s_is_among a_is_among d_is_among
  b_is_among : Binds K d_is_among ["thing", "least", "most"] []
  m_is_among : mg "is_among" = some (.ref a_is_among)
  a_is_made_of : Addr
  d_is_made_of : FuncData
  F_is_made_of : Fun K "is_made_of" "is_made_of" s_is_made_of a_is_made_of d_is_made_of
  b_is_made_of : Binds K d_is_made_of ["thing", "signs", "most"] []
  m_is_made_of : mg "is_made_of" = some (.ref a_is_made_of)
  a_is_day : Addr
  d_is_day : FuncData
  F_is_day : Fun K "is_day" "is_day" s_is_day a_is_day d_is_day
  b_is_day : Binds K d_is_day ["thing"] []
  m_is_day : mg "is_day" = some (.ref a_is_day)
  a_is_currency : Addr
  d_is_currency : FuncData
  F_is_currency : Fun K "is_currency" "is_currency" s_is_currency a_is_currency d_is_currency
  b_is_currency : Binds K d_is_currency ["thing"] []
  m_is_currency : mg "is_currency" = some (.ref a_is_currency)
  a_Rates___init__ : Addr
  d_Rates___init__ : FuncData
  F_Rates___init__ : Fun K "__init__" "Rates.__init__" s_Rates___init__ a_Rates___init__ d_Rates___init__
  b_Rates___init__ : Binds K d_Rates___init__ ["self"] []
  a_Rates_quote : Addr
  d_Rates_quote : FuncData
  F_Rates_quote : Fun K "quote" "Rates.quote" s_Rates_quote a_Rates_quote d_Rates_quote
  b_Rates_quote : Binds K d_Rates_quote ["self", "day", "one", "p", "other", "q"] []
  a_Rates_newest : Addr
  d_Rates_newest : FuncData
  F_Rates_newest : Fun K "newest" "Rates.newest" s_Rates_newest a_Rates_newest d_Rates_newest
  b_Rates_newest : Binds K d_Rates_newest ["self", "one", "other", "day"] []
  a_Rates_currencies : Addr
  d_Rates_currencies : FuncData
  F_Rates_currencies : Fun K "currencies" "Rates.currencies" s_Rates_currencies a_Rates_currencies d_Rates_currencies
  b_Rates_currencies : Binds K d_Rates_currencies ["self"] []
  a_Rates_quotes : Addr
  d_Rates_quotes : FuncData
  F_Rates_quotes : Fun K "quotes" "Rates.quotes" s_Rates_quotes a_Rates_quotes d_Rates_quotes
  b_Rates_quotes : Binds K d_Rates_quotes ["self"] []
  a__law_cell_at : Addr
  d__law_cell_at : FuncData
  F__law_cell_at : Fun K "_law_cell_at" "_law_cell_at" s__law_cell_at a__law_cell_at d__law_cell_at
  b__law_cell_at : Binds K d__law_cell_at ["_law_script", "_law_k"] []
  m__law_cell_at : mg "_law_cell_at" = some (.ref a__law_cell_at)
  a__law_currency_by : Addr
  d__law_currency_by : FuncData
  F__law_currency_by : Fun K "_law_currency_by" "_law_currency_by" s__law_currency_by a__law_currency_by d__law_currency_by
  b__law_currency_by : Binds K d__law_currency_by ["_law_cell", "_law_k"] []
  m__law_currency_by : mg "_law_currency_by" = some (.ref a__law_currency_by)
  a__law_newest : Addr
  d__law_newest : FuncData
  F__law_newest : Fun K "_law_newest" "_law_newest" s__law_newest a__law_newest d__law_newest
  b__law_newest : Binds K d__law_newest ["_law_told_here", "_law_one", "_law_other", "_law_day"] []
  m__law_newest : mg "_law_newest" = some (.ref a__law_newest)
  a__law_is_whole : Addr
  d__law_is_whole : FuncData
  F__law_is_whole : Fun K "_law_is_whole" "_law_is_whole" s__law_is_whole a__law_is_whole d__law_is_whole
  b__law_is_whole : Binds K d__law_is_whole ["_law_thing", "_law_least", "_law_most"] []
  m__law_is_whole : mg "_law_is_whole" = some (.ref a__law_is_whole)
  a__law_is_currency : Addr
  d__law_is_currency : FuncData
  F__law_is_currency : Fun K "_law_is_currency" "_law_is_currency" s__law_is_currency a__law_is_currency d__law_is_currency
  b__law_is_currency : Binds K d__law_is_currency ["_law_thing"] []
  m__law_is_currency : mg "_law_is_currency" = some (.ref a__law_is_currency)
  a__law_due : Addr
  d__law_due : FuncData
  F__law_due : Fun K "_law_due" "_law_due" s__law_due a__law_due d__law_due
  b__law_due : Binds K d__law_due ["_law_row"] []
  m__law_due : mg "_law_due" = some (.ref a__law_due)
  a__law_spoilt : Addr
  d__law_spoilt : FuncData
  F__law_spoilt : Fun K "_law_spoilt" "_law_spoilt" s__law_spoilt a__law_spoilt d__law_spoilt
  b__law_spoilt : Binds K d__law_spoilt ["_law_row", "_law_cell", "_law_more"] []
  m__law_spoilt : mg "_law_spoilt" = some (.ref a__law_spoilt)
  a__law_word : Addr
  d__law_word : FuncData
  F__law_word : Fun K "_law_word" "_law_word" s__law_word a__law_word d__law_word
  b__law_word : Binds K d__law_word ["_law_e"] []
  m__law_word : mg "_law_word" = some (.ref a__law_word)
  a__law_told : Addr
  d__law_told : FuncData
  F__law_told : Fun K "_law_told" "_law_told" s__law_told a__law_told d__law_told
  b__law_told : Binds K d__law_told ["_law_rates", "_law_row"] []
  m__law_told : mg "_law_told" = some (.ref a__law_told)
  a__law_newest_good : Addr
  d__law_newest_good : FuncData
  F__law_newest_good : Fun K "_law_newest_good" "_law_newest_good" s__law_newest_good a__law_newest_good d__law_newest_good
  b__law_newest_good : Binds K d__law_newest_good ["_law_rates", "_law_told_here", "_law_one", "_law_other", "_law_day"] []
  m__law_newest_good : mg "_law_newest_good" = some (.ref a__law_newest_good)
  a__law_pair_good : Addr
  d__law_pair_good : FuncData
  F__law_pair_good : Fun K "_law_pair_good" "_law_pair_good" s__law_pair_good a__law_pair_good d__law_pair_good
  b__law_pair_good : Binds K d__law_pair_good ["_law_rates", "_law_told_here", "_law_one", "_law_other", "_law_day"] []
  m__law_pair_good : mg "_law_pair_good" = some (.ref a__law_pair_good)
  a__law_lists : Addr
  d__law_lists : FuncData
  F__law_lists : Fun K "_law_lists" "_law_lists" s__law_lists a__law_lists d__law_lists
  b__law_lists : Binds K d__law_lists ["_law_told_here"] []
  m__law_lists : mg "_law_lists" = some (.ref a__law_lists)
  a__law_list : Addr
  d__law_list : FuncData
  F__law_list : Fun K "_law_list" "_law_list" s__law_list a__law_list d__law_list
  b__law_list : Binds K d__law_list ["_law_rates", "_law_which"] []
  m__law_list : mg "_law_list" = some (.ref a__law_list)
  a__law_listed : Addr
  d__law_listed : FuncData
  F__law_listed : Fun K "_law_listed" "_law_listed" s__law_listed a__law_listed d__law_listed
  b__law_listed : Binds K d__law_listed ["_law_rates", "_law_told_here", "_law_held", "_law_turn"] []
  m__law_listed : mg "_law_listed" = some (.ref a__law_listed)
  a__law_all_good : Addr
  d__law_all_good : FuncData
  F__law_all_good : Fun K "_law_all_good" "_law_all_good" s__law_all_good a__law_all_good d__law_all_good
  b__law_all_good : Binds K d__law_all_good ["_law_rates", "_law_told_here", "_law_coins", "_law_day"] []
  m__law_all_good : mg "_law_all_good" = some (.ref a__law_all_good)
  a__law_end_good : Addr
  d__law_end_good : FuncData
  F__law_end_good : Fun K "_law_end_good" "_law_end_good" s__law_end_good a__law_end_good d__law_end_good
  b__law_end_good : Binds K d__law_end_good ["_law_both", "_law_told_here", "_law_coins", "_law_day"] []
  m__law_end_good : mg "_law_end_good" = some (.ref a__law_end_good)
  a_law : Addr
  d_law : FuncData
  F_law : Fun K "law" "law" s_law a_law d_law
  b_law : Binds K d_law ["_law_script"] []
  m_law : mg "law" = some (.ref a_law)
  C_Rates : Addr
  L_Rates : Cls K C_Rates
  G_Rates : mg "Rates" = some (.ref C_Rates)
  A_Rates_quoted : NoAttr K C_Rates "quoted"
  Mk_Rates : Mk K C_Rates a_Rates___init__
  E_Rates_quote : Meth K C_Rates "quote" a_Rates_quote
  E_Rates_newest : Meth K C_Rates "newest" a_Rates_newest
  E_Rates_currencies : Meth K C_Rates "currencies" a_Rates_currencies
  E_Rates_quotes : Meth K C_Rates "quotes" a_Rates_quotes
  e_BadCurrency : Addr
  X_BadCurrency : ExF K mg "BadCurrency" e_BadCurrency
  e_BadDay : Addr
  X_BadDay : ExF K mg "BadDay" e_BadDay
  e_BadRate : Addr
  X_BadRate : ExF K mg "BadRate" e_BadRate
  e_HouseError : Addr
  X_HouseError : ExF K mg "HouseError" e_HouseError
  e_NoRate : Addr
  X_NoRate : ExF K mg "NoRate" e_NoRate
  p_BadCurrency_BadDay : PySem.W.subIn K (.ref e_BadCurrency) (.ref e_BadDay) = some false
  p_BadCurrency_BadRate : PySem.W.subIn K (.ref e_BadCurrency) (.ref e_BadRate) = some false
  p_BadCurrency_HouseError : PySem.W.subIn K (.ref e_BadCurrency) (.ref e_HouseError) = some true
  p_BadCurrency_NoRate : PySem.W.subIn K (.ref e_BadCurrency) (.ref e_NoRate) = some false
  p_BadDay_BadCurrency : PySem.W.subIn K (.ref e_BadDay) (.ref e_BadCurrency) = some false
  p_BadDay_BadRate : PySem.W.subIn K (.ref e_BadDay) (.ref e_BadRate) = some false
  p_BadDay_HouseError : PySem.W.subIn K (.ref e_BadDay) (.ref e_HouseError) = some true
  p_BadDay_NoRate : PySem.W.subIn K (.ref e_BadDay) (.ref e_NoRate) = some false
  p_BadRate_BadCurrency : PySem.W.subIn K (.ref e_BadRate) (.ref e_BadCurrency) = some false
  p_BadRate_BadDay : PySem.W.subIn K (.ref e_BadRate) (.ref e_BadDay) = some false
  p_BadRate_HouseError : PySem.W.subIn K (.ref e_BadRate) (.ref e_HouseError) = some true
  p_BadRate_NoRate : PySem.W.subIn K (.ref e_BadRate) (.ref e_NoRate) = some false
  z_ValueError : mg "ValueError" = none
  z_abs : mg "abs" = none
  z_bool : mg "bool" = none
  z_int : mg "int" = none
  z_isinstance : mg "isinstance" = none
  z_len : mg "len" = none
  z_list : mg "list" = none
  z_max : mg "max" = none
  z_min : mg "min" = none
  z_range : mg "range" = none
  z_sorted : mg "sorted" = none
  z_str : mg "str" = none
  z_tuple : mg "tuple" = none
  c_GREAT : ∃ u, mg "GREAT" = some u ∧ RelV (.str "ABCDEFGHIJKLMNOPQRSTUVWXYZ") u
  c_LAST_DAY : ∃ u, mg "LAST_DAY" = some u ∧ RelV (.int 146096) u
  c_MOST_COINS : ∃ u, mg "MOST_COINS" = some u ∧ RelV (.int 1000000000) u
section
variable {P : Program} {w : World} {K : PySem.W.Frag} {mg : Str → Option Value} {base : Heap}
def TT (t : Txt K mg) : Env1 := ⟨fun n => match n with | 0 => t.e_HouseError | 1 => t.e_BadDay | 2 => t.e_BadCurrency | 3 => t.e_BadRate | 4 => t.e_NoRate | 100 => t.C_Rates | _ => 0, fun n => match n with | 100 => nm_Rates | _ => []⟩
theorem ok_is_whole (t : Txt K mg) : FnOk P w K mg base (L2N.CX P w) 2 t.a_is_whole t.d_is_whole ["thing"] (spF K (TT t) f_is_whole) := by
  refine fn_ok (N := ["thing"]) (g := g_is_whole) (t := false) t.F_is_whole sc_is_whole (fun cdv A outer s H E hr => ?_)
  have tk := L2N.takes_of (X := cxOf (L2N.CX P w) P w K mg base ["thing"] "is_whole" (defScope s_is_whole) t.a_is_whole cdv A outer s H E) (E := E) rfl rfl rfl rfl
  have po := passes_of (X := cxOf (L2N.CX P w) P w K mg base ["thing"] "is_whole" (defScope s_is_whole) t.a_is_whole cdv A outer s H E) rfl
  exact (sl_one (sl_ret (pl_and (pl_bi call_isi cl_isi (by rfl) t.z_isinstance (by decide +kernel) (pl_cons (pl_var 0) (pl_cons (pl_ty (n := "int") (by rfl) t.z_int (by decide +kernel)) pl_nil))) (pl_one (pl_not (pl_bi call_isi cl_isi (by rfl) t.z_isinstance (by decide +kernel) (pl_cons (pl_var 0) (pl_cons (pl_ty (n := "bool") (by rfl) t.z_bool (by decide +kernel)) pl_nil))))))))
theorem ok_is_among (t : Txt K mg) : FnOk P w K mg base (L2N.CX P w) 4 t.a_is_among t.d_is_among ["thing", "least", "most"] (spF K (TT t) f_is_among) := by
  refine fn_ok (N := ["thing", "least", "most"]) (g := g_is_among) (t := false) t.F_is_among sc_is_among (fun cdv A outer s H E hr => ?_)
  have tk := L2N.takes_of (X := cxOf (L2N.CX P w) P w K mg base ["thing", "least", "most"] "is_among" (defScope s_is_among) t.a_is_among cdv A outer s H E) (E := E) rfl rfl rfl rfl
  have po := passes_of (X := cxOf (L2N.CX P w) P w K mg base ["thing", "least", "most"] "is_among" (defScope s_is_among) t.a_is_among cdv A outer s H E) rfl
  exact (sl_one (sl_ret (pl_and (pl_call (ok_is_whole t) tk (hr.mono (by decide)) (by rfl) t.m_is_whole t.F_is_whole.kp t.b_is_whole (pl_cons (pl_var 0) pl_nil)) (pl_one (pl_ch c_le c_le (pl_var 1) (pl_var 0) (pl_var 2))))))
theorem ok_is_made_of (t : Txt K mg) : FnOk P w K mg base (L2N.CX P w) 2 t.a_is_made_of t.d_is_made_of ["thing", "signs", "most"] (spF K (TT t) f_is_made_of) := by
  refine fn_ok (N := ["thing", "signs", "most", "sign"]) (g := g_is_made_of) (t := false) t.F_is_made_of sc_is_made_of (fun cdv A outer s H E hr => ?_)
  have tk := L2N.takes_of (X := cxOf (L2N.CX P w) P w K mg base ["thing", "signs", "most", "sign"] "is_made_of" (defScope s_is_made_of) t.a_is_made_of cdv A outer s H E) (E := E) rfl rfl rfl rfl
  have po := passes_of (X := cxOf (L2N.CX P w) P w K mg base ["thing", "signs", "most", "sign"] "is_made_of" (defScope s_is_made_of) t.a_is_made_of cdv A outer s H E) rfl
  exact (sl_cons (sl_if (tt_w (tw_or (tt_not (tt_val (pl_bi call_isi cl_isi (by rfl) t.z_isinstance (by decide +kernel) (pl_cons (pl_var 0) (pl_cons (pl_ty (n := "str") (by rfl) t.z_str (by decide +kernel)) pl_nil))))) (tw_or1 (tt_cp c_gt (pl_bi cr_lenU cl_len (by rfl) t.z_len (by decide +kernel) (pl_cons (pl_var 0) pl_nil)) (pl_var 2)))))
  (sl_one (sl_ret pl_bl))
  sl_nil)
  (sl_cons (sl_for po rfl (il_val (pl_var 0)) (gl_name 3 sc_is_made_of.nd)
  (sl_one (sl_if (tt_cp (c_nin hr.units) (pl_var 3) (pl_var 1))
  (sl_one (sl_ret pl_bl))
  sl_nil)))
  (sl_one (sl_ret pl_bl))))
theorem ok_is_day (t : Txt K mg) : FnOk P w K mg base (L2N.CX P w) 6 t.a_is_day t.d_is_day ["thing"] (spF K (TT t) f_is_day) := by
  refine fn_ok (N := ["thing"]) (g := g_is_day) (t := false) t.F_is_day sc_is_day (fun cdv A outer s H E hr => ?_)
  have tk := L2N.takes_of (X := cxOf (L2N.CX P w) P w K mg base ["thing"] "is_day" (defScope s_is_day) t.a_is_day cdv A outer s H E) (E := E) rfl rfl rfl rfl
  have po := passes_of (X := cxOf (L2N.CX P w) P w K mg base ["thing"] "is_day" (defScope s_is_day) t.a_is_day cdv A outer s H E) rfl
  exact (sl_one (sl_ret (pl_call (ok_is_among t) tk (hr.mono (by decide)) (by rfl) t.m_is_among t.F_is_among.kp t.b_is_among (pl_cons (pl_var 0) (pl_cons pl_int (pl_cons (pl_glob (v := .int 146096) (y := .int 146096) (by rfl) t.c_LAST_DAY.choose_spec.1 t.c_LAST_DAY.choose_spec.2 (fun _ _ => rfl)) pl_nil))))))
theorem ok_is_currency (t : Txt K mg) : FnOk P w K mg base (L2N.CX P w) 4 t.a_is_currency t.d_is_currency ["thing"] (spF K (TT t) f_is_currency) := by
  refine fn_ok (N := ["thing"]) (g := g_is_currency) (t := false) t.F_is_currency sc_is_currency (fun cdv A outer s H E hr => ?_)
  have tk := L2N.takes_of (X := cxOf (L2N.CX P w) P w K mg base ["thing"] "is_currency" (defScope s_is_currency) t.a_is_currency cdv A outer s H E) (E := E) rfl rfl rfl rfl
  have po := passes_of (X := cxOf (L2N.CX P w) P w K mg base ["thing"] "is_currency" (defScope s_is_currency) t.a_is_currency cdv A outer s H E) rfl
  exact (sl_one (sl_ret (pl_and (pl_call (ok_is_made_of t) tk (hr.mono (by decide)) (by rfl) t.m_is_made_of t.F_is_made_of.kp t.b_is_made_of (pl_cons (pl_var 0) (pl_cons (pl_glob (v := .str "ABCDEFGHIJKLMNOPQRSTUVWXYZ") (y := .str "ABCDEFGHIJKLMNOPQRSTUVWXYZ") (by rfl) t.c_GREAT.choose_spec.1 t.c_GREAT.choose_spec.2 (fun _ _ => rfl)) (pl_cons pl_int pl_nil)))) (pl_one (pl_cp (c_eq hr.units) (pl_bi cr_lenU cl_len (by rfl) t.z_len (by decide +kernel) (pl_cons (pl_var 0) pl_nil)) pl_int)))))
theorem ok_Rates___init__ (t : Txt K mg) : FnOk P w K mg base (L2N.CX P w) 2 t.a_Rates___init__ t.d_Rates___init__ ["self"] (spF K (TT t) f_Rates___init__) := by
  refine fn_ok (N := ["self"]) (g := g_Rates___init__) (t := false) t.F_Rates___init__ sc_Rates___init__ (fun cdv A outer s H E hr => ?_)
  have tk := L2N.takes_of (X := cxOf (L2N.CX P w) P w K mg base ["self"] "Rates.__init__" (defScope s_Rates___init__) t.a_Rates___init__ cdv A outer s H E) (E := E) rfl rfl rfl rfl
  have po := passes_of (X := cxOf (L2N.CX P w) P w K mg base ["self"] "Rates.__init__" (defScope s_Rates___init__) t.a_Rates___init__ cdv A outer s H E) rfl
  exact (sl_one (sl_fld (c := 100) (i := 0) (nm := nm_Rates) rfl rfl ix_Rates_quoted t.L_Rates t.A_Rates_quoted pl_dnewT (pl_var 0)))
theorem ok_Rates_quote (t : Txt K mg) : FnOk P w K mg base (L2N.CX P w) 8 t.a_Rates_quote t.d_Rates_quote ["self", "day", "one", "p", "other", "q"] (spF K (TT t) f_Rates_quote) := by
  refine fn_ok (N := ["self", "day", "one", "p", "other", "q", "days"]) (g := g_Rates_quote) (t := false) t.F_Rates_quote sc_Rates_quote (fun cdv A outer s H E hr => ?_)
  have tk := L2N.takes_of (X := cxOf (L2N.CX P w) P w K mg base ["self", "day", "one", "p", "other", "q", "days"] "Rates.quote" (defScope s_Rates_quote) t.a_Rates_quote cdv A outer s H E) (E := E) rfl rfl rfl rfl
  have po := passes_of (X := cxOf (L2N.CX P w) P w K mg base ["self", "day", "one", "p", "other", "q", "days"] "Rates.quote" (defScope s_Rates_quote) t.a_Rates_quote cdv A outer s H E) rfl
  exact (sl_cons (sl_if (tt_not (tt_val (pl_call (ok_is_day t) tk (hr.mono (by decide)) (by rfl) t.m_is_day t.F_is_day.kp t.b_is_day (pl_cons (pl_var 1) pl_nil))))
  (sl_one (sl_raise rfl tk t.X_BadDay rfl (by rfl)))
  sl_nil)
  (sl_cons (sl_if (tt_w (tw_or (tt_not (tt_val (pl_call (ok_is_currency t) tk (hr.mono (by decide)) (by rfl) t.m_is_currency t.F_is_currency.kp t.b_is_currency (pl_cons (pl_var 2) pl_nil)))) (tw_or (tt_not (tt_val (pl_call (ok_is_currency t) tk (hr.mono (by decide)) (by rfl) t.m_is_currency t.F_is_currency.kp t.b_is_currency (pl_cons (pl_var 4) pl_nil)))) (tw_or1 (tt_cp (c_eq hr.units) (pl_var 2) (pl_var 4))))))
  (sl_one (sl_raise rfl tk t.X_BadCurrency rfl (by rfl)))
  sl_nil)
  (sl_cons (sl_if (tt_w (tw_or (tt_not (tt_val (pl_call (ok_is_among t) tk (hr.mono (by decide)) (by rfl) t.m_is_among t.F_is_among.kp t.b_is_among (pl_cons (pl_var 3) (pl_cons pl_int (pl_cons (pl_glob (v := .int 1000000000) (y := .int 1000000000) (by rfl) t.c_MOST_COINS.choose_spec.1 t.c_MOST_COINS.choose_spec.2 (fun _ _ => rfl)) pl_nil)))))) (tw_or1 (tt_not (tt_val (pl_call (ok_is_among t) tk (hr.mono (by decide)) (by rfl) t.m_is_among t.F_is_among.kp t.b_is_among (pl_cons (pl_var 5) (pl_cons pl_int (pl_cons (pl_glob (v := .int 1000000000) (y := .int 1000000000) (by rfl) t.c_MOST_COINS.choose_spec.1 t.c_MOST_COINS.choose_spec.2 (fun _ _ => rfl)) pl_nil)))))))))
  (sl_one (sl_raise rfl tk t.X_BadRate rfl (by rfl)))
  sl_nil)
  (sl_cons (sl_set 6 sc_Rates_quote.nd (pl_setd hr (pl_fld (c := 100) (i := 0) (nm := nm_Rates) rfl rfl ix_Rates_quoted t.L_Rates t.A_Rates_quoted (pl_var 0)) (pl_tup (pl_cons (pl_bi (cr_minU rfl) cl_minU (by rfl) t.z_min (by decide +kernel) (pl_cons (pl_var 2) (pl_cons (pl_var 4) pl_nil))) (pl_cons (pl_bi (cr_maxU rfl) cl_maxU (by rfl) t.z_max (by decide +kernel) (pl_cons (pl_var 2) (pl_cons (pl_var 4) pl_nil))) pl_nil))) pl_dnew))
  (sl_one (sl_sub hr (pl_ite (tt_cp c_lt (pl_var 2) (pl_var 4)) (pl_tup (pl_cons (pl_var 3) (pl_cons (pl_var 5) pl_nil))) (pl_tup (pl_cons (pl_var 5) (pl_cons (pl_var 3) pl_nil)))) (pl_var 6) (pl_var 1)))))))
theorem ok_Rates_newest (t : Txt K mg) : FnOk P w K mg base (L2N.CX P w) 2 t.a_Rates_newest t.d_Rates_newest ["self", "one", "other", "day"] (spF K (TT t) f_Rates_newest) := by
  refine fn_ok (N := ["self", "one", "other", "day", "days", "latest", "p", "q", "at"]) (g := g_Rates_newest) (t := false) t.F_Rates_newest sc_Rates_newest (fun cdv A outer s H E hr => ?_)
  have tk := L2N.takes_of (X := cxOf (L2N.CX P w) P w K mg base ["self", "one", "other", "day", "days", "latest", "p", "q", "at"] "Rates.newest" (defScope s_Rates_newest) t.a_Rates_newest cdv A outer s H E) (E := E) rfl rfl rfl rfl
  have po := passes_of (X := cxOf (L2N.CX P w) P w K mg base ["self", "one", "other", "day", "days", "latest", "p", "q", "at"] "Rates.newest" (defScope s_Rates_newest) t.a_Rates_newest cdv A outer s H E) rfl
  exact (sl_cons (sl_set 4 sc_Rates_newest.nd (pl_get2 hr (pl_fld (c := 100) (i := 0) (nm := nm_Rates) rfl rfl ix_Rates_quoted t.L_Rates t.A_Rates_quoted (pl_var 0)) (pl_tup (pl_cons (pl_bi (cr_minU rfl) cl_minU (by rfl) t.z_min (by decide +kernel) (pl_cons (pl_var 1) (pl_cons (pl_var 2) pl_nil))) (pl_cons (pl_bi (cr_maxU rfl) cl_maxU (by rfl) t.z_max (by decide +kernel) (pl_cons (pl_var 1) (pl_cons (pl_var 2) pl_nil))) pl_nil))) pl_dnew))
  (sl_cons (sl_set 5 sc_Rates_newest.nd (pl_maxD hr.units rfl (by rfl) t.z_max (pl_lock (fd := (lVar 4)) (pl_lc (own := [("at", 8)]) rfl sc_Rates_newest.nd (il_dict (pl_var 4)) (blkOk_by (N := ["self", "one", "other", "day", "days", "latest", "p", "q", "at"]) (sc := (defScope s_Rates_newest)) (by decide +kernel)) (fun _ _ _ _ _ => (gc_name 8 sc_Rates_newest.nd (by decide))) (fun _ _ _ _ _ => (pt_one (tt_cp c_le (pl_var 8) (pl_var 3)))) (fun _ _ _ _ _ => (pl_var 8)))) pl_non))
  (sl_cons (sl_if (tt_cp c_is (pl_var 5) pl_non)
  (sl_one (sl_ret pl_non))
  sl_nil)
  (sl_cons (sl_asg (pl_ix hr.units (pl_var 4) (pl_var 5)) (gl_tup 2 rfl (gsl_cons (gl_name 6 sc_Rates_newest.nd) (gsl_cons (gl_name 7 sc_Rates_newest.nd) gsl_nil)) (gs_len1 (gs_len1 gs_len0))))
  (sl_cons (sl_if (tt_cp c_lt (pl_var 1) (pl_var 2))
  (sl_one (sl_ret (pl_tup (pl_cons (pl_var 6) (pl_cons (pl_var 7) pl_nil)))))
  sl_nil)
  (sl_one (sl_ret (pl_tup (pl_cons (pl_var 7) (pl_cons (pl_var 6) pl_nil))))))))))
theorem ok_Rates_currencies (t : Txt K mg) : FnOk P w K mg base (L2N.CX P w) 2 t.a_Rates_currencies t.d_Rates_currencies ["self"] (spF K (TT t) f_Rates_currencies) := by
  refine fn_ok (N := ["self", "found", "one", "other"]) (g := g_Rates_currencies) (t := false) t.F_Rates_currencies sc_Rates_currencies (fun cdv A outer s H E hr => ?_)
  have tk := L2N.takes_of (X := cxOf (L2N.CX P w) P w K mg base ["self", "found", "one", "other"] "Rates.currencies" (defScope s_Rates_currencies) t.a_Rates_currencies cdv A outer s H E) (E := E) rfl rfl rfl rfl
  have po := passes_of (X := cxOf (L2N.CX P w) P w K mg base ["self", "found", "one", "other"] "Rates.currencies" (defScope s_Rates_currencies) t.a_Rates_currencies cdv A outer s H E) rfl
  exact (sl_cons (sl_set 1 sc_Rates_currencies.nd pl_dnew)
  (sl_cons (sl_lock (fd := (lUn (fldL 100 0) (lVar 0))) (sl_for po rfl (il_dict (pl_fld (c := 100) (i := 0) (nm := nm_Rates) rfl rfl ix_Rates_quoted t.L_Rates t.A_Rates_quoted (pl_var 0))) (gl_tup 2 rfl (gsl_cons (gl_name 2 sc_Rates_currencies.nd) (gsl_cons (gl_name 3 sc_Rates_currencies.nd) gsl_nil)) (gs_len1 (gs_len1 gs_len0)))
  (sl_cons (sl_sub hr pl_bl (pl_var 1) (pl_var 2))
  (sl_one (sl_sub hr pl_bl (pl_var 1) (pl_var 3))))))
  (sl_one (sl_ret (pl_bi (cr_sortedDk rfl) cl_sortedD (by rfl) t.z_sorted (by decide +kernel) (pl_cons (pl_var 1) pl_nil))))))
theorem ok_Rates_currencies_T (t : Txt K mg) : FnOk P w K mg base (L2N.CX P w) 2 t.a_Rates_currencies t.d_Rates_currencies ["self"] (spF K (TT t) f_Rates_currencies_T) := by
  refine fn_ok (N := ["self", "found", "one", "other"]) (g := g_Rates_currencies_T) (t := true) t.F_Rates_currencies sc_Rates_currencies (fun cdv A outer s H E hr => ?_)
  have tk := L2N.takes_of (X := cxOf (L2N.CX P w) P w K mg base ["self", "found", "one", "other"] "Rates.currencies" (defScope s_Rates_currencies) t.a_Rates_currencies cdv A outer s H E) (E := E) rfl rfl rfl rfl
  have po := passes_of (X := cxOf (L2N.CX P w) P w K mg base ["self", "found", "one", "other"] "Rates.currencies" (defScope s_Rates_currencies) t.a_Rates_currencies cdv A outer s H E) rfl
  exact (sl_cons (sl_set 1 sc_Rates_currencies.nd pl_dnew)
  (sl_cons (sl_lock (fd := (lUn (fldL 100 0) (lVar 0))) (sl_for po rfl (il_dict (pl_fld (c := 100) (i := 0) (nm := nm_Rates) rfl rfl ix_Rates_quoted t.L_Rates t.A_Rates_quoted (pl_var 0))) (gl_tup 2 rfl (gsl_cons (gl_name 2 sc_Rates_currencies.nd) (gsl_cons (gl_name 3 sc_Rates_currencies.nd) gsl_nil)) (gs_len1 (gs_len1 gs_len0)))
  (sl_cons (sl_sub hr pl_bl (pl_var 1) (pl_var 2))
  (sl_one (sl_sub hr pl_bl (pl_var 1) (pl_var 3))))))
  (sl_one (sl_ret (pl_bi (cr_sortedDk rfl) cl_sortedD (by rfl) t.z_sorted (by decide +kernel) (pl_cons (pl_var 1) pl_nil))))))
theorem ok_Rates_quotes (t : Txt K mg) : FnOk P w K mg base (L2N.CX P w) 2 t.a_Rates_quotes t.d_Rates_quotes ["self"] (spF K (TT t) f_Rates_quotes) := by
  refine fn_ok (N := ["self", "found", "one", "other", "day", "coins"]) (g := g_Rates_quotes) (t := false) t.F_Rates_quotes sc_Rates_quotes (fun cdv A outer s H E hr => ?_)
  have tk := L2N.takes_of (X := cxOf (L2N.CX P w) P w K mg base ["self", "found", "one", "other", "day", "coins"] "Rates.quotes" (defScope s_Rates_quotes) t.a_Rates_quotes cdv A outer s H E) (E := E) rfl rfl rfl rfl
  have po := passes_of (X := cxOf (L2N.CX P w) P w K mg base ["self", "found", "one", "other", "day", "coins"] "Rates.quotes" (defScope s_Rates_quotes) t.a_Rates_quotes cdv A outer s H E) rfl
  exact (sl_cons (sl_set 1 sc_Rates_quotes.nd (pl_lsT pl_nil))
  (sl_cons (sl_lock (fd := (lUn (fldL 100 0) (lVar 0))) (sl_for po rfl (il_dict (pl_fld (c := 100) (i := 0) (nm := nm_Rates) rfl rfl ix_Rates_quoted t.L_Rates t.A_Rates_quoted (pl_var 0))) (gl_tup 2 rfl (gsl_cons (gl_name 2 sc_Rates_quotes.nd) (gsl_cons (gl_name 3 sc_Rates_quotes.nd) gsl_nil)) (gs_len1 (gs_len1 gs_len0)))
  (sl_one (sl_lock (fd := (lOp ixL (lUn (fldL 100 0) (lVar 0)) (lTup (lCons (lVar 2) (lCons (lVar 3) lNil))))) (sl_for po rfl (il_items (pl_ix hr.units (pl_fld (c := 100) (i := 0) (nm := nm_Rates) rfl rfl ix_Rates_quoted t.L_Rates t.A_Rates_quoted (pl_var 0)) (pl_tup (pl_cons (pl_var 2) (pl_cons (pl_var 3) pl_nil))))) (gl_tup 2 rfl (gsl_cons (gl_name 4 sc_Rates_quotes.nd) (gsl_cons (gl_name 5 sc_Rates_quotes.nd) gsl_nil)) (gs_len1 (gs_len1 gs_len0)))
  (sl_one (sl_expr (pl_bm PySem.F.plainAttrs_list PySem.F.slot_list_append PySem.F.type_list_append mt_append ml_append (pl_var 1) (pl_cons (pl_tup (pl_cons (pl_var 4) (pl_cons (pl_var 2) (pl_cons (pl_ix hr.units (pl_var 5) pl_int) (pl_cons (pl_var 3) (pl_cons (pl_ix hr.units (pl_var 5) pl_int) pl_nil)))))) pl_nil)))))))))
  (sl_one (sl_ret (pl_bi (cr_sortedD hr.units) cl_sorted (by rfl) t.z_sorted (by decide +kernel) (pl_cons (pl_var 1) pl_nil))))))
theorem ok_Rates_quotes_T (t : Txt K mg) : FnOk P w K mg base (L2N.CX P w) 2 t.a_Rates_quotes t.d_Rates_quotes ["self"] (spF K (TT t) f_Rates_quotes_T) := by
  refine fn_ok (N := ["self", "found", "one", "other", "day", "coins"]) (g := g_Rates_quotes_T) (t := true) t.F_Rates_quotes sc_Rates_quotes (fun cdv A outer s H E hr => ?_)
  have tk := L2N.takes_of (X := cxOf (L2N.CX P w) P w K mg base ["self", "found", "one", "other", "day", "coins"] "Rates.quotes" (defScope s_Rates_quotes) t.a_Rates_quotes cdv A outer s H E) (E := E) rfl rfl rfl rfl
  have po := passes_of (X := cxOf (L2N.CX P w) P w K mg base ["self", "found", "one", "other", "day", "coins"] "Rates.quotes" (defScope s_Rates_quotes) t.a_Rates_quotes cdv A outer s H E) rfl
  exact (sl_cons (sl_set 1 sc_Rates_quotes.nd (pl_lsT pl_nil))
  (sl_cons (sl_lock (fd := (lUn (fldL 100 0) (lVar 0))) (sl_for po rfl (il_dict (pl_fld (c := 100) (i := 0) (nm := nm_Rates) rfl rfl ix_Rates_quoted t.L_Rates t.A_Rates_quoted (pl_var 0))) (gl_tup 2 rfl (gsl_cons (gl_name 2 sc_Rates_quotes.nd) (gsl_cons (gl_name 3 sc_Rates_quotes.nd) gsl_nil)) (gs_len1 (gs_len1 gs_len0)))
  (sl_one (sl_lock (fd := (lOp ixL (lUn (fldL 100 0) (lVar 0)) (lTup (lCons (lVar 2) (lCons (lVar 3) lNil))))) (sl_for po rfl (il_items (pl_ix hr.units (pl_fld (c := 100) (i := 0) (nm := nm_Rates) rfl rfl ix_Rates_quoted t.L_Rates t.A_Rates_quoted (pl_var 0)) (pl_tup (pl_cons (pl_var 2) (pl_cons (pl_var 3) pl_nil))))) (gl_tup 2 rfl (gsl_cons (gl_name 4 sc_Rates_quotes.nd) (gsl_cons (gl_name 5 sc_Rates_quotes.nd) gsl_nil)) (gs_len1 (gs_len1 gs_len0)))
  (sl_one (sl_expr (pl_bm PySem.F.plainAttrs_list PySem.F.slot_list_append PySem.F.type_list_append mt_append ml_append (pl_var 1) (pl_cons (pl_tup (pl_cons (pl_var 4) (pl_cons (pl_var 2) (pl_cons (pl_ix hr.units (pl_var 5) pl_int) (pl_cons (pl_var 3) (pl_cons (pl_ix hr.units (pl_var 5) pl_int) pl_nil)))))) pl_nil)))))))))
  (sl_one (sl_ret (pl_bi (cr_sortedD hr.units) cl_sorted (by rfl) t.z_sorted (by decide +kernel) (pl_cons (pl_var 1) pl_nil))))))
theorem ok__law_cell_at (t : Txt K mg) : FnOk P w K mg base (L2N.CX P w) 2 t.a__law_cell_at t.d__law_cell_at ["_law_script", "_law_k"] (spF K (TT t) f__law_cell_at) := by
  refine fn_ok (N := ["_law_script", "_law_k"]) (g := g__law_cell_at) (t := false) t.F__law_cell_at sc__law_cell_at (fun cdv A outer s H E hr => ?_)
  have tk := L2N.takes_of (X := cxOf (L2N.CX P w) P w K mg base ["_law_script", "_law_k"] "_law_cell_at" (defScope s__law_cell_at) t.a__law_cell_at cdv A outer s H E) (E := E) rfl rfl rfl rfl
  have po := passes_of (X := cxOf (L2N.CX P w) P w K mg base ["_law_script", "_law_k"] "_law_cell_at" (defScope s__law_cell_at) t.a__law_cell_at cdv A outer s H E) rfl
  exact (sl_cons (sl_if (tt_cp c_lt (pl_var 1) (pl_bi cr_lenU cl_len (by rfl) t.z_len (by decide +kernel) (pl_cons (pl_var 0) pl_nil)))
  (sl_one (sl_ret (pl_ix hr.units (pl_var 0) (pl_var 1))))
  sl_nil)
  (sl_one (sl_ret pl_int)))
theorem ok__law_currency_by (t : Txt K mg) : FnOk P w K mg base (L2N.CX P w) 2 t.a__law_currency_by t.d__law_currency_by ["_law_cell", "_law_k"] (spF K (TT t) f__law_currency_by) := by
  refine fn_ok (N := ["_law_cell", "_law_k", "_law_letters", "_law_first", "_law_signs", "_law_j"]) (g := g__law_currency_by) (t := false) t.F__law_currency_by sc__law_currency_by (fun cdv A outer s H E hr => ?_)
  have tk := L2N.takes_of (X := cxOf (L2N.CX P w) P w K mg base ["_law_cell", "_law_k", "_law_letters", "_law_first", "_law_signs", "_law_j"] "_law_currency_by" (defScope s__law_currency_by) t.a__law_currency_by cdv A outer s H E) (E := E) rfl rfl rfl rfl
  have po := passes_of (X := cxOf (L2N.CX P w) P w K mg base ["_law_cell", "_law_k", "_law_letters", "_law_first", "_law_signs", "_law_j"] "_law_currency_by" (defScope s__law_currency_by) t.a__law_currency_by cdv A outer s H E) rfl
  exact (sl_cons (sl_set 2 sc__law_currency_by.nd pl_str)
  (sl_cons (sl_set 3 sc__law_currency_by.nd (pl_mod (pl_fdiv (pl_var 0) pl_int) pl_int))
  (sl_cons (sl_setLc 4 (own := [("_law_j", 5)]) rfl sc__law_currency_by.nd rfl rfl (sw_true rfl rfl rfl (by decide +kernel)) (il_rng1 (by rfl) t.z_range (pl_cons pl_int pl_nil)) (blkOk_by (N := ["_law_cell", "_law_k", "_law_letters", "_law_first", "_law_signs", "_law_j"]) (sc := (defScope s__law_currency_by)) (by decide +kernel)) (fun _ _ _ _ _ => (gc_name 5 sc__law_currency_by.nd (by decide))) (fun _ _ _ _ _ => pt_yes) (fun _ _ _ _ _ => (pl_ix hr.units (pl_var 2) (pl_mod (pl_add (pl_var 3) (pl_mul pl_int (pl_var 5))) pl_int))))
  (sl_cons (sl_sub hr (pl_ix hr.units (pl_var 2) (pl_mod (pl_add (pl_add (pl_add (pl_var 3) (pl_mul pl_int (pl_mod (pl_var 0) pl_int))) pl_int) (pl_var 1)) pl_int)) (pl_var 4) (pl_mod (pl_var 0) pl_int))
  (sl_one (sl_ret (pl_bm PySem.F.plainAttrs_str PySem.F.slot_str_join PySem.F.type_str_join mt_join ml_join pl_str (pl_cons (pl_var 4) pl_nil))))))))
theorem ok__law_newest (t : Txt K mg) : FnOk P w K mg base (L2N.CX P w) 2 t.a__law_newest t.d__law_newest ["_law_told_here", "_law_one", "_law_other", "_law_day"] (spF K (TT t) f__law_newest) := by
  refine fn_ok (N := ["_law_told_here", "_law_one", "_law_other", "_law_day", "_law_best", "_law_row"]) (g := g__law_newest) (t := false) t.F__law_newest sc__law_newest (fun cdv A outer s H E hr => ?_)
  have tk := L2N.takes_of (X := cxOf (L2N.CX P w) P w K mg base ["_law_told_here", "_law_one", "_law_other", "_law_day", "_law_best", "_law_row"] "_law_newest" (defScope s__law_newest) t.a__law_newest cdv A outer s H E) (E := E) rfl rfl rfl rfl
  have po := passes_of (X := cxOf (L2N.CX P w) P w K mg base ["_law_told_here", "_law_one", "_law_other", "_law_day", "_law_best", "_law_row"] "_law_newest" (defScope s__law_newest) t.a__law_newest cdv A outer s H E) rfl
  exact (sl_cons (sl_set 4 sc__law_newest.nd pl_non)
  (sl_cons (sl_for po rfl (il_val (pl_var 0)) (gl_name 5 sc__law_newest.nd)
  (sl_one (sl_if (tt_w (tw_and (tt_cp c_le (pl_ix hr.units (pl_var 5) pl_int) (pl_var 3)) (tw_and1 (tt_w (tw_or (tt_cp c_is (pl_var 4) pl_non) (tw_or1 (tt_cp c_ge (pl_ix hr.units (pl_var 5) pl_int) (pl_ix hr.units (pl_var 4) pl_int))))))))
  (sl_one (sl_if (tt_w (tw_and (tt_cp (c_eq hr.units) (pl_ix hr.units (pl_var 5) pl_int) (pl_var 1)) (tw_and1 (tt_cp (c_eq hr.units) (pl_ix hr.units (pl_var 5) pl_int) (pl_var 2)))))
  (sl_one (sl_set 4 sc__law_newest.nd (pl_tup (pl_cons (pl_ix hr.units (pl_var 5) pl_int) (pl_cons (pl_ix hr.units (pl_var 5) pl_int) (pl_cons (pl_ix hr.units (pl_var 5) pl_int) pl_nil))))))
  (sl_one (sl_if (tt_w (tw_and (tt_cp (c_eq hr.units) (pl_ix hr.units (pl_var 5) pl_int) (pl_var 2)) (tw_and1 (tt_cp (c_eq hr.units) (pl_ix hr.units (pl_var 5) pl_int) (pl_var 1)))))
  (sl_one (sl_set 4 sc__law_newest.nd (pl_tup (pl_cons (pl_ix hr.units (pl_var 5) pl_int) (pl_cons (pl_ix hr.units (pl_var 5) pl_int) (pl_cons (pl_ix hr.units (pl_var 5) pl_int) pl_nil))))))
  sl_nil))))
  sl_nil)))
  (sl_one (sl_ret (pl_ite (tt_cp c_is (pl_var 4) pl_non) pl_non (pl_sl (pl_var 4) (pl_po pl_int) pl_ponone))))))
theorem ok__law_is_whole (t : Txt K mg) : FnOk P w K mg base (L2N.CX P w) 2 t.a__law_is_whole t.d__law_is_whole ["_law_thing", "_law_least", "_law_most"] (spF K (TT t) f__law_is_whole) := by
  refine fn_ok (N := ["_law_thing", "_law_least", "_law_most"]) (g := g__law_is_whole) (t := false) t.F__law_is_whole sc__law_is_whole (fun cdv A outer s H E hr => ?_)
  have tk := L2N.takes_of (X := cxOf (L2N.CX P w) P w K mg base ["_law_thing", "_law_least", "_law_most"] "_law_is_whole" (defScope s__law_is_whole) t.a__law_is_whole cdv A outer s H E) (E := E) rfl rfl rfl rfl
  have po := passes_of (X := cxOf (L2N.CX P w) P w K mg base ["_law_thing", "_law_least", "_law_most"] "_law_is_whole" (defScope s__law_is_whole) t.a__law_is_whole cdv A outer s H E) rfl
  exact (sl_one (sl_ret (pl_and (pl_bi call_isi cl_isi (by rfl) t.z_isinstance (by decide +kernel) (pl_cons (pl_var 0) (pl_cons (pl_ty (n := "int") (by rfl) t.z_int (by decide +kernel)) pl_nil))) (pl_and (pl_not (pl_bi call_isi cl_isi (by rfl) t.z_isinstance (by decide +kernel) (pl_cons (pl_var 0) (pl_cons (pl_ty (n := "bool") (by rfl) t.z_bool (by decide +kernel)) pl_nil)))) (pl_one (pl_ch c_le c_le (pl_var 1) (pl_var 0) (pl_var 2)))))))
theorem ok__law_is_currency (t : Txt K mg) : FnOk P w K mg base (L2N.CX P w) 2 t.a__law_is_currency t.d__law_is_currency ["_law_thing"] (spF K (TT t) f__law_is_currency) := by
  refine fn_ok (N := ["_law_thing", "_law_sign"]) (g := g__law_is_currency) (t := false) t.F__law_is_currency sc__law_is_currency (fun cdv A outer s H E hr => ?_)
  have tk := L2N.takes_of (X := cxOf (L2N.CX P w) P w K mg base ["_law_thing", "_law_sign"] "_law_is_currency" (defScope s__law_is_currency) t.a__law_is_currency cdv A outer s H E) (E := E) rfl rfl rfl rfl
  have po := passes_of (X := cxOf (L2N.CX P w) P w K mg base ["_law_thing", "_law_sign"] "_law_is_currency" (defScope s__law_is_currency) t.a__law_is_currency cdv A outer s H E) rfl
  exact (sl_cons (sl_if (tt_w (tw_or (tt_not (tt_val (pl_bi call_isi cl_isi (by rfl) t.z_isinstance (by decide +kernel) (pl_cons (pl_var 0) (pl_cons (pl_ty (n := "str") (by rfl) t.z_str (by decide +kernel)) pl_nil))))) (tw_or1 (tt_cp (c_ne hr.units) (pl_bi cr_lenU cl_len (by rfl) t.z_len (by decide +kernel) (pl_cons (pl_var 0) pl_nil)) pl_int))))
  (sl_one (sl_ret pl_bl))
  sl_nil)
  (sl_one (sl_ret (pl_cp (c_eq hr.units) (pl_lc (own := [("_law_sign", 1)]) rfl sc__law_is_currency.nd (il_val (pl_var 0)) (blkOk_by (N := ["_law_thing", "_law_sign"]) (sc := (defScope s__law_is_currency)) (by decide +kernel)) (fun _ _ _ _ _ => (gc_name 1 sc__law_is_currency.nd (by decide))) (fun _ _ _ _ _ => (pt_one (tt_cp (c_nin hr.units) (pl_var 1) pl_str))) (fun _ _ _ _ _ => (pl_var 1))) (pl_lst pl_nil)))))
theorem ok__law_due (t : Txt K mg) : FnOk P w K mg base (L2N.CX P w) 4 t.a__law_due t.d__law_due ["_law_row"] (spF K (TT t) f__law_due) := by
  refine fn_ok (N := ["_law_row", "_law_day", "_law_one", "_law_p", "_law_other", "_law_q"]) (g := g__law_due) (t := false) t.F__law_due sc__law_due (fun cdv A outer s H E hr => ?_)
  have tk := L2N.takes_of (X := cxOf (L2N.CX P w) P w K mg base ["_law_row", "_law_day", "_law_one", "_law_p", "_law_other", "_law_q"] "_law_due" (defScope s__law_due) t.a__law_due cdv A outer s H E) (E := E) rfl rfl rfl rfl
  have po := passes_of (X := cxOf (L2N.CX P w) P w K mg base ["_law_row", "_law_day", "_law_one", "_law_p", "_law_other", "_law_q"] "_law_due" (defScope s__law_due) t.a__law_due cdv A outer s H E) rfl
  exact (sl_cons (sl_asg (pl_var 0) (gl_tup 5 rfl (gsl_cons (gl_name 1 sc__law_due.nd) (gsl_cons (gl_name 2 sc__law_due.nd) (gsl_cons (gl_name 3 sc__law_due.nd) (gsl_cons (gl_name 4 sc__law_due.nd) (gsl_cons (gl_name 5 sc__law_due.nd) gsl_nil))))) (gs_len1 (gs_len1 (gs_len1 (gs_len1 (gs_len1 gs_len0)))))))
  (sl_cons (sl_if (tt_not (tt_val (pl_call (ok__law_is_whole t) tk (hr.mono (by decide)) (by rfl) t.m__law_is_whole t.F__law_is_whole.kp t.b__law_is_whole (pl_cons (pl_var 1) (pl_cons pl_int (pl_cons pl_int pl_nil))))))
  (sl_one (sl_ret pl_str))
  sl_nil)
  (sl_cons (sl_if (tt_w (tw_or (tt_not (tt_val (pl_call (ok__law_is_currency t) tk (hr.mono (by decide)) (by rfl) t.m__law_is_currency t.F__law_is_currency.kp t.b__law_is_currency (pl_cons (pl_var 2) pl_nil)))) (tw_or (tt_not (tt_val (pl_call (ok__law_is_currency t) tk (hr.mono (by decide)) (by rfl) t.m__law_is_currency t.F__law_is_currency.kp t.b__law_is_currency (pl_cons (pl_var 4) pl_nil)))) (tw_or1 (tt_cp (c_eq hr.units) (pl_var 2) (pl_var 4))))))
  (sl_one (sl_ret pl_str))
  sl_nil)
  (sl_one (sl_ret (pl_mul pl_str (pl_bty cr_intU cl_int (by rfl) t.z_int (by decide +kernel) (pl_cons (pl_or (pl_not (pl_call (ok__law_is_whole t) tk (hr.mono (by decide)) (by rfl) t.m__law_is_whole t.F__law_is_whole.kp t.b__law_is_whole (pl_cons (pl_var 3) (pl_cons pl_int (pl_cons (pl_pow pl_int pl_int) pl_nil))))) (pl_one (pl_not (pl_call (ok__law_is_whole t) tk (hr.mono (by decide)) (by rfl) t.m__law_is_whole t.F__law_is_whole.kp t.b__law_is_whole (pl_cons (pl_var 5) (pl_cons pl_int (pl_cons (pl_pow pl_int pl_int) pl_nil))))))) pl_nil))))))))
theorem ok__law_spoilt (t : Txt K mg) : FnOk P w K mg base (L2N.CX P w) 2 t.a__law_spoilt t.d__law_spoilt ["_law_row", "_law_cell", "_law_more"] (spF K (TT t) f__law_spoilt) := by
  refine fn_ok (N := ["_law_row", "_law_cell", "_law_more", "_law_day", "_law_one", "_law_p", "_law_other", "_law_q", "_law_far", "_law_wrong", "_law_coin", "_law_count", "_law_some"]) (g := g__law_spoilt) (t := false) t.F__law_spoilt sc__law_spoilt (fun cdv A outer s H E hr => ?_)
  have tk := L2N.takes_of (X := cxOf (L2N.CX P w) P w K mg base ["_law_row", "_law_cell", "_law_more", "_law_day", "_law_one", "_law_p", "_law_other", "_law_q", "_law_far", "_law_wrong", "_law_coin", "_law_count", "_law_some"] "_law_spoilt" (defScope s__law_spoilt) t.a__law_spoilt cdv A outer s H E) (E := E) rfl rfl rfl rfl
  have po := passes_of (X := cxOf (L2N.CX P w) P w K mg base ["_law_row", "_law_cell", "_law_more", "_law_day", "_law_one", "_law_p", "_law_other", "_law_q", "_law_far", "_law_wrong", "_law_coin", "_law_count", "_law_some"] "_law_spoilt" (defScope s__law_spoilt) t.a__law_spoilt cdv A outer s H E) rfl
  exact (sl_cons (sl_asg (pl_var 0) (gl_tup 5 rfl (gsl_cons (gl_name 3 sc__law_spoilt.nd) (gsl_cons (gl_name 4 sc__law_spoilt.nd) (gsl_cons (gl_name 5 sc__law_spoilt.nd) (gsl_cons (gl_name 6 sc__law_spoilt.nd) (gsl_cons (gl_name 7 sc__law_spoilt.nd) gsl_nil))))) (gs_len1 (gs_len1 (gs_len1 (gs_len1 (gs_len1 gs_len0)))))))
  (sl_cons (sl_set 8 sc__law_spoilt.nd (pl_mod (pl_bi call_abs cl_abs (by rfl) t.z_abs (by decide +kernel) (pl_cons (pl_var 2) pl_nil)) (pl_pow pl_int pl_int)))
  (sl_cons (sl_set 9 sc__law_spoilt.nd (pl_ix hr.units (pl_lst (pl_cons (pl_neg pl_int) (pl_cons pl_int (pl_cons pl_non (pl_cons pl_bl (pl_cons pl_str (pl_cons (pl_lst (pl_cons pl_int pl_nil)) (pl_cons (pl_add pl_int (pl_var 8)) (pl_cons pl_bl pl_nil))))))))) (pl_mod (pl_var 2) pl_int)))
  (sl_cons (sl_set 10 sc__law_spoilt.nd (pl_ix hr.units (pl_lst (pl_cons pl_str (pl_cons pl_str (pl_cons pl_str (pl_cons pl_int (pl_cons pl_non (pl_cons (pl_lst (pl_cons pl_str pl_nil)) (pl_cons pl_str (pl_cons pl_str pl_nil))))))))) (pl_mod (pl_var 2) pl_int)))
  (sl_cons (sl_set 11 sc__law_spoilt.nd (pl_ix hr.units (pl_lst (pl_cons pl_int (pl_cons (pl_neg pl_int) (pl_cons (pl_add (pl_pow pl_int pl_int) pl_int) (pl_cons pl_bl (pl_cons pl_non (pl_cons pl_str (pl_cons (pl_add (pl_add (pl_pow pl_int pl_int) pl_int) (pl_var 8)) (pl_cons pl_bl pl_nil))))))))) (pl_mod (pl_var 2) pl_int)))
  (sl_cons (sl_set 12 sc__law_spoilt.nd (pl_lst (pl_cons (pl_tup (pl_cons (pl_var 9) (pl_cons (pl_var 4) (pl_cons (pl_var 5) (pl_cons (pl_var 6) (pl_cons (pl_var 7) pl_nil)))))) (pl_cons (pl_tup (pl_cons (pl_var 3) (pl_cons (pl_var 10) (pl_cons (pl_var 5) (pl_cons (pl_var 6) (pl_cons (pl_var 7) pl_nil)))))) (pl_cons (pl_tup (pl_cons (pl_var 3) (pl_cons (pl_var 4) (pl_cons (pl_var 5) (pl_cons (pl_var 10) (pl_cons (pl_var 7) pl_nil)))))) (pl_cons (pl_tup (pl_cons (pl_var 3) (pl_cons (pl_var 4) (pl_cons (pl_var 11) (pl_cons (pl_var 6) (pl_cons (pl_var 7) pl_nil)))))) pl_nil))))))
  (sl_cons (sl_set 12 sc__law_spoilt.nd (pl_add (pl_var 12) (pl_lst (pl_cons (pl_tup (pl_cons (pl_var 3) (pl_cons (pl_var 4) (pl_cons (pl_var 5) (pl_cons (pl_var 6) (pl_cons (pl_var 11) pl_nil)))))) (pl_cons (pl_tup (pl_cons (pl_var 9) (pl_cons (pl_var 10) (pl_cons (pl_var 5) (pl_cons (pl_var 6) (pl_cons (pl_var 7) pl_nil)))))) (pl_cons (pl_tup (pl_cons (pl_var 3) (pl_cons (pl_var 4) (pl_cons (pl_var 11) (pl_cons (pl_var 4) (pl_cons (pl_var 7) pl_nil)))))) pl_nil))))))
  (sl_one (sl_ret (pl_ix hr.units (pl_var 12) (pl_mod (pl_var 1) pl_int)))))))))))
theorem ok__law_word_E (t : Txt K mg) : FnE P w K mg base 2 t.a__law_word t.d__law_word ["_law_e"] (spE K (TT t) f__law_word_E) := by
  refine fn_okE (N := ["_law_e", "_law_found"]) (g := g__law_word_E) t.F__law_word sc__law_word (fun cdv A outer s H E p cls hX hz hv hr => ?_)
  exact (sl_cons (sl_set 1 sc__law_word.nd (pl_lst (pl_cons (pl_isE (i := 0) (f := hitA [(1, true), (2, false), (3, false)]) hX hz hv (pe_exc t.X_BadDay (by rfl)) (fun _ h => h) (hit_all ⟨⟨t.X_BadDay.c, t.X_BadDay.kit t.X_BadDay.r⟩, ⟨t.X_BadCurrency.c, t.X_BadDay.kit t.p_BadCurrency_BadDay⟩, ⟨t.X_BadRate.c, t.X_BadDay.kit t.p_BadRate_BadDay⟩, trivial⟩) (by rfl) t.z_isinstance) (pl_cons (pl_isE (i := 0) (f := hitA [(1, false), (2, true), (3, false)]) hX hz hv (pe_exc t.X_BadCurrency (by rfl)) (fun _ h => h) (hit_all ⟨⟨t.X_BadDay.c, t.X_BadCurrency.kit t.p_BadDay_BadCurrency⟩, ⟨t.X_BadCurrency.c, t.X_BadCurrency.kit t.X_BadCurrency.r⟩, ⟨t.X_BadRate.c, t.X_BadCurrency.kit t.p_BadRate_BadCurrency⟩, trivial⟩) (by rfl) t.z_isinstance) (pl_cons (pl_isE (i := 0) (f := hitA [(1, false), (2, false), (3, true)]) hX hz hv (pe_exc t.X_BadRate (by rfl)) (fun _ h => h) (hit_all ⟨⟨t.X_BadDay.c, t.X_BadRate.kit t.p_BadDay_BadRate⟩, ⟨t.X_BadCurrency.c, t.X_BadRate.kit t.p_BadCurrency_BadRate⟩, ⟨t.X_BadRate.c, t.X_BadRate.kit t.X_BadRate.r⟩, trivial⟩) (by rfl) t.z_isinstance) (pl_cons (pl_isE (i := 0) (f := hitA [(1, false), (2, false), (3, false)]) hX hz hv (pe_exc t.X_NoRate (by rfl)) (fun _ h => h) (hit_all ⟨⟨t.X_BadDay.c, t.X_NoRate.kit t.p_BadDay_NoRate⟩, ⟨t.X_BadCurrency.c, t.X_NoRate.kit t.p_BadCurrency_NoRate⟩, ⟨t.X_BadRate.c, t.X_NoRate.kit t.p_BadRate_NoRate⟩, trivial⟩) (by rfl) t.z_isinstance) pl_nil))))))
  (sl_cons (sl_if (tt_w (tw_or (tt_cp (c_ne hr.units) (pl_bm PySem.F.plainAttrs_list PySem.F.slot_list_count PySem.F.type_list_count mt_countF ml_lcount (pl_var 1) (pl_cons pl_bl pl_nil)) pl_int) (tw_or1 (tt_not (tt_val (pl_isE (i := 0) (f := hitA [(1, true), (2, true), (3, true)]) hX hz hv (pe_exV (by rfl) t.z_ValueError) (fun _ h => h) (hit_all ⟨⟨t.X_BadDay.c, t.X_BadDay.kitV⟩, ⟨t.X_BadCurrency.c, t.X_BadCurrency.kitV⟩, ⟨t.X_BadRate.c, t.X_BadRate.kitV⟩, trivial⟩) (by rfl) t.z_isinstance))))))
  (sl_one (sl_ret pl_str))
  sl_nil)
  (sl_one (sl_ret (pl_ix hr.units (pl_lst (pl_cons pl_str (pl_cons pl_str (pl_cons pl_str (pl_cons pl_str pl_nil))))) (pl_bm PySem.F.plainAttrs_list PySem.F.slot_list_index PySem.F.type_list_index mt_index ml_lindex (pl_var 1) (pl_cons pl_bl pl_nil)))))))
theorem ok__law_told (t : Txt K mg) : FnOk P w K mg base (L2N.CX P w) 10 t.a__law_told t.d__law_told ["_law_rates", "_law_row"] (spF K (TT t) f__law_told) := by
  refine fn_ok (N := ["_law_rates", "_law_row", "_law_found", "_law_e"]) (g := g__law_told) (t := false) t.F__law_told sc__law_told (fun cdv A outer s H E hr => ?_)
  have tk := L2N.takes_of (X := cxOf (L2N.CX P w) P w K mg base ["_law_rates", "_law_row", "_law_found", "_law_e"] "_law_told" (defScope s__law_told) t.a__law_told cdv A outer s H E) (E := E) rfl rfl rfl rfl
  have po := passes_of (X := cxOf (L2N.CX P w) P w K mg base ["_law_rates", "_law_row", "_law_found", "_law_e"] "_law_told" (defScope s__law_told) t.a__law_told cdv A outer s H E) rfl
  exact (sl_cons (sl_set 2 sc__law_told.nd pl_non)
  (sl_cons (sl_try_as (hit := hitA [(1, true), (2, true), (3, true)]) (i := 3) sc__law_told.nd ⟨by rfl, by decide, .inl t.X_HouseError.g⟩ tk (hit_all ⟨t.X_HouseError.exm t.p_BadDay_HouseError, t.X_HouseError.exm t.p_BadCurrency_HouseError, t.X_HouseError.exm t.p_BadRate_HouseError, trivial⟩) (fun _ _ _ tk1 po1 => (sl_one (sl_set 2 sc__law_told.nd (pl_meth (tab := (tabA [(100, f_Rates_quote)])) tk1 (tab_all ⟨⟨_, _, _, _, nm_Rates, _, rfl, rfl, t.L_Rates, t.E_Rates_quote, no_Rates_quote, ok_Rates_quote t, hr.mono (by decide), t.b_Rates_quote⟩, trivial⟩) (pl_var 0) (pl_cons (pl_ix hr.units (pl_var 1) pl_int) (pl_cons (pl_ix hr.units (pl_var 1) pl_int) (pl_cons (pl_ix hr.units (pl_var 1) pl_int) (pl_cons (pl_ix hr.units (pl_var 1) pl_int) (pl_cons (pl_ix hr.units (pl_var 1) pl_int) pl_nil))))))))) (fun _ _ _ _ _ hz hv => (sl_one (sl_ret (pl_callE (i := 3) hz hv (ok__law_word_E t) (hr.mono (by decide)) (by rfl) t.m__law_word t.F__law_word.kp t.b__law_word)))))
  (sl_one (sl_ret (pl_mul pl_str (pl_bty cr_intU cl_int (by rfl) t.z_int (by decide +kernel) (pl_cons (pl_cp c_isn (pl_var 2) pl_non) pl_nil)))))))
theorem ok__law_newest_good (t : Txt K mg) : FnOk P w K mg base (L2N.CX P w) 4 t.a__law_newest_good t.d__law_newest_good ["_law_rates", "_law_told_here", "_law_one", "_law_other", "_law_day"] (spF K (TT t) f__law_newest_good) := by
  refine fn_ok (N := ["_law_rates", "_law_told_here", "_law_one", "_law_other", "_law_day", "_law_due_here", "_law_found", "_law_number"]) (g := g__law_newest_good) (t := false) t.F__law_newest_good sc__law_newest_good (fun cdv A outer s H E hr => ?_)
  have tk := L2N.takes_of (X := cxOf (L2N.CX P w) P w K mg base ["_law_rates", "_law_told_here", "_law_one", "_law_other", "_law_day", "_law_due_here", "_law_found", "_law_number"] "_law_newest_good" (defScope s__law_newest_good) t.a__law_newest_good cdv A outer s H E) (E := E) rfl rfl rfl rfl
  have po := passes_of (X := cxOf (L2N.CX P w) P w K mg base ["_law_rates", "_law_told_here", "_law_one", "_law_other", "_law_day", "_law_due_here", "_law_found", "_law_number"] "_law_newest_good" (defScope s__law_newest_good) t.a__law_newest_good cdv A outer s H E) rfl
  exact (sl_cons (sl_set 5 sc__law_newest_good.nd (pl_call (ok__law_newest t) tk (hr.mono (by decide)) (by rfl) t.m__law_newest t.F__law_newest.kp t.b__law_newest (pl_cons (pl_var 1) (pl_cons (pl_var 2) (pl_cons (pl_var 3) (pl_cons (pl_var 4) pl_nil))))))
  (sl_cons (sl_set 6 sc__law_newest_good.nd (pl_meth (tab := (tabA [(100, f_Rates_newest)])) tk (tab_all ⟨⟨_, _, _, _, nm_Rates, _, rfl, rfl, t.L_Rates, t.E_Rates_newest, no_Rates_newest, ok_Rates_newest t, hr.mono (by decide), t.b_Rates_newest⟩, trivial⟩) (pl_var 0) (pl_cons (pl_var 2) (pl_cons (pl_var 3) (pl_cons (pl_var 4) pl_nil)))))
  (sl_cons (sl_if (tt_w (tw_or (tt_cp c_is (pl_var 5) pl_non) (tw_or1 (tt_cp c_is (pl_var 6) pl_non))))
  (sl_one (sl_ret (pl_and (pl_cp c_is (pl_var 5) pl_non) (pl_one (pl_cp c_is (pl_var 6) pl_non)))))
  sl_nil)
  (sl_cons (sl_if (tt_w (tw_or (tt_not (tt_val (pl_bi call_isi cl_isi (by rfl) t.z_isinstance (by decide +kernel) (pl_cons (pl_var 6) (pl_cons (pl_ty (n := "tuple") (by rfl) t.z_tuple (by decide +kernel)) pl_nil))))) (tw_or1 (tt_cp (c_ne hr.units) (pl_var 6) (pl_var 5)))))
  (sl_one (sl_ret pl_bl))
  sl_nil)
  (sl_one (sl_ret (pl_cp (c_eq hr.units) (pl_lc (own := [("_law_number", 7)]) rfl sc__law_newest_good.nd (il_val (pl_var 6)) (blkOk_by (N := ["_law_rates", "_law_told_here", "_law_one", "_law_other", "_law_day", "_law_due_here", "_law_found", "_law_number"]) (sc := (defScope s__law_newest_good)) (by decide +kernel)) (fun _ _ _ _ _ => (gc_name 7 sc__law_newest_good.nd (by decide))) (fun _ _ _ _ _ => (pt_one (tt_val (pl_bi call_isi cl_isi (by rfl) t.z_isinstance (by decide +kernel) (pl_cons (pl_var 7) (pl_cons (pl_ty (n := "bool") (by rfl) t.z_bool (by decide +kernel)) pl_nil)))))) (fun _ _ _ _ _ => (pl_var 7))) (pl_lst pl_nil))))))))
theorem ok__law_pair_good (t : Txt K mg) : FnOk P w K mg base (L2N.CX P w) 6 t.a__law_pair_good t.d__law_pair_good ["_law_rates", "_law_told_here", "_law_one", "_law_other", "_law_day"] (spF K (TT t) f__law_pair_good) := by
  refine fn_ok (N := ["_law_rates", "_law_told_here", "_law_one", "_law_other", "_law_day", "_law_when"]) (g := g__law_pair_good) (t := false) t.F__law_pair_good sc__law_pair_good (fun cdv A outer s H E hr => ?_)
  have tk := L2N.takes_of (X := cxOf (L2N.CX P w) P w K mg base ["_law_rates", "_law_told_here", "_law_one", "_law_other", "_law_day", "_law_when"] "_law_pair_good" (defScope s__law_pair_good) t.a__law_pair_good cdv A outer s H E) (E := E) rfl rfl rfl rfl
  have po := passes_of (X := cxOf (L2N.CX P w) P w K mg base ["_law_rates", "_law_told_here", "_law_one", "_law_other", "_law_day", "_law_when"] "_law_pair_good" (defScope s__law_pair_good) t.a__law_pair_good cdv A outer s H E) rfl
  exact (sl_cons (sl_for po rfl (il_val (pl_tup (pl_cons (pl_var 4) (pl_cons (pl_bi (cr_maxU rfl) cl_maxU (by rfl) t.z_max (by decide +kernel) (pl_cons pl_int (pl_cons (pl_sub (pl_var 4) pl_int) pl_nil))) (pl_cons (pl_bi (cr_minU rfl) cl_minU (by rfl) t.z_min (by decide +kernel) (pl_cons pl_int (pl_cons (pl_add (pl_var 4) pl_int) pl_nil))) pl_nil))))) (gl_name 5 sc__law_pair_good.nd)
  (sl_one (sl_if (tt_w (tw_or (tt_not (tt_val (pl_call (ok__law_newest_good t) tk (hr.mono (by decide)) (by rfl) t.m__law_newest_good t.F__law_newest_good.kp t.b__law_newest_good (pl_cons (pl_var 0) (pl_cons (pl_var 1) (pl_cons (pl_var 2) (pl_cons (pl_var 3) (pl_cons (pl_var 5) pl_nil)))))))) (tw_or1 (tt_not (tt_val (pl_call (ok__law_newest_good t) tk (hr.mono (by decide)) (by rfl) t.m__law_newest_good t.F__law_newest_good.kp t.b__law_newest_good (pl_cons (pl_var 0) (pl_cons (pl_var 1) (pl_cons (pl_var 3) (pl_cons (pl_var 2) (pl_cons (pl_var 5) pl_nil)))))))))))
  (sl_one (sl_ret pl_bl))
  sl_nil)))
  (sl_one (sl_ret pl_bl)))
theorem ok__law_lists (t : Txt K mg) : FnOk P w K mg base (L2N.CX P w) 2 t.a__law_lists t.d__law_lists ["_law_told_here"] (spF K (TT t) f__law_lists) := by
  refine fn_ok (N := ["_law_told_here", "_law_last", "_law_names", "_law_day", "_law_one", "_law_p", "_law_other", "_law_q", "_law_key"]) (g := g__law_lists) (t := false) t.F__law_lists sc__law_lists (fun cdv A outer s H E hr => ?_)
  have tk := L2N.takes_of (X := cxOf (L2N.CX P w) P w K mg base ["_law_told_here", "_law_last", "_law_names", "_law_day", "_law_one", "_law_p", "_law_other", "_law_q", "_law_key"] "_law_lists" (defScope s__law_lists) t.a__law_lists cdv A outer s H E) (E := E) rfl rfl rfl rfl
  have po := passes_of (X := cxOf (L2N.CX P w) P w K mg base ["_law_told_here", "_law_last", "_law_names", "_law_day", "_law_one", "_law_p", "_law_other", "_law_q", "_law_key"] "_law_lists" (defScope s__law_lists) t.a__law_lists cdv A outer s H E) rfl
  exact (sl_cons (sl_set 1 sc__law_lists.nd pl_dnewT)
  (sl_cons (sl_set 2 sc__law_lists.nd pl_dnew)
  (sl_cons (sl_for po rfl (il_val (pl_var 0)) (gl_tup 5 rfl (gsl_cons (gl_name 3 sc__law_lists.nd) (gsl_cons (gl_name 4 sc__law_lists.nd) (gsl_cons (gl_name 5 sc__law_lists.nd) (gsl_cons (gl_name 6 sc__law_lists.nd) (gsl_cons (gl_name 7 sc__law_lists.nd) gsl_nil))))) (gs_len1 (gs_len1 (gs_len1 (gs_len1 (gs_len1 gs_len0))))))
  (sl_cons (sl_sub hr pl_bl (pl_var 2) (pl_var 4))
  (sl_cons (sl_sub hr pl_bl (pl_var 2) (pl_var 6))
  (sl_one (sl_sub hr (pl_ite (tt_cp c_lt (pl_var 4) (pl_var 6)) (pl_tup (pl_cons (pl_var 5) (pl_cons (pl_var 7) pl_nil))) (pl_tup (pl_cons (pl_var 7) (pl_cons (pl_var 5) pl_nil)))) (pl_var 1) (pl_tup (pl_cons (pl_var 3) (pl_cons (pl_bi (cr_minU rfl) cl_minU (by rfl) t.z_min (by decide +kernel) (pl_cons (pl_var 4) (pl_cons (pl_var 6) pl_nil))) (pl_cons (pl_bi (cr_maxU rfl) cl_maxU (by rfl) t.z_max (by decide +kernel) (pl_cons (pl_var 4) (pl_cons (pl_var 6) pl_nil))) pl_nil)))))))))
  (sl_one (sl_ret (pl_lst (pl_cons (pl_bi (cr_sortedD hr.units) cl_sorted (by rfl) t.z_sorted (by decide +kernel) (pl_cons (pl_lock (fd := (lVar 1)) (pl_lc (own := [("_law_key", 8)]) rfl sc__law_lists.nd (il_dict (pl_var 1)) (blkOk_by (N := ["_law_told_here", "_law_last", "_law_names", "_law_day", "_law_one", "_law_p", "_law_other", "_law_q", "_law_key"]) (sc := (defScope s__law_lists)) (by decide +kernel)) (fun _ _ _ _ _ => (gc_name 8 sc__law_lists.nd (by decide))) (fun _ _ _ _ _ => pt_yes) (fun _ _ _ _ _ => (pl_tup (pl_cons (pl_ix hr.units (pl_var 8) pl_int) (pl_cons (pl_ix hr.units (pl_var 8) pl_int) (pl_cons (pl_ix hr.units (pl_ix hr.units (pl_var 1) (pl_var 8)) pl_int) (pl_cons (pl_ix hr.units (pl_var 8) pl_int) (pl_cons (pl_ix hr.units (pl_ix hr.units (pl_var 1) (pl_var 8)) pl_int) pl_nil))))))))) pl_nil)) (pl_cons (pl_bi (cr_sortedDk rfl) cl_sortedD (by rfl) t.z_sorted (by decide +kernel) (pl_cons (pl_var 2) pl_nil)) pl_nil))))))))
theorem ok__law_list (t : Txt K mg) : FnOk P w K mg base (L2N.CX P w) 4 t.a__law_list t.d__law_list ["_law_rates", "_law_which"] (spF K (TT t) f__law_list) := by
  refine fn_ok (N := ["_law_rates", "_law_which"]) (g := g__law_list) (t := false) t.F__law_list sc__law_list (fun cdv A outer s H E hr => ?_)
  have tk := L2N.takes_of (X := cxOf (L2N.CX P w) P w K mg base ["_law_rates", "_law_which"] "_law_list" (defScope s__law_list) t.a__law_list cdv A outer s H E) (E := E) rfl rfl rfl rfl
  have po := passes_of (X := cxOf (L2N.CX P w) P w K mg base ["_law_rates", "_law_which"] "_law_list" (defScope s__law_list) t.a__law_list cdv A outer s H E) rfl
  exact (sl_cons (sl_if (tt_cp (c_eq hr.units) (pl_var 1) pl_int)
  (sl_one (sl_ret (pl_meth0 (tab := (tabA [(100, f_Rates_quotes)])) tk (tab_all ⟨⟨_, _, _, _, nm_Rates, _, rfl, rfl, t.L_Rates, t.E_Rates_quotes, no_Rates_quotes, ok_Rates_quotes t, hr.mono (by decide), t.b_Rates_quotes⟩, trivial⟩) (pl_var 0))))
  sl_nil)
  (sl_one (sl_ret (pl_meth0 (tab := (tabA [(100, f_Rates_currencies)])) tk (tab_all ⟨⟨_, _, _, _, nm_Rates, _, rfl, rfl, t.L_Rates, t.E_Rates_currencies, no_Rates_currencies, ok_Rates_currencies t, hr.mono (by decide), t.b_Rates_currencies⟩, trivial⟩) (pl_var 0)))))
theorem ok__law_list_T (t : Txt K mg) : FnOk P w K mg base (L2N.CX P w) 4 t.a__law_list t.d__law_list ["_law_rates", "_law_which"] (spF K (TT t) f__law_list_T) := by
  refine fn_ok (N := ["_law_rates", "_law_which"]) (g := g__law_list_T) (t := true) t.F__law_list sc__law_list (fun cdv A outer s H E hr => ?_)
  have tk := L2N.takes_of (X := cxOf (L2N.CX P w) P w K mg base ["_law_rates", "_law_which"] "_law_list" (defScope s__law_list) t.a__law_list cdv A outer s H E) (E := E) rfl rfl rfl rfl
  have po := passes_of (X := cxOf (L2N.CX P w) P w K mg base ["_law_rates", "_law_which"] "_law_list" (defScope s__law_list) t.a__law_list cdv A outer s H E) rfl
  exact (sl_cons (sl_if (tt_cp (c_eq hr.units) (pl_var 1) pl_int)
  (sl_one (sl_ret (pl_meth0 (tab := (tabA [(100, f_Rates_quotes_T)])) tk (tab_all ⟨⟨_, _, _, _, nm_Rates, _, rfl, rfl, t.L_Rates, t.E_Rates_quotes, no_Rates_quotes, ok_Rates_quotes_T t, hr.mono (by decide), t.b_Rates_quotes⟩, trivial⟩) (pl_var 0))))
  sl_nil)
  (sl_one (sl_ret (pl_meth0 (tab := (tabA [(100, f_Rates_currencies_T)])) tk (tab_all ⟨⟨_, _, _, _, nm_Rates, _, rfl, rfl, t.L_Rates, t.E_Rates_currencies, no_Rates_currencies, ok_Rates_currencies_T t, hr.mono (by decide), t.b_Rates_currencies⟩, trivial⟩) (pl_var 0)))))
theorem ok__law_listed (t : Txt K mg) : FnOk P w K mg base (L2N.CX P w) 6 t.a__law_listed t.d__law_listed ["_law_rates", "_law_told_here", "_law_held", "_law_turn"] (spF K (TT t) f__law_listed) := by
  refine fn_ok (N := ["_law_rates", "_law_told_here", "_law_held", "_law_turn", "_law_dues", "_law_which", "_law_found"]) (g := g__law_listed) (t := false) t.F__law_listed sc__law_listed (fun cdv A outer s H E hr => ?_)
  have tk := L2N.takes_of (X := cxOf (L2N.CX P w) P w K mg base ["_law_rates", "_law_told_here", "_law_held", "_law_turn", "_law_dues", "_law_which", "_law_found"] "_law_listed" (defScope s__law_listed) t.a__law_listed cdv A outer s H E) (E := E) rfl rfl rfl rfl
  have po := passes_of (X := cxOf (L2N.CX P w) P w K mg base ["_law_rates", "_law_told_here", "_law_held", "_law_turn", "_law_dues", "_law_which", "_law_found"] "_law_listed" (defScope s__law_listed) t.a__law_listed cdv A outer s H E) rfl
  exact (sl_cons (sl_set 4 sc__law_listed.nd (pl_call (ok__law_lists t) tk (hr.mono (by decide)) (by rfl) t.m__law_lists t.F__law_lists.kp t.b__law_lists (pl_cons (pl_var 1) pl_nil)))
  (sl_cons (sl_for po rfl (il_val (pl_ix hr.units (pl_lst (pl_cons (pl_lst (pl_cons pl_int (pl_cons pl_int pl_nil))) (pl_cons (pl_lst (pl_cons pl_int (pl_cons pl_int pl_nil))) pl_nil))) (pl_mod (pl_var 3) pl_int))) (gl_name 5 sc__law_listed.nd)
  (sl_cons (sl_set 6 sc__law_listed.nd (pl_call (ok__law_list_T t) tk (hr.mono (by decide)) (by rfl) t.m__law_list t.F__law_list.kp t.b__law_list (pl_cons (pl_var 0) (pl_cons (pl_var 5) pl_nil))))
  (sl_cons (sl_if (tt_w (tw_or (tt_not (tt_val (pl_bi call_isi cl_isi (by rfl) t.z_isinstance (by decide +kernel) (pl_cons (pl_var 6) (pl_cons (pl_ty (n := "list") (by rfl) t.z_list (by decide +kernel)) pl_nil))))) (tw_or1 (tt_cp (c_ne hr.units) (pl_var 6) (pl_ix hr.units (pl_var 4) (pl_var 5))))))
  (sl_one (sl_ret pl_bl))
  sl_nil)
  (sl_cons (sl_expr (pl_bm PySem.F.plainAttrs_list PySem.F.slot_list_append PySem.F.type_list_append mt_append ml_append (pl_var 6) (pl_cons pl_str pl_nil)))
  (sl_cons (sl_expr (pl_bm PySem.F.plainAttrs_list PySem.F.slot_list_append PySem.F.type_list_append mt_append ml_append (pl_var 2) (pl_cons (pl_call (ok__law_list t) tk (hr.mono (by decide)) (by rfl) t.m__law_list t.F__law_list.kp t.b__law_list (pl_cons (pl_var 0) (pl_cons (pl_var 5) pl_nil))) pl_nil)))
  (sl_one (sl_if (tt_cp (c_ne hr.units) (pl_ix hr.units (pl_var 2) (pl_neg pl_int)) (pl_ix hr.units (pl_var 4) (pl_var 5)))
  (sl_one (sl_ret pl_bl))
  sl_nil)))))))
  (sl_one (sl_ret pl_bl))))
theorem ok__law_all_good (t : Txt K mg) : FnOk P w K mg base (L2N.CX P w) 6 t.a__law_all_good t.d__law_all_good ["_law_rates", "_law_told_here", "_law_coins", "_law_day"] (spF K (TT t) f__law_all_good) := by
  refine fn_ok (N := ["_law_rates", "_law_told_here", "_law_coins", "_law_day", "_law_one", "_law_other"]) (g := g__law_all_good) (t := false) t.F__law_all_good sc__law_all_good (fun cdv A outer s H E hr => ?_)
  have tk := L2N.takes_of (X := cxOf (L2N.CX P w) P w K mg base ["_law_rates", "_law_told_here", "_law_coins", "_law_day", "_law_one", "_law_other"] "_law_all_good" (defScope s__law_all_good) t.a__law_all_good cdv A outer s H E) (E := E) rfl rfl rfl rfl
  have po := passes_of (X := cxOf (L2N.CX P w) P w K mg base ["_law_rates", "_law_told_here", "_law_coins", "_law_day", "_law_one", "_law_other"] "_law_all_good" (defScope s__law_all_good) t.a__law_all_good cdv A outer s H E) rfl
  exact (sl_cons (sl_for po rfl (il_val (pl_var 2)) (gl_name 4 sc__law_all_good.nd)
  (sl_one (sl_if (tt_cp (c_ne hr.units) (pl_lc (own := [("_law_other", 5)]) rfl sc__law_all_good.nd (il_val (pl_var 2)) (blkOk_by (N := ["_law_rates", "_law_told_here", "_law_coins", "_law_day", "_law_one", "_law_other"]) (sc := (defScope s__law_all_good)) (by decide +kernel)) (fun _ _ _ _ _ => (gc_name 5 sc__law_all_good.nd (by decide))) (fun _ _ _ _ _ => (pt_one (tt_not (tt_val (pl_call (ok__law_newest_good t) tk0 (hr.mono (by decide)) (by rfl) t.m__law_newest_good t.F__law_newest_good.kp t.b__law_newest_good (pl_cons (pl_var 0) (pl_cons (pl_var 1) (pl_cons (pl_var 4) (pl_cons (pl_var 5) (pl_cons (pl_var 3) pl_nil)))))))))) (fun _ _ _ _ _ => (pl_var 5))) (pl_lst pl_nil))
  (sl_one (sl_ret pl_bl))
  sl_nil)))
  (sl_one (sl_ret pl_bl)))
theorem ok__law_end_good (t : Txt K mg) : FnOk P w K mg base (L2N.CX P w) 8 t.a__law_end_good t.d__law_end_good ["_law_both", "_law_told_here", "_law_coins", "_law_day"] (spF K (TT t) f__law_end_good) := by
  refine fn_ok (N := ["_law_both", "_law_told_here", "_law_coins", "_law_day", "_law_which"]) (g := g__law_end_good) (t := false) t.F__law_end_good sc__law_end_good (fun cdv A outer s H E hr => ?_)
  have tk := L2N.takes_of (X := cxOf (L2N.CX P w) P w K mg base ["_law_both", "_law_told_here", "_law_coins", "_law_day", "_law_which"] "_law_end_good" (defScope s__law_end_good) t.a__law_end_good cdv A outer s H E) (E := E) rfl rfl rfl rfl
  have po := passes_of (X := cxOf (L2N.CX P w) P w K mg base ["_law_both", "_law_told_here", "_law_coins", "_law_day", "_law_which"] "_law_end_good" (defScope s__law_end_good) t.a__law_end_good cdv A outer s H E) rfl
  exact (sl_cons (sl_for po rfl (il_rng1 (by rfl) t.z_range (pl_cons pl_int pl_nil)) (gl_name 4 sc__law_end_good.nd)
  (sl_cons (sl_if (tt_not (tt_val (pl_call (ok__law_all_good t) tk (hr.mono (by decide)) (by rfl) t.m__law_all_good t.F__law_all_good.kp t.b__law_all_good (pl_cons (pl_ix hr.units (pl_var 0) (pl_var 4)) (pl_cons (pl_ix hr.units (pl_var 1) (pl_var 4)) (pl_cons (pl_var 2) (pl_cons (pl_var 3) pl_nil)))))))
  (sl_one (sl_ret pl_bl))
  sl_nil)
  (sl_one (sl_if (tt_not (tt_val (pl_call (ok__law_listed t) tk (hr.mono (by decide)) (by rfl) t.m__law_listed t.F__law_listed.kp t.b__law_listed (pl_cons (pl_ix hr.units (pl_var 0) (pl_var 4)) (pl_cons (pl_ix hr.units (pl_var 1) (pl_var 4)) (pl_cons (pl_lsT pl_nil) (pl_cons (pl_add (pl_var 3) (pl_var 4)) pl_nil)))))))
  (sl_one (sl_ret pl_bl))
  sl_nil))))
  (sl_one (sl_ret pl_bl)))
theorem ok_law (t : Txt K mg) : FnOk P w K mg base (L2N.CX P w) 12 t.a_law t.d_law ["_law_script"] (spF K (TT t) f_law) := by
  refine fn_ok (N := ["_law_script", "_law_coins", "_law_base", "_law_both", "_law_told_here", "_law_held", "_law_kept", "_law_day", "_law_k", "_law_side", "_law_most", "_law_one", "_law_other", "_law_row", "_law_due_here", "_law_turn", "_law_good", "_law_which", "_law_some"]) (g := g_law) (t := false) t.F_law sc_law (fun cdv A outer s H E hr => ?_)
  have tk := L2N.takes_of (X := cxOf (L2N.CX P w) P w K mg base ["_law_script", "_law_coins", "_law_base", "_law_both", "_law_told_here", "_law_held", "_law_kept", "_law_day", "_law_k", "_law_side", "_law_most", "_law_one", "_law_other", "_law_row", "_law_due_here", "_law_turn", "_law_good", "_law_which", "_law_some"] "law" (defScope s_law) t.a_law cdv A outer s H E) (E := E) rfl rfl rfl rfl
  have po := passes_of (X := cxOf (L2N.CX P w) P w K mg base ["_law_script", "_law_coins", "_law_base", "_law_both", "_law_told_here", "_law_held", "_law_kept", "_law_day", "_law_k", "_law_side", "_law_most", "_law_one", "_law_other", "_law_row", "_law_due_here", "_law_turn", "_law_good", "_law_which", "_law_some"] "law" (defScope s_law) t.a_law cdv A outer s H E) rfl
  exact (sl_cons (sl_setLc 1 (own := [("_law_k", 8)]) rfl sc_law.nd rfl rfl (sw_true rfl rfl rfl (by decide +kernel)) (il_rng1 (by rfl) t.z_range (pl_cons pl_int pl_nil)) (blkOk_by (N := ["_law_script", "_law_coins", "_law_base", "_law_both", "_law_told_here", "_law_held", "_law_kept", "_law_day", "_law_k", "_law_side", "_law_most", "_law_one", "_law_other", "_law_row", "_law_due_here", "_law_turn", "_law_good", "_law_which", "_law_some"]) (sc := (defScope s_law)) (by decide +kernel)) (fun _ _ _ _ _ => (gc_name 8 sc_law.nd (by decide))) (fun _ _ _ _ _ => pt_yes) (fun _ _ _ _ _ => (pl_call (ok__law_currency_by t) tk0 (hr.mono (by decide)) (by rfl) t.m__law_currency_by t.F__law_currency_by.kp t.b__law_currency_by (pl_cons (pl_call (ok__law_cell_at t) tk0 (hr.mono (by decide)) (by rfl) t.m__law_cell_at t.F__law_cell_at.kp t.b__law_cell_at (pl_cons (pl_var 0) (pl_cons pl_int pl_nil))) (pl_cons (pl_var 8) pl_nil)))))
  (sl_cons (sl_set 2 sc_law.nd (pl_mod (pl_call (ok__law_cell_at t) tk (hr.mono (by decide)) (by rfl) t.m__law_cell_at t.F__law_cell_at.kp t.b__law_cell_at (pl_cons (pl_var 0) (pl_cons pl_int pl_nil))) pl_int))
  (sl_cons (sl_set 3 sc_law.nd (pl_lst (pl_cons (pl_make0 (c := 100) rfl t.Mk_Rates (ok_Rates___init__ t) (hr.mono (by decide)) (by rfl) t.G_Rates t.b_Rates___init__) (pl_cons (pl_make0 (c := 100) rfl t.Mk_Rates (ok_Rates___init__ t) (hr.mono (by decide)) (by rfl) t.G_Rates t.b_Rates___init__) pl_nil))))
  (sl_cons (sl_set 4 sc_law.nd (pl_lsT (pl_cons (pl_lsT pl_nil) (pl_cons (pl_lsT pl_nil) pl_nil))))
  (sl_cons (sl_set 5 sc_law.nd (pl_lsT pl_nil))
  (sl_cons (sl_set 6 sc_law.nd (pl_lst pl_nil))
  (sl_cons (sl_set 7 sc_law.nd (pl_var 2))
  (sl_cons (sl_for po rfl (il_rng3 (by rfl) t.z_range (pl_cons pl_int (pl_cons (pl_sub (pl_bi cr_lenU cl_len (by rfl) t.z_len (by decide +kernel) (pl_cons (pl_var 0) pl_nil)) pl_int) (pl_cons pl_int pl_nil)))) (gl_name 8 sc_law.nd)
  (sl_cons (sl_set 9 sc_law.nd (pl_mod (pl_ix hr.units (pl_var 0) (pl_var 8)) pl_int))
  (sl_cons (sl_set 7 sc_law.nd (pl_bi (cr_minU rfl) cl_minU (by rfl) t.z_min (by decide +kernel) (pl_cons pl_int (pl_cons (pl_add (pl_var 2) (pl_mod (pl_ix hr.units (pl_var 0) (pl_add (pl_var 8) pl_int)) pl_int)) pl_nil))))
  (sl_cons (sl_set 10 sc_law.nd (pl_ix hr.units (pl_lst (pl_cons pl_int (pl_cons (pl_pow pl_int pl_int) pl_nil))) (pl_mod (pl_fdiv (pl_ix hr.units (pl_var 0) (pl_add (pl_var 8) pl_int)) pl_int) pl_int)))
  (sl_cons (sl_set 11 sc_law.nd (pl_ix hr.units (pl_var 1) (pl_mod (pl_fdiv (pl_ix hr.units (pl_var 0) (pl_var 8)) pl_int) pl_int)))
  (sl_cons (sl_set 12 sc_law.nd (pl_ix hr.units (pl_var 1) (pl_mod (pl_fdiv (pl_ix hr.units (pl_var 0) (pl_var 8)) pl_int) pl_int)))
  (sl_cons (sl_set 13 sc_law.nd (pl_tup (pl_cons (pl_var 7) (pl_cons (pl_var 11) (pl_cons (pl_add pl_int (pl_mod (pl_ix hr.units (pl_var 0) (pl_add (pl_var 8) pl_int)) (pl_var 10))) (pl_cons (pl_var 12) (pl_cons (pl_add pl_int (pl_mod (pl_ix hr.units (pl_var 0) (pl_add (pl_var 8) pl_int)) (pl_var 10))) pl_nil)))))))
  (sl_cons (sl_if (tt_cp (c_eq hr.units) (pl_mod (pl_fdiv (pl_ix hr.units (pl_var 0) (pl_var 8)) pl_int) pl_int) pl_int)
  (sl_one (sl_set 13 sc_law.nd (pl_call (ok__law_spoilt t) tk (hr.mono (by decide)) (by rfl) t.m__law_spoilt t.F__law_spoilt.kp t.b__law_spoilt (pl_cons (pl_var 13) (pl_cons (pl_ix hr.units (pl_var 0) (pl_add (pl_var 8) pl_int)) (pl_cons (pl_ix hr.units (pl_var 0) (pl_add (pl_var 8) pl_int)) pl_nil))))))
  sl_nil)
  (sl_cons (sl_set 14 sc_law.nd (pl_call (ok__law_due t) tk (hr.mono (by decide)) (by rfl) t.m__law_due t.F__law_due.kp t.b__law_due (pl_cons (pl_var 13) pl_nil)))
  (sl_cons (sl_set 15 sc_law.nd (pl_add (pl_fdiv (pl_ix hr.units (pl_var 0) (pl_add (pl_var 8) pl_int)) pl_int) (pl_fdiv (pl_ix hr.units (pl_var 0) (pl_add (pl_var 8) pl_int)) pl_int)))
  (sl_cons (sl_set 16 sc_law.nd (pl_or (pl_cp c_gt (pl_mod (pl_var 15) pl_int) pl_int) (pl_one (pl_call (ok__law_pair_good t) tk (hr.mono (by decide)) (by rfl) t.m__law_pair_good t.F__law_pair_good.kp t.b__law_pair_good (pl_cons (pl_ix hr.units (pl_var 3) (pl_var 9)) (pl_cons (pl_ix hr.units (pl_var 4) (pl_var 9)) (pl_cons (pl_var 11) (pl_cons (pl_var 12) (pl_cons (pl_var 7) pl_nil)))))))))
  (sl_cons (sl_if (tt_w (tw_or (tt_not (tt_val (pl_var 16))) (tw_or1 (tt_cp (c_ne hr.units) (pl_call (ok__law_told t) tk (hr.mono (by decide)) (by rfl) t.m__law_told t.F__law_told.kp t.b__law_told (pl_cons (pl_ix hr.units (pl_var 3) (pl_var 9)) (pl_cons (pl_var 13) pl_nil))) (pl_var 14)))))
  (sl_one (sl_ret pl_bl))
  sl_nil)
  (sl_cons (sl_if (tt_cp (c_eq hr.units) (pl_var 14) pl_str)
  (sl_one (sl_expr (pl_bm PySem.F.plainAttrs_list PySem.F.slot_list_append PySem.F.type_list_append mt_append ml_append (pl_ix hr.units (pl_var 4) (pl_var 9)) (pl_cons (pl_var 13) pl_nil))))
  sl_nil)
  (sl_cons (sl_if (tt_w (tw_and (tt_cp (c_eq hr.units) (pl_mod (pl_fdiv (pl_var 15) pl_int) pl_int) pl_int) (tw_and1 (tt_not (tt_val (pl_call (ok__law_listed t) tk (hr.mono (by decide)) (by rfl) t.m__law_listed t.F__law_listed.kp t.b__law_listed (pl_cons (pl_ix hr.units (pl_var 3) (pl_var 9)) (pl_cons (pl_ix hr.units (pl_var 4) (pl_var 9)) (pl_cons (pl_var 5) (pl_cons (pl_var 15) pl_nil))))))))))
  (sl_one (sl_ret pl_bl))
  sl_nil)
  (sl_cons (sl_for po rfl (il_rng1 (by rfl) t.z_range (pl_cons pl_int pl_nil)) (gl_name 17 sc_law.nd)
  (sl_one (sl_if (tt_not (tt_val (pl_call (ok__law_pair_good t) tk (hr.mono (by decide)) (by rfl) t.m__law_pair_good t.F__law_pair_good.kp t.b__law_pair_good (pl_cons (pl_ix hr.units (pl_var 3) (pl_var 17)) (pl_cons (pl_ix hr.units (pl_var 4) (pl_var 17)) (pl_cons (pl_var 11) (pl_cons (pl_var 12) (pl_cons (pl_var 7) pl_nil))))))))
  (sl_one (sl_ret pl_bl))
  sl_nil)))
  (sl_cons (sl_if (tt_w (tw_and (tt_cp (c_eq hr.units) (pl_mod (pl_fdiv (pl_var 15) pl_int) pl_int) pl_int) (tw_and1 (tt_not (tt_val (pl_call (ok__law_listed t) tk (hr.mono (by decide)) (by rfl) t.m__law_listed t.F__law_listed.kp t.b__law_listed (pl_cons (pl_ix hr.units (pl_var 3) (pl_var 9)) (pl_cons (pl_ix hr.units (pl_var 4) (pl_var 9)) (pl_cons (pl_var 5) (pl_cons (pl_var 15) pl_nil))))))))))
  (sl_one (sl_ret pl_bl))
  sl_nil)
  (sl_one (sl_set 6 sc_law.nd (pl_add (pl_var 6) (pl_lc (own := [("_law_some", 18)]) rfl sc_law.nd (il_val (pl_sl (pl_var 5) (pl_po (pl_bi cr_lenU cl_len (by rfl) t.z_len (by decide +kernel) (pl_cons (pl_var 6) pl_nil))) pl_ponone)) (blkOk_by (N := ["_law_script", "_law_coins", "_law_base", "_law_both", "_law_told_here", "_law_held", "_law_kept", "_law_day", "_law_k", "_law_side", "_law_most", "_law_one", "_law_other", "_law_row", "_law_due_here", "_law_turn", "_law_good", "_law_which", "_law_some"]) (sc := (defScope s_law)) (by decide +kernel)) (fun _ _ _ _ _ => (gc_name 18 sc_law.nd (by decide))) (fun _ _ _ _ _ => pt_yes) (fun _ _ _ _ _ => (pl_bty call_list_of cl_list (by rfl) t.z_list (by decide +kernel) (pl_cons (pl_var 18) pl_nil)))))))))))))))))))))))
  (sl_one (sl_ret (pl_and (pl_call (ok__law_end_good t) tk (hr.mono (by decide)) (by rfl) t.m__law_end_good t.F__law_end_good.kp t.b__law_end_good (pl_cons (pl_var 3) (pl_cons (pl_var 4) (pl_cons (pl_var 1) (pl_cons (pl_var 7) pl_nil))))) (pl_one (pl_cp (c_eq hr.units) (pl_var 5) (pl_var 6))))))))))))))
end
end K09


set_option Elab.async false
set_option linter.all false
set_option maxRecDepth 100000
set_option maxHeartbeats 4000000
namespace K09
open PySem PySem.Spec PyProof.Rows L2 LL
abbrev code_HouseError : Nat := 0
abbrev code_BadDay : Nat := 1
abbrev code_BadCurrency : Nat := 2
abbrev code_BadRate : Nat := 3
abbrev code_NoRate : Nat := 4
theorem is_whole_i (i : Int) (S : Sto) : f_is_whole [.int i] S = .ok (.bl true) S := by
  simp [f_is_whole, e_fn, g_is_whole, e_ret, e_and, e_bi, e_cons, e_nil, e_not, gc_low0]
theorem is_whole_s (i : Str) (S : Sto) : f_is_whole [.str i] S = .ok (.bl false) S := by
  simp [f_is_whole, e_fn, g_is_whole, e_ret, e_and, e_bi, e_cons, e_nil, e_not, gc_low0]
theorem is_whole_b (i : Bool) (S : Sto) : f_is_whole [.bl i] S = .ok (.bl false) S := by
  simp [f_is_whole, e_fn, g_is_whole, e_ret, e_and, e_bi, e_cons, e_nil, e_not, gc_low0]
theorem is_whole_n (S : Sto) : f_is_whole [.non] S = .ok (.bl false) S := by
  simp [f_is_whole, e_fn, g_is_whole, e_ret, e_and, e_bi, e_cons, e_nil, e_not, gc_low0]
theorem is_whole_t (xs : List LV) (S : Sto) : f_is_whole [.tup xs] S = .ok (.bl false) S := by
  simp [f_is_whole, e_fn, g_is_whole, e_ret, e_and, e_bi, e_cons, e_nil, e_not, gc_low0]
theorem is_whole_l {n : Nat} {xs : List LV} {S : Sto} (h : S[n]? = some (.lst xs)) : f_is_whole [.ref n] S = .ok (.bl false) S := by
  simp [f_is_whole, e_fn, g_is_whole, e_ret, e_and, e_bi, e_cons, e_nil, e_not, gc_low0, isiL, kindL, h]
theorem is_whole_d {n : Nat} {xs} {S : Sto} (h : S[n]? = some (.dct xs)) : f_is_whole [.ref n] S = .ok (.bl false) S := by
  simp [f_is_whole, e_fn, g_is_whole, e_ret, e_and, e_bi, e_cons, e_nil, e_not, gc_low0, isiL, kindL, h]
theorem is_whole_k {v : LV} {S : Sto} {k : String} (nx : isX v = false) (h : kindL v S = some k) : f_is_whole [v] S = .ok (.bl (decide (k = "int"))) S := by
  by_cases h1 : k = "int"
  · subst h1; simp [f_is_whole, e_fn, g_is_whole, e_ret, e_and, e_bi, e_cons, e_nil, e_not, gc_low0, isiL, nx, h]
  · by_cases h2 : k = "bool"
    · subst h2; simp [f_is_whole, e_fn, g_is_whole, e_ret, e_and, e_bi, e_cons, e_nil, e_not, gc_low0, isiL, nx, h]
    · simp [f_is_whole, e_fn, g_is_whole, e_ret, e_and, e_bi, e_cons, e_nil, e_not, gc_low0, isiL, nx, h, isiT, h1, h2]
theorem is_whole_o {v : LV} {S : Sto} (o : Okv S v) (w : wI v = none) : f_is_whole [v] S = .ok (.bl false) S := by
  obtain ⟨nx, k, hk⟩ := o
  rw [is_whole_k nx hk, decide_eq_false]
  intro e
  subst e
  obtain ⟨i, hi⟩ := kind_int hk
  rw [hi] at w
  cases w
theorem is_among_i (i a b : Int) (S : Sto) : f_is_among [.int i, .int a, .int b] S = .ok (.bl (decide (a ≤ i) && decide (i ≤ b))) S := by
  by_cases h : a ≤ i <;> simp [f_is_among, e_fn, g_is_among, e_ret, e_and, e_call, e_cons, e_nil, e_chain, gc_low0, is_whole_i, h]
theorem is_among_x {v : LV} (a b : Int) {S : Sto} (nx : isX v = false) (h : f_is_whole [v] S = .ok (.bl false) S) : f_is_among [v, .int a, .int b] S = .ok (.bl false) S := by
  simp [f_is_among, e_fn, g_is_among, e_ret, e_and, e_call, e_cons, e_nil, gc_low0, nx, h]
theorem is_among_o {v : LV} (a b : Int) {S : Sto} (o : Okv S v) (w : wI v = none) : f_is_among [v, .int a, .int b] S = .ok (.bl false) S := is_among_x a b o.nx (is_whole_o o w)
theorem made_loop (z A : Str) (n : Int) (S : Sto) : ∀ (l : List Nat) (x : Option LV), ∃ x', forL (gNm 3) (lIf (lOp notinL (lVar 3) (lVar 1))
  (lRet (lC (.bl false)))
  lNx) (l.map fun c => .str (one c)) [some (.str z), some (.str A), some (.int n), x] S = if l.all (fun c => decide (c ∈ tl A)) = true then .nx [some (.str z), some (.str A), some (.int n), x'] S else .rt (.bl false) S
  | [], x => ⟨x, by simp [forL]⟩
  | c :: l, x => by
    obtain ⟨x', h⟩ := made_loop z A n S l (some (.str (one c)))
    refine ⟨x', ?_⟩
    rw [List.map_cons, List.all_cons]
    unfold forL
    by_cases hc : c ∈ tl A
    · simp only [gNm, e_if, e_op, e_ret, e_nx, hc, List.set_cons_succ, List.set_cons_zero, e_varS, e_var0, isX_s, op1_ok, op2_ok, nin_ss, inT_1, decide_true, Bool.not_true, if1_f, Bool.true_and]
      exact h
    · simp [gNm, e_if, e_op, e_ret, e_nx, hc]
theorem made_of_e (z A : Str) (n : Int) (hz : z.length ≤ 16777216) (S : Sto) : f_is_made_of [.str z, .str A, .int n] S = .ok (.bl (decide ((z.length : Int) ≤ n) && (tl z).all (fun c => decide (c ∈ tl A)))) S := by
  obtain ⟨x', hl⟩ := made_loop z A n S (tl z) none
  by_cases h : (z.length : Int) ≤ n
  · have h2 : ¬ n < (z.length : Int) := by omega
    simp [f_is_made_of, e_fn, g_is_made_of, b_is_made_of_1, forS_of, e_seq, e_if, e_ret, e_op, e_or, e_not, e_bi, e_cons, e_nil, len_s hz, h, h2, e_nx, e_for, e_iter, signs_tl, -List.all_eq_true]
    rw [hl]
    cases c : (tl z).all (fun c => decide (c ∈ tl A)) <;> simp [gc_low0, e_ret]
  · have h2 : n < (z.length : Int) := by omega
    simp [f_is_made_of, e_fn, g_is_made_of, b_is_made_of_1, forS_of, e_seq, e_if, e_ret, e_op, e_or, e_not, e_bi, e_cons, e_nil, len_s hz, h, h2, e_nx, gc_low0]
theorem made_of_x {v : LV} (A : Str) (n : Int) {S : Sto} (nx : isX v = false) (h : isiL [v, .ty "str"] S = .ok (.bl false) S) : f_is_made_of [v, .str A, .int n] S = .ok (.bl false) S := by
  simp [f_is_made_of, e_fn, g_is_made_of, b_is_made_of_1, forS_of, e_seq, e_if, e_ret, e_op, e_or, e_not, e_bi, e_cons, e_nil, gc_low0, nx, h]
theorem is_day_i (i : Int) (S : Sto) : f_is_day [.int i] S = .ok (.bl (decide (0 ≤ i) && decide (i ≤ 146096))) S := by
  simp [f_is_day, e_fn, g_is_day, e_ret, e_call, e_cons, e_nil, gc_low0, is_among_i]
theorem is_day_x {v : LV} {S : Sto} (nx : isX v = false) (h : f_is_whole [v] S = .ok (.bl false) S) : f_is_day [v] S = .ok (.bl false) S := by
  simp [f_is_day, e_fn, g_is_day, e_ret, e_call, e_cons, e_nil, gc_low0, is_among_x _ _ nx h, nx]
abbrev greatT : Str := ("ABCDEFGHIJKLMNOPQRSTUVWXYZ" : Str)
def isCur (a : List Nat) : Bool := (decide (a.length ≤ 3) && a.all (fun c => decide (c ∈ tl greatT))) && decide (a.length = 3)
theorem is_currency_s (z : Str) (hz : z.length ≤ 16777216) (S : Sto) : f_is_currency [.str z] S = .ok (.bl (isCur (tl z))) S := by
  have e3 : decide ((z.length : Int) ≤ 3) = decide ((tl z).length ≤ 3) := by rw [len_tl]; exact decide_eq_decide.mpr (by omega)
  have e4 : decide ((z.length : Int) = 3) = decide ((tl z).length = 3) := by rw [len_tl]; exact decide_eq_decide.mpr (by omega)
  simp [f_is_currency, e_fn, g_is_currency, e_ret, e_and, e_call, e_cons, e_nil, made_of_e z _ _ hz, e3, -List.all_eq_true, -decide_eq_true_eq]
  cases h : (decide ((tl z).length ≤ 3) && (tl z).all (fun c => decide (c ∈ tl greatT))) with
  | false => simp [isCur, h, gc_low0, -List.all_eq_true]
  | true => simp [isCur, h, gc_low0, e_op, e_bi, e_cons, e_nil, len_s hz, e4, -List.all_eq_true]
theorem is_currency_o {v : LV} {S : Sto} (o : Okv S v) (w : wS v = none) : f_is_currency [v] S = .ok (.bl false) S := by
  simp [f_is_currency, e_fn, g_is_currency, e_ret, e_and, e_call, e_cons, e_nil, made_of_x _ _ o.nx (isi_str o w), gc_low0, o.nx]
theorem cell_at_e (ns : List Int) (k : Int) (hk : 0 ≤ k) (S : Sto) : f__law_cell_at [.scr ns, .int k] S = .ok (.int (cell ns k)) S := by
  by_cases h : k < ns.length
  · simp [f__law_cell_at, e_fn, g__law_cell_at, e_seq, e_if, e_ret, e_op, e_bi, e_cons, e_nil, gc_low0, h, ix_c hk h]
  · simp [f__law_cell_at, e_fn, g__law_cell_at, e_seq, e_if, e_ret, e_op, e_bi, e_cons, e_nil, gc_low0, h, e_nx, cell]
    rw [List.getElem?_eq_none (by omega)]
    rfl
end K09


set_option Elab.async false
set_option linter.all false
set_option maxRecDepth 100000
set_option maxHeartbeats 4000000
namespace K09
open PySem PySem.Spec PyProof.Rows L2 LL
/-! ### dicts of records by a text -/
section
variable {α : Type}
def recD (k : α → Str) (f : α → LV) (B : List α) : List (Key × LV) := B.map fun b => (.inr (k b), f b)
def lookR (k : α → Str) (B : List α) (z : Str) : Option α := B.find? fun b => decide (k b = z)
theorem recD_get (k : α → Str) (f : α → LV) (B : List α) (z : Str) : getK (recD k f B) (.inr z) = (lookR k B z).map f := by
  unfold getK recD lookR
  induction B with
  | nil => rfl
  | cons a B ih =>
    rw [List.map_cons, List.find?_cons, List.find?_cons]
    by_cases h : k a = z
    · simp [h]
    · have : ¬ (Sum.inr (k a) : Key) = Sum.inr z := fun e => h (by injection e)
      simp only [decide_eq_false h, decide_eq_false this]
      exact ih
theorem recD_any (k : α → Str) (f : α → LV) (B : List α) (z : Str) : ((recD k f B).any fun kv => decide (kv.1 = (.inr z : Key))) = (lookR k B z).isSome := by
  unfold recD lookR
  rw [List.any_map, List.isSome_find?]
  congr 1
  funext a
  by_cases h : k a = z
  · simp [h]
  · have : ¬ (Sum.inr (k a) : Key) = Sum.inr z := fun e => h (by injection e)
    simp [h, this]
theorem recD_new (k : α → Str) (f : α → LV) {B : List α} {a : α} (h : lookR k B (k a) = none) : putL (recD k f B) (.inr (k a)) (f a) = recD k f (B ++ [a]) := by
  unfold putL
  rw [recD_any, h]
  simp [recD]
theorem recD_len (k : α → Str) (f : α → LV) (B : List α) : (recD k f B).length = B.length := by unfold recD; rw [List.length_map]
theorem strK_recD (k : α → Str) (f : α → LV) : ∀ B : List α, strK (recD k f B) = some (B.map k)
  | [] => rfl
  | a :: B => by
    have := strK_recD k f B
    unfold recD at this ⊢
    rw [List.map_cons]
    unfold strK
    rw [this]
    rfl
theorem low_recD {n : Nat} (k : α → Str) (f : α → LV) {B : List α} (h : ∀ a ∈ B, lowV n (f a) = true) : lowO n (.dct (recD k f B)) = true := lows_all.mpr fun v hv => by
  obtain ⟨p, hp, rfl⟩ := List.mem_map.mp hv
  obtain ⟨a, ha, rfl⟩ := List.mem_map.mp hp
  exact h a ha
theorem lookR_mem {k : α → Str} {B : List α} {z : Str} {a : α} (h : lookR k B z = some a) : a ∈ B ∧ k a = z := ⟨List.mem_of_find?_eq_some h, of_decide_eq_true (List.find?_some (p := fun a : α => decide (k a = z)) h)⟩
theorem lookR_none {k : α → Str} {B : List α} {z : Str} : lookR k B z = none ↔ z ∉ B.map k := by
  unfold lookR
  rw [List.find?_eq_none]
  constructor
  · intro h m
    obtain ⟨a, ha, e⟩ := List.mem_map.mp m
    exact h a ha (decide_eq_true e)
  · intro h a ha e
    exact h (List.mem_map.mpr ⟨a, ha, of_decide_eq_true e⟩)
theorem lookR_some {k : α → Str} {B : List α} {z : Str} (h : z ∈ B.map k) : ∃ a, lookR k B z = some a := by
  cases q : lookR k B z with
  | some b => exact ⟨b, rfl⟩
  | none => exact absurd h (lookR_none.mp q)
theorem lookR_self {k : α → Str} {B : List α} (nd : (B.map k).Nodup) {b : α} (h : b ∈ B) : lookR k B (k b) = some b := by
  induction B with
  | nil => cases h
  | cons a B ih =>
    unfold lookR
    rw [List.find?_cons]
    rw [List.map_cons, List.nodup_cons] at nd
    rcases List.mem_cons.mp h with rfl | h
    · simp
    · have : ¬ k a = k b := fun e => nd.1 (by rw [e]; exact List.mem_map.mpr ⟨b, h, rfl⟩)
      rw [decide_eq_false this]
      exact ih nd.2 h
theorem ix_rec {S : Sto} {n : Nat} {k : α → Str} {f : α → LV} {B : List α} {z : Str} {a : α} (h : S[n]? = some (.dct (recD k f B))) (ha : lookR k B z = some a) : ixL (.ref n) (.str z) S = .ok (f a) S := by
  have hg : getK (recD k f B) (.inr z) = some (f a) := by rw [recD_get, ha]; rfl
  simp [ixL, ixO, h, getOv, dKs, show keyL (.str z) = some (.inr z) from rfl, hg]
theorem in_rec {S : Sto} {n : Nat} {k : α → Str} {f : α → LV} {B : List α} {z : Str} (h : S[n]? = some (.dct (recD k f B))) : inL (.str z) (.ref n) S = .ok (.bl (lookR k B z).isSome) S := by
  rw [in_d h (k := .inr z) rfl, recD_get, Option.isSome_map]
theorem nin_rec {S : Sto} {n : Nat} {k : α → Str} {f : α → LV} {B : List α} {z : Str} (h : S[n]? = some (.dct (recD k f B))) : notinL (.str z) (.ref n) S = .ok (.bl !(lookR k B z).isSome) S := by
  rw [nin_d h (k := .inr z) rfl, recD_get, Option.isSome_map]
theorem put_rec {S : Sto} {n : Nat} {k : α → Str} {f : α → LV} {B : List α} {a : α} (h : S[n]? = some (.dct (recD k f B))) (ha : lookR k B (k a) = none) (hl : B.length < 16777216) : putO (.ref n) (.str (k a)) (f a) S = some (S.set n (.dct (recD k f (B ++ [a])))) := by
  rw [put_d (k := .inr (k a)) h rfl (by rw [recD_len]; exact hl), recD_new k f ha]
theorem sorted_rec {S : Sto} {n : Nat} {k : α → Str} {f : α → LV} {B : List α} (h : S[n]? = some (.dct (recD k f B))) (hl : B.length < 64) : sortedDL [.ref n] S = .ok (.lst ((sortS (B.map k)).map .str)) S := by
  show sortedDG false [.ref n] S = _
  rw [sortedD_ok h (strK_recD k f B) (by rw [List.length_map]; exact hl)]
  rfl
end
/-! ### a list of lists that are kept gets one more -/
theorem gc_app {S U : Sto} {h : Nat} {held : List LV} {x y v : LV} (hh : S[h]? = some (.lst held)) (low : lowVs S.length held = true) (hx : lowV S.length x = false) (hf : frzV (S.set h (.lst (held ++ [x])) ++ U) S.length (S.set h (.lst (held ++ [x])) ++ U).length 60 x = some y) (lv : lowV S.length v = true) :
    gcF S (.ok v (S.set h (.lst (held ++ [x])) ++ U)) = .ok v (S.set h (.lst (held ++ [y]))) := by
  refine gcF_set (get_lt hh) (.inl fun e => ?_) ?_ lv
  · rw [hh] at e
    have := congrArg (fun o : Option LO => match o with | some (.lst xs) => xs.length | _ => 0) e
    simp at this
  · have nl : lowO S.length (.lst (held ++ [x])) = false := by
      rw [Bool.eq_false_iff]
      intro z
      have := lows_all.mp z x (List.mem_append_right _ (List.mem_singleton.mpr rfl))
      rw [hx] at this
      cases this
    unfold frzO
    rw [if_neg (by rw [nl]; simp)]
    have : seqO ((valsO (.lst (held ++ [x]))).map (frzV (S.set h (.lst (held ++ [x])) ++ U) S.length (S.set h (.lst (held ++ [x])) ++ U).length 60)) = some (held ++ [y]) := by
      show seqO (List.map _ (held ++ [x])) = _
      rw [List.map_append]
      refine seqO_app (frzs_low low) ?_
      rw [List.map_cons, List.map_nil, hf]
      rfl
    rw [this]
    rfl
/-- .. a pair of a young list and a value -/
theorem gc_held {S U : Sto} {h k : Nat} {held L : List LV} {w v : LV} (hh : S[h]? = some (.lst held)) (low : lowVs S.length held = true) (hk : U[k]? = some (.lst L)) (lL : lowVs S.length L = true) (lw : lowV S.length w = true) (lv : lowV S.length v = true) :
    gcF S (.ok v (S.set h (.lst (held ++ [.lst [.ref (S.length + k), w]])) ++ U)) = .ok v (S.set h (.lst (held ++ [.lst [.lst L, w]]))) := by
  have kl := (List.getElem?_eq_some_iff.mp hk).1
  have hk2 : ∀ o, (S.set h o ++ U)[S.length + k]? = some (.lst L) := fun o => by
    rw [List.getElem?_append_right (by simp)]
    simpa using hk
  refine gc_app hh low ?_ ?_ lv
  · show lowVs S.length [.ref (S.length + k), w] = false
    simp
    intro q
    omega
  · generalize held ++ [LV.lst [.ref (S.length + k), w]] = H at *
    have e1 : frzV (S.set h (.lst H) ++ U) S.length (S.set h (.lst H) ++ U).length 59 (.ref (S.length + k)) = some (.lst L) := by
      unfold frzV
      rw [if_neg (by simp)]
      simp only
      rw [if_neg (by simp; omega), hk2]
      simp only
      rw [frzs_low lL]
    unfold frzV
    rw [if_neg (by simp; intro q; omega)]
    simp only [List.map_cons, List.map_nil]
    rw [e1, frz_low lw]
    rfl
/-! ### what was caught -/
theorem hitA_c {a : Nat} {b : Bool} {l : List (Nat × Bool)} {d : Nat} : hitA ((a, b) :: l) d = if a = d then some b else hitA l d := (rfl)
def isE1 (S : Sto) : Option Bool → R
  | some k => .ok (.bl k) S
  | none => .no
theorem isE_h {l : List (Nat × Bool)} {c : Nat} {fs : List LV} {ds : Sl} {S : Sto} : lIsE 0 (hitA l) (some (.exc c fs) :: ds) S = isE1 S (hitA l c) := by
  unfold isE1
  cases h : hitA l c with
  | none => simp [lIsE, h]
  | some k => exact isE_0 h
@[simp] theorem isE1_s {S : Sto} {k : Bool} : isE1 S (some k) = .ok (.bl k) S := (rfl)
def tryK1 (i : Nat) (b : LS) (c : Nat) (ds : Sl) (S : Sto) : Option Bool → RS
  | some true => aftI i (b (ds.set i (some (.exc c []))) S)
  | some false => .ex c [] ds S
  | none => .no
theorem tryK_h {i : Nat} {l : List (Nat × Bool)} {b : LS} {c : Nat} {ds : Sl} {S : Sto} : tryK i (hitA l) b (.ex c [] ds S) = tryK1 i b c ds S (hitA l c) := by
  unfold tryK tryK1
  simp only
  all_goals (cases hitA l c <;> first | rfl | (rename_i k; cases k <;> rfl))
@[simp] theorem tryK1_t {i : Nat} {b : LS} {c : Nat} {ds : Sl} {S : Sto} : tryK1 i b c ds S (some true) = aftI i (b (ds.set i (some (.exc c []))) S) := (rfl)
@[simp] theorem tryK1_f {i : Nat} {b : LS} {c : Nat} {ds : Sl} {S : Sto} : tryK1 i b c ds S (some false) = .ex c [] ds S := (rfl)
theorem nodup_le {κ : Type} [DecidableEq κ] : ∀ (l cs : List κ), l.Nodup → (∀ x ∈ l, x ∈ cs) → l.length ≤ cs.length
  | [], _, _, _ => Nat.zero_le _
  | x :: l, cs, nd, h => by
    obtain ⟨n1, n2⟩ := List.nodup_cons.mp nd
    have xm := h x List.mem_cons_self
    have := nodup_le l (cs.erase x) n2 fun y hy => (List.mem_erase_of_ne (fun e : y = x => n1 (by rw [← e]; exact hy))).mpr (h y (List.mem_cons_of_mem _ hy))
    have hl := List.length_erase_of_mem xm
    have := List.length_pos_of_mem xm
    rw [List.length_cons]
    omega

/-! ### quotes: what they are, the newest one -/
structure Qt where
  day : Int
  a : Str
  p : Int
  b : Str
  q : Int
def Qt.lv (x : Qt) : LV := .tup [.int x.day, .str x.a, .int x.p, .str x.b, .int x.q]
structure Qt.Ok (x : Qt) : Prop where
  d0 : 0 ≤ x.day
  d1 : x.day ≤ 146096
  ca : isCur (tl x.a) = true
  cb : isCur (tl x.b) = true
  ne : x.a ≠ x.b
  p0 : 1 ≤ x.p
  p1 : x.p ≤ 1000000000
  q0 : 1 ≤ x.q
  q1 : x.q ≤ 1000000000
abbrev Dq := Int × Int × Int
def dvQ (e : Dq) : LV := .tup [.int e.2.1, .int e.2.2]
def optQ : Option Dq → LV
  | none => .non
  | some e => dvQ e
def swQ (e : Dq) : Dq := (e.1, e.2.2, e.2.1)
/-- what a quote says of two -/
def Qt.of (x : Qt) (a b : Str) : Option Dq := if x.a = a ∧ x.b = b then some (x.day, x.p, x.q) else if x.a = b ∧ x.b = a then some (x.day, x.q, x.p) else none
def beats (best : Option Dq) (d : Int) : Prop := ∀ e, best = some e → e.1 ≤ d
def orQ : Option Dq → Option Dq → Option Dq
  | some e, _ => some e
  | none, o => o
noncomputable def stepQ (a b : Str) (day : Int) (best : Option Dq) (x : Qt) : Option Dq :=
  open Classical in if x.day ≤ day ∧ beats best x.day then orQ (x.of a b) best else best
noncomputable def newD (Q : List Qt) (a b : Str) (day : Int) : Option Dq := Q.foldl (stepQ a b day) none
theorem newD_snoc (Q : List Qt) (x : Qt) (a b : Str) (day : Int) : newD (Q ++ [x]) a b day = stepQ a b day (newD Q a b day) x := by
  unfold newD
  rw [List.foldl_append]
  rfl
theorem of_day {x : Qt} {a b : Str} {e : Dq} (h : x.of a b = some e) : e.1 = x.day := by
  unfold Qt.of at h
  split at h
  · cases h; rfl
  · split at h
    · cases h; rfl
    · cases h
theorem of_swap (x : Qt) {a b : Str} (h : a ≠ b) : x.of b a = (x.of a b).map swQ := by
  unfold Qt.of
  by_cases h1 : x.a = a ∧ x.b = b
  · have h2 : ¬ (x.a = b ∧ x.b = a) := fun h2 => h (h1.1.symm.trans h2.1)
    rw [if_pos h1, if_neg h2, if_pos h1]
    rfl
  · by_cases h2 : x.a = b ∧ x.b = a
    · rw [if_pos h2, if_neg h1, if_pos h2]
      rfl
    · rw [if_neg h2, if_neg h1, if_neg h1, if_neg h2]
      rfl
theorem of_same {x : Qt} (h : x.a ≠ x.b) (a : Str) : x.of a a = none := by
  unfold Qt.of
  have : ¬ (x.a = a ∧ x.b = a) := fun k => h (k.1.trans k.2.symm)
  rw [if_neg this, if_neg this]
theorem newD_swap (a b : Str) (h : a ≠ b) (day : Int) : ∀ (Q : List Qt) (o : Option Dq), Q.foldl (stepQ b a day) (o.map swQ) = (Q.foldl (stepQ a b day) o).map swQ
  | [], o => rfl
  | x :: Q, o => by
    rw [List.foldl_cons, List.foldl_cons, ← newD_swap a b h day Q]
    congr 1
    unfold stepQ
    have e : beats (o.map swQ) x.day ↔ beats o x.day := by
      cases o with
      | none => exact ⟨fun _ _ k => (by cases k), fun _ _ k => (by cases k)⟩
      | some e =>
        constructor
        · intro k f z
          cases z
          exact k (swQ e) rfl
        · intro k f z
          cases z
          exact k e rfl
    by_cases c : x.day ≤ day ∧ beats o x.day
    · rw [if_pos c, if_pos ⟨c.1, e.mpr c.2⟩, of_swap x h]
      cases x.of a b <;> rfl
    · rw [if_neg c, if_neg fun k => c ⟨k.1, e.mp k.2⟩]
theorem newD_sw (Q : List Qt) {a b : Str} (h : a ≠ b) (day : Int) : newD Q b a day = (newD Q a b day).map swQ := newD_swap a b h day Q none
theorem newD_none {Q : List Qt} {a b : Str} (h : ∀ x ∈ Q, x.of a b = none) (day : Int) : newD Q a b day = none := by
  have : ∀ (Q : List Qt), (∀ x ∈ Q, x.of a b = none) → Q.foldl (stepQ a b day) none = none := fun Q => by
    induction Q with
    | nil => exact fun _ => rfl
    | cons x Q ih =>
      intro h
      rw [List.foldl_cons]
      have e : stepQ a b day none x = none := by
        unfold stepQ
        rw [h x (List.mem_cons_self ..)]
        split <;> rfl
      rw [e]
      exact ih fun y hy => h y (List.mem_cons_of_mem _ hy)
  exact this Q h
theorem newD_self {Q : List Qt} (h : ∀ x ∈ Q, x.a ≠ x.b) (a : Str) (day : Int) : newD Q a a day = none := newD_none (fun x hx => of_same (h x hx) a) day
/-- what is told stems from a quote -/
theorem newD_from {Q : List Qt} {a b : Str} {day : Int} {e : Dq} (h : newD Q a b day = some e) : ∃ x ∈ Q, x.of a b = some e := by
  have : ∀ (Q : List Qt) (o : Option Dq), Q.foldl (stepQ a b day) o = some e → o = some e ∨ ∃ x ∈ Q, x.of a b = some e := fun Q => by
    induction Q with
    | nil => exact fun o h => .inl h
    | cons x Q ih =>
      intro o h
      rw [List.foldl_cons] at h
      rcases ih _ h with k | ⟨y, hy, k⟩
      · unfold stepQ at k
        split at k
        · cases c : x.of a b with
          | none => rw [c] at k; exact .inl k
          | some f => rw [c] at k; exact .inr ⟨x, List.mem_cons_self .., by rw [c]; exact k⟩
        · exact .inl k
      · exact .inr ⟨y, List.mem_cons_of_mem _ hy, k⟩
  rcases this Q none h with k | k
  · cases k
  · exact k
/-! days and coins -/
def IsPick (L : List Dq) (day : Int) : Option Dq → Prop
  | none => ∀ e ∈ L, day < e.1
  | some e => e ∈ L ∧ e.1 ≤ day ∧ ∀ f ∈ L, f.1 ≤ day → f.1 ≤ e.1
def dayD (L : List Dq) : List (Key × LV) := L.map fun e => (.inl e.1, dvQ e)
def putD (L : List Dq) (e : Dq) : List Dq := if (L.any fun f => decide (f.1 = e.1)) = true then L.map (fun f => if f.1 = e.1 then e else f) else L ++ [e]
theorem mem_putD {L : List Dq} {e f : Dq} : f ∈ putD L e ↔ f = e ∨ (f ∈ L ∧ f.1 ≠ e.1) := by
  unfold putD
  split
  · rename_i c
    rw [List.any_eq_true] at c
    obtain ⟨g, hg, hge⟩ := c
    have hge := of_decide_eq_true hge
    rw [List.mem_map]
    constructor
    · rintro ⟨u, hu, rfl⟩
      by_cases k : u.1 = e.1
      · rw [if_pos k]; exact .inl rfl
      · rw [if_neg k]; exact .inr ⟨hu, k⟩
    · rintro (rfl | ⟨h1, h2⟩)
      · exact ⟨g, hg, by rw [if_pos hge]⟩
      · exact ⟨f, h1, by rw [if_neg h2]⟩
  · rename_i c
    rw [List.any_eq_true] at c
    rw [List.mem_append, List.mem_singleton]
    constructor
    · rintro (h | h)
      · exact .inr ⟨h, fun k => c ⟨f, h, decide_eq_true k⟩⟩
      · exact .inl h
    · rintro (h | h)
      · exact .inr h
      · exact .inl h.1
theorem nd_putD {L : List Dq} {e : Dq} (h : (L.map Prod.fst).Nodup) : ((putD L e).map Prod.fst).Nodup := by
  unfold putD
  split
  · have : (L.map fun f => if f.1 = e.1 then e else f).map Prod.fst = L.map Prod.fst := by
      rw [List.map_map]
      refine List.map_congr_left fun f hf => ?_
      show (if f.1 = e.1 then e else f).1 = f.1
      split
      · rename_i k; exact k.symm
      · rfl
    rw [this]
    exact h
  · rename_i c
    rw [List.any_eq_true] at c
    rw [List.map_append, List.nodup_append]
    refine ⟨h, by simp, fun u hu v hv => ?_⟩
    obtain ⟨f, hf, rfl⟩ := List.mem_map.mp hu
    rw [List.map_cons, List.map_nil, List.mem_singleton] at hv
    subst hv
    exact fun k => c ⟨f, hf, decide_eq_true k⟩
theorem len_putD (L : List Dq) (e : Dq) : (putD L e).length ≤ L.length + 1 := by
  unfold putD
  split <;> simp
theorem put_dayD (L : List Dq) (e : Dq) : putL (dayD L) (.inl e.1) (dvQ e) = dayD (putD L e) := by
  have a : ((dayD L).any fun kv => decide (kv.1 = (.inl e.1 : Key))) = L.any fun f => decide (f.1 = e.1) := by
    unfold dayD
    rw [List.any_map]
    congr 1
    funext f
    show decide ((Sum.inl f.1 : Key) = .inl e.1) = _
    by_cases k : f.1 = e.1
    · rw [k]; simp
    · rw [decide_eq_false k, decide_eq_false fun z => k (Sum.inl.inj z)]
  unfold putL putD
  rw [a]
  split
  · unfold dayD
    rw [List.map_map, List.map_map]
    refine List.map_congr_left fun f hf => ?_
    show (if (Sum.inl f.1 : Key) = .inl e.1 then ((Sum.inl f.1 : Key), dvQ e) else (Sum.inl f.1, dvQ f)) = _
    by_cases k : f.1 = e.1
    · rw [if_pos (by rw [k])]
      show _ = ((Sum.inl (if f.1 = e.1 then e else f).1 : Key), dvQ (if f.1 = e.1 then e else f))
      rw [if_pos k, k]
    · rw [if_neg fun z => k (Sum.inl.inj z)]
      show _ = ((Sum.inl (if f.1 = e.1 then e else f).1 : Key), dvQ (if f.1 = e.1 then e else f))
      rw [if_neg k]
  · unfold dayD
    rw [List.map_append]
    rfl
theorem get_dayD {L : List Dq} (nd : (L.map Prod.fst).Nodup) {e : Dq} (h : e ∈ L) : getK (dayD L) (.inl e.1) = some (dvQ e) := by
  induction L with
  | nil => cases h
  | cons f L ih =>
    rw [List.map_cons, List.nodup_cons] at nd
    unfold getK dayD
    rw [List.map_cons, List.find?_cons]
    by_cases k : f.1 = e.1
    · have : e = f := by
        rcases List.mem_cons.mp h with q | q
        · exact q
        · exact absurd (List.mem_map.mpr ⟨e, q, k.symm⟩) nd.1
      subst this
      simp
    · rw [show decide ((Sum.inl f.1 : Key) = .inl e.1) = false from decide_eq_false fun z => k (Sum.inl.inj z)]
      rcases List.mem_cons.mp h with q | q
      · exact absurd (by rw [q]) k
      · exact ih nd.2 q
theorem pick_put {L : List Dq} {day : Int} {o : Option Dq} (h : IsPick L day o) (e : Dq) : (e.1 ≤ day ∧ beats o e.1 → IsPick (putD L e) day (some e)) ∧ (¬ (e.1 ≤ day ∧ beats o e.1) → IsPick (putD L e) day o) := by
  refine ⟨fun c => ⟨mem_putD.mpr (.inl rfl), c.1, fun f hf fd => ?_⟩, fun c => ?_⟩
  · rcases mem_putD.mp hf with rfl | ⟨h1, h2⟩
    · exact Int.le_refl _
    · cases o with
      | none => exact absurd (h f h1) (by omega)
      | some g =>
        have := h.2.2 f h1 fd
        have := c.2 g rfl
        omega
  · cases o with
    | none =>
      have ce : day < e.1 := by
        by_cases q : e.1 ≤ day
        · exact absurd ⟨q, fun _ z => by cases z⟩ c
        · omega
      intro f hf
      rcases mem_putD.mp hf with rfl | ⟨h1, h2⟩
      · exact ce
      · exact h f h1
    | some g =>
      have gd := h.2.1
      have ce : day < e.1 ∨ g.1 < e.1 ∨ e.1 < g.1 := by
        by_cases q : e.1 ≤ day
        · by_cases q2 : g.1 ≤ e.1
          · exact absurd ⟨q, fun _ z => by cases z; exact q2⟩ c
          · omega
        · omega
      have ce2 : day < e.1 ∨ e.1 < g.1 := by
        by_cases q : e.1 ≤ day
        · by_cases q2 : g.1 ≤ e.1
          · exact absurd ⟨q, fun _ z => by cases z; exact q2⟩ c
          · omega
        · omega
      refine ⟨mem_putD.mpr (.inr ⟨h.1, by omega⟩), gd, fun f hf fd => ?_⟩
      rcases mem_putD.mp hf with rfl | ⟨h1, h2⟩
      · omega
      · exact h.2.2 f h1 fd
/-- the days and coins of two, by all quotes -/
structure DaysQ (L : List Dq) (Q : List Qt) (a b : Str) : Prop where
  nd : (L.map Prod.fst).Nodup
  pick : ∀ day, IsPick L day (newD Q a b day)
  len : L.length ≤ Q.length
theorem DaysQ.add {L : List Dq} {Q : List Qt} {a b : Str} (h : DaysQ L Q a b) {x : Qt} {e : Dq} (he : x.of a b = some e) : DaysQ (putD L e) (Q ++ [x]) a b where
  nd := nd_putD h.nd
  pick := fun day => by
    rw [newD_snoc]
    unfold stepQ
    rw [he, ← of_day he]
    obtain ⟨h1, h2⟩ := pick_put (h.pick day) e
    split
    · rename_i c; exact h1 c
    · rename_i c; exact h2 c
  len := by
    have := len_putD L e
    have := h.len
    rw [List.length_append, List.length_singleton]
    omega
theorem DaysQ.skip {L : List Dq} {Q : List Qt} {a b : Str} (h : DaysQ L Q a b) {x : Qt} (he : x.of a b = none) : DaysQ L (Q ++ [x]) a b where
  nd := h.nd
  pick := fun day => by
    rw [newD_snoc]
    unfold stepQ
    rw [he]
    have := h.pick day
    split <;> exact this
  len := by
    have := h.len
    rw [List.length_append]
    omega
theorem DaysQ.new {Q : List Qt} {a b : Str} (h : ∀ x ∈ Q, x.of a b = none) : DaysQ [] Q a b where
  nd := List.nodup_nil
  pick := fun day => by
    rw [newD_none h]
    exact fun e he => by cases he
  len := Nat.zero_le _
theorem nd_putL {κ : Type} [DecidableEq κ] {kvs : List (κ × LV)} {k : κ} {v : LV} (h : (kvs.map (·.1)).Nodup) : ((putL kvs k v).map (·.1)).Nodup := by
  unfold putL
  split
  · have : (kvs.map fun kv => if kv.1 = k then (kv.1, v) else kv).map (·.1) = kvs.map (·.1) := by
      rw [List.map_map]
      refine List.map_congr_left fun f hf => ?_
      show (if f.1 = k then (f.1, v) else f).1 = f.1
      split <;> rfl
    rw [this]
    exact h
  · rename_i c
    rw [List.any_eq_true] at c
    rw [List.map_append, List.nodup_append]
    refine ⟨h, by simp, fun u hu w hw => ?_⟩
    obtain ⟨f, hf, rfl⟩ := List.mem_map.mp hu
    rw [List.map_cons, List.map_nil, List.mem_singleton] at hw
    subst hw
    exact fun q => c ⟨f, hf, decide_eq_true q⟩
theorem getK_nd {κ : Type} [DecidableEq κ] : ∀ {kvs : List (κ × LV)}, (kvs.map (·.1)).Nodup → ∀ {k : κ} {v : LV}, (k, v) ∈ kvs → getK kvs k = some v
  | [], _, k, v, h => by cases h
  | f :: kvs, nd, k, v, h => by
    rw [List.map_cons, List.nodup_cons] at nd
    unfold getK
    rw [List.find?_cons]
    by_cases q : f.1 = k
    · rw [decide_eq_true q]
      rcases List.mem_cons.mp h with z | z
      · rw [← z]; rfl
      · exact absurd (List.mem_map.mpr ⟨(k, v), z, q.symm⟩) nd.1
    · rw [decide_eq_false q]
      rcases List.mem_cons.mp h with z | z
      · exact absurd (by rw [← z]) q
      · exact getK_nd nd.2 z
structure Rts (S : Sto) (r k : Nat) (tvs : List (List Key × LV)) (Q : List Qt) : Prop where
  ins : S[r]? = some (.ins 100 [.ref k])
  tab : S[k]? = some (.dcT tvs)
  len : tvs.length ≤ Q.length
  nd : (tvs.map (·.1)).Nodup
  key : ∀ kv ∈ tvs, ∃ a b n, kv = ([.inr a, .inr b], .ref n) ∧ sLt a b = true ∧ ∃ x ∈ Q, (x.of a b).isSome = true
  non : ∀ a b, getK tvs [.inr a, .inr b] = none → sLt b a = false → ∀ x ∈ Q, x.of a b = none
  day : ∀ a b n, getK tvs [.inr a, .inr b] = some (.ref n) → ∃ L, S[n]? = some (.dct (dayD L)) ∧ DaysQ L Q a b
  inj : ∀ a b c d n, getK tvs [.inr a, .inr b] = some (.ref n) → getK tvs [.inr c, .inr d] = some (.ref n) → a = c ∧ b = d
theorem Rts.mono {S S' : Sto} {r k : Nat} {tvs : List (List Key × LV)} {Q : List Qt} (h : Rts S r k tvs Q) (e : ∀ (n : Nat) (o : LO), S[n]? = some o → S'[n]? = some o) : Rts S' r k tvs Q where
  ins := e _ _ h.ins
  tab := e _ _ h.tab
  len := h.len
  nd := h.nd
  key := h.key
  non := h.non
  day := fun a b n g => by
    obtain ⟨L, h1, h2⟩ := h.day a b n g
    exact ⟨L, e _ _ h1, h2⟩
  inj := h.inj
theorem get_more {S U : Sto} {n : Nat} {o : LO} (h : S[n]? = some o) : (S ++ U)[n]? = some o := by
  rw [List.getElem?_append_left (List.getElem?_eq_some_iff.mp h).1]
  exact h
theorem Rts.more {S U : Sto} {r k : Nat} {tvs : List (List Key × LV)} {Q : List Qt} (h : Rts S r k tvs Q) : Rts (S ++ U) r k tvs Q := h.mono fun _ _ e => get_more e
theorem Rts.ref {S : Sto} {r k : Nat} {tvs : List (List Key × LV)} {Q : List Qt} (h : Rts S r k tvs Q) {ks : List Key} {v : LV} (g : getK tvs ks = some v) : ∃ a b n L, ks = [.inr a, .inr b] ∧ v = .ref n ∧ sLt a b = true ∧ S[n]? = some (.dct (dayD L)) ∧ DaysQ L Q a b := by
  obtain ⟨a, b, n, e, l, x, hx⟩ := h.key _ (getK_mem g)
  cases e
  obtain ⟨L, h1, h2⟩ := h.day a b n g
  exact ⟨a, b, n, L, rfl, rfl, l, h1, h2⟩
theorem sLt_irr (a : Str) : sLt a a = false := decide_eq_false (List.lt_irrefl _)
theorem sLt_asym {a b : Str} (h : sLt a b = true) : sLt b a = false := decide_eq_false (List.not_lt.mpr (List.le_of_lt (of_decide_eq_true h)))
theorem sLt_tri {a b : Str} (h : sLt a b = false) (n : a ≠ b) : sLt b a = true := by
  refine decide_eq_true ?_
  have h1 : ¬ a.cps.toList < b.cps.toList := of_decide_eq_false h
  have h2 : b.cps.toList ≤ a.cps.toList := List.not_lt.mp h1
  rcases Classical.em (b.cps.toList < a.cps.toList) with q | q
  · exact q
  · exact absurd (PySem.W.str_of_cps (List.le_antisymm (List.not_lt.mp q) h2)) n
/-- the days of two up to a day -/
theorem newest_days {S : Sto} {n : Nat} {L : List Dq} (hn : S[n]? = some (.dct (dayD L))) (hl : L.length ≤ 16777216) (x0 x1 x2 x5 x6 x7 x8 : Option LV) (day : Int) :
    lLock (lVar 4) c_Rates_newest_1 [x0, x1, x2, some (.int day), some (.ref n), x5, x6, x7, x8] S = .ok (.lst (((L.map Prod.fst).filter fun d => decide (d ≤ day)).map .int)) S := by
  have nl : n < S.length := (List.getElem?_eq_some_iff.mp hn).1
  have hk : (S.set n (.dck (dayD L)))[n]? = some (.dck (dayD L)) := List.getElem?_set_self nl
  have e := lockE_e (fd := lVar 4) (fe := c_Rates_newest_1) (ds := [x0, x1, x2, some (.int day), some (.ref n), x5, x6, x7, x8]) (S := S) (S0 := S) (v := .lst (((L.map Prod.fst).filter fun d => decide (d ≤ day)).map .int)) (S' := S.set n (.dck (dayD L))) (by simp) hn (by
    have it : (dayD L).map (fun kv => keyV kv.1) = (L.map Prod.fst).map LV.int := by
      unfold dayD
      rw [List.map_map, List.map_map]
      rfl
    have di := dictO_k hk
    rw [it] at di
    have body := lcR_map (t := false) (lg := gNm 8) (ft := t_Rates_newest_1) (fe := e_Rates_newest_1) (ds := [x0, x1, x2, some (.int day), some (.ref n), x5, x6, x7, none]) (S := S.set n (.dck (dayD L))) (ws := L.map Prod.fst) (g := LV.int) (fun d => decide (d ≤ day)) LV.int .of (by rw [List.length_map]; exact hl) (fun d _ acc => ⟨[x0, x1, x2, some (.int day), some (.ref n), x5, x6, x7, some (.int d)], rfl, by simp [t_Rates_newest_1], fun _ => by simp [e_Rates_newest_1]⟩) (fun _ _ _ => rfl)
    generalize ((L.map Prod.fst).filter fun d => decide (d ≤ day)).map LV.int = V at *
    generalize (L.map Prod.fst).map LV.int = W at *
    simp [c_Rates_newest_1, wipeL, di, body, newL]) hk
  rw [e, List.set_set, set_same hn]
theorem newest_pick {L : List Dq} {Q : List Qt} {a b : Str} (h : DaysQ L Q a b) (hs : L.length ≤ 16777216) (day : Int) (S : Sto) :
    (newD Q a b day = none ∧ maxDK (.lst (((L.map Prod.fst).filter fun d => decide (d ≤ day)).map .int)) .non S = .ok .non S) ∨
    ∃ e, newD Q a b day = some e ∧ e ∈ L ∧ maxDK (.lst (((L.map Prod.fst).filter fun d => decide (d ≤ day)).map .int)) .non S = .ok (.int e.1) S := by
  have hp := h.pick day
  have hl : ((L.map Prod.fst).filter fun d => decide (d ≤ day)).length ≤ 16777216 := by
    have := List.length_filter_le (fun d : Int => decide (d ≤ day)) (L.map Prod.fst)
    rw [List.length_map] at this
    have := hs
    omega
  rcases maxD_ints (S := S) (v := .lst (((L.map Prod.fst).filter fun d => decide (d ≤ day)).map .int)) (d := .non) (ns := (L.map Prod.fst).filter fun d => decide (d ≤ day)) ls_l hl with ⟨h0, hm⟩ | ⟨m, hm, hx, hv⟩
  · refine .inl ⟨?_, hm⟩
    cases e : newD Q a b day with
    | none => rfl
    | some f =>
      rw [e] at hp
      have : f.1 ∈ (L.map Prod.fst).filter fun d => decide (d ≤ day) := List.mem_filter.mpr ⟨List.mem_map.mpr ⟨f, hp.1, rfl⟩, decide_eq_true hp.2.1⟩
      rw [h0] at this
      cases this
  · obtain ⟨h1, h2⟩ := List.mem_filter.mp hm
    obtain ⟨f, hf, rfl⟩ := List.mem_map.mp h1
    have h2 := of_decide_eq_true h2
    cases e : newD Q a b day with
    | none =>
      rw [e] at hp
      have := hp f hf
      omega
    | some g =>
      rw [e] at hp
      have k1 := hp.2.2 f hf h2
      have k2 := hx g.1 (List.mem_filter.mpr ⟨List.mem_map.mpr ⟨g, hp.1, rfl⟩, decide_eq_true hp.2.1⟩)
      have k3 : f.1 = g.1 := by omega
      rw [k3] at hv
      exact .inr ⟨g, rfl, hp.1, hv⟩
theorem newest_core {S : Sto} {r k : Nat} {tvs : List (List Key × LV)} {Q : List Qt} (h : Rts S r k tvs Q) (hl : Q.length ≤ 100000) (a b lo hi : Str) (day : Int)
    (e1 : ∀ S, minU [.str a, .str b] S = .ok (.str lo) S) (e2 : ∀ S, maxU [.str a, .str b] S = .ok (.str hi) S) (c : sLt hi lo = false) :
    f_Rates_newest [.ref r, .str a, .str b, .int day] S = .ok (match newD Q lo hi day with | none => .non | some e => if sLt a b = true then dvQ e else dvQ (swQ e)) S := by
  have kl : keysL [.str lo, .str hi] = some [.inr lo, .inr hi] := rfl
  have dc : isDc (.ref k) S = true := isDc_dT h.tab
  cases g : getK tvs [.inr lo, .inr hi] with
  | none =>
    rw [newD_none (h.non lo hi g c) day]
    have gt : ∀ z, gotO (.ref k) (.tup [.str lo, .str hi]) z (S ++ [.dct []]) = .ok z (S ++ [.dct []]) := fun z => by
      rw [got_dT (get_more h.tab) kl, g]; rfl
    have nd := newest_days (S := S ++ [.dct []]) (n := S.length) (L := []) (by rw [get_app0]; rfl) (by simp) (some (.ref r)) (some (.str a)) (some (.str b)) none none none none day
    have mx : maxDK (.lst []) .non (S ++ [.dct []]) = .ok .non (S ++ [.dct []]) := by
      rcases maxD_ints (S := S ++ [.dct []]) (v := .lst []) (d := .non) (ns := []) rfl (by simp) with ⟨_, h⟩ | ⟨m, hm, _⟩
      · exact h
      · cases hm
    simp only [List.map_nil, List.filter_nil] at nd
    simp [f_Rates_newest, e_fn, g_Rates_newest, fld_ok h.ins, get2a_ok dc, e1, e2, gt, nd, mx, gc_low]
  | some v =>
    obtain ⟨a', b', n, L, ek, rfl, lt, hn, D⟩ := h.ref g
    cases ek
    have gt : ∀ z, gotO (.ref k) (.tup [.str lo, .str hi]) z (S ++ [.dct []]) = .ok (.ref n) (S ++ [.dct []]) := fun z => by
      rw [got_dT (get_more h.tab) kl, g]; rfl
    have nd := newest_days (S := S ++ [.dct []]) (n := n) (L := L) (get_more hn) (by have := D.len; omega) (some (.ref r)) (some (.str a)) (some (.str b)) none none none none day
    rcases newest_pick D (by have := D.len; omega) day (S ++ [.dct []]) with ⟨en, mx⟩ | ⟨e, en, em, mx⟩
    · rw [en]
      generalize LV.lst (((L.map Prod.fst).filter fun d => decide (d ≤ day)).map .int) = V at *
      simp [f_Rates_newest, e_fn, g_Rates_newest, fld_ok h.ins, get2a_ok dc, e1, e2, gt, nd, mx, gc_low]
    · rw [en]
      have gx := get_dayD D.nd em
      have ix : ixL (.ref n) (.int e.1) (S ++ [.dct []]) = .ok (dvQ e) (S ++ [.dct []]) := ix_dk (get_more hn) rfl gx
      generalize LV.lst (((L.map Prod.fst).filter fun d => decide (d ≤ day)).map .int) = V at *
      cases l : sLt a b with
      | true => simp [f_Rates_newest, e_fn, g_Rates_newest, fld_ok h.ins, get2a_ok dc, e1, e2, gt, nd, mx, gc_low, ix, l, dvQ, gtp_e]
      | false => simp [f_Rates_newest, e_fn, g_Rates_newest, fld_ok h.ins, get2a_ok dc, e1, e2, gt, nd, mx, gc_low, ix, l, dvQ, swQ, gtp_e]
theorem newest_e {S : Sto} {r k : Nat} {tvs : List (List Key × LV)} {Q : List Qt} (h : Rts S r k tvs Q) (hl : Q.length ≤ 100000) (ne : ∀ x ∈ Q, x.a ≠ x.b) (a b : Str) (day : Int) :
    f_Rates_newest [.ref r, .str a, .str b, .int day] S = .ok (optQ (newD Q a b day)) S := by
  cases l : sLt a b with
  | true =>
    rw [newest_core h hl a b a b day (fun S => by rw [minU_ss, sLt_asym l]; rfl) (fun S => by rw [maxU_ss, l]; rfl) (sLt_asym l)]
    rw [l]
    cases newD Q a b day <;> rfl
  | false =>
    by_cases q : a = b
    · subst q
      rw [newest_core h hl a a a a day (fun S => by rw [minU_ss]; split <;> rfl) (fun S => by rw [maxU_ss]; split <;> rfl) l]
      rw [newD_self ne]
      rfl
    · have l2 := sLt_tri l q
      rw [newest_core h hl a b b a day (fun S => by rw [minU_ss, l2]; rfl) (fun S => by rw [maxU_ss, l]; rfl) l]
      rw [newD_sw Q q, l]
      cases newD Q a b day <;> rfl
theorem of_other {x : Qt} {lo hi a b : Str} {e : Dq} (he : x.of lo hi = some e) (l : sLt lo hi = true) (g : sLt b a = false) (n : ¬ (a = lo ∧ b = hi)) : x.of a b = none := by
  have k : (x.a = lo ∧ x.b = hi) ∨ (x.a = hi ∧ x.b = lo) := by
    unfold Qt.of at he
    by_cases h1 : x.a = lo ∧ x.b = hi
    · exact .inl h1
    · rw [if_neg h1] at he
      by_cases h2 : x.a = hi ∧ x.b = lo
      · exact .inr h2
      · rw [if_neg h2] at he; cases he
  unfold Qt.of
  by_cases h1 : x.a = a ∧ x.b = b
  · rcases k with ⟨k1, k2⟩ | ⟨k1, k2⟩
    · exact absurd ⟨h1.1.symm.trans k1, h1.2.symm.trans k2⟩ n
    · rw [← h1.1, ← h1.2, k1, k2, l] at g; cases g
  · rw [if_neg h1]
    by_cases h2 : x.a = b ∧ x.b = a
    · rcases k with ⟨k1, k2⟩ | ⟨k1, k2⟩
      · rw [← h2.1, ← h2.2, k1, k2, l] at g; cases g
      · exact absurd ⟨h2.2.symm.trans k2, h2.1.symm.trans k1⟩ n
    · rw [if_neg h2]
theorem cur_len {z : Str} (h : isCur (tl z) = true) : z.length = 3 := by
  unfold isCur at h
  rw [← LL.len_tl]
  simp only [Bool.and_eq_true, decide_eq_true_eq, beq_iff_eq] at h
  omega
theorem ne_tl {a b : Str} (h : a ≠ b) : (tl a == tl b) = false := by
  rw [beq_eq_false_iff_ne]
  exact fun k => h (PySem.W.str_of_cps k)
/-- what of the store a quote leaves -/
structure Leaves (S S' : Sto) (k : Nat) (tvs tvs' : List (List Key × LV)) : Prop where
  len : S.length ≤ S'.length
  old : ∀ n, n < S.length → n ≠ k → (∀ ks, getK tvs ks ≠ some (.ref n)) → S'[n]? = S[n]?
  ref : ∀ ks n, getK tvs' ks = some (.ref n) → getK tvs ks = some (.ref n) ∨ S.length ≤ n
  gc : ∀ v, lowV S.length v = true → gcF S (.ok v S') = .ok v S'
theorem low_dayD (n : Nat) (L : List Dq) : lowO n (.dct (dayD L)) = true := lows_all.mpr fun v hv => by
  obtain ⟨p, hp, rfl⟩ := List.mem_map.mp hv
  obtain ⟨e, he, rfl⟩ := List.mem_map.mp hp
  rfl
theorem quote_core {S : Sto} {r k : Nat} {tvs : List (List Key × LV)} {Q : List Qt} (h : Rts S r k tvs Q) (hl : Q.length ≤ 100000) {x : Qt} (ok : x.Ok) {lo hi : Str} {e : Dq}
    (e1 : ∀ S, minU [.str x.a, .str x.b] S = .ok (.str lo) S) (e2 : ∀ S, maxU [.str x.a, .str x.b] S = .ok (.str hi) S) (c : sLt lo hi = true) (he : x.of lo hi = some e) (hv : dvQ e = if sLt x.a x.b = true then .tup [.int x.p, .int x.q] else .tup [.int x.q, .int x.p]) :
    ∃ S' tvs', f_Rates_quote [.ref r, .int x.day, .str x.a, .int x.p, .str x.b, .int x.q] S = .ok .non S' ∧ Rts S' r k tvs' (Q ++ [x]) ∧ Leaves S S' k tvs tvs' := by
  have kl : keysL [.str lo, .str hi] = some [.inr lo, .inr hi] := rfl
  have dc : isDc (.ref k) S = true := isDc_dT h.tab
  have kS : k < S.length := (List.getElem?_eq_some_iff.mp h.tab).1
  have rS : r < S.length := (List.getElem?_eq_some_iff.mp h.ins).1
  have rk : r ≠ k := fun z => by have := h.ins; rw [z, h.tab] at this; cases this
  have d1 : ∀ S, f_is_day [.int x.day] S = .ok (.bl true) S := fun S => by rw [is_day_i, decide_eq_true ok.d0, decide_eq_true ok.d1]; rfl
  have c1 : ∀ S, f_is_currency [.str x.a] S = .ok (.bl true) S := fun S => by rw [is_currency_s _ (by have := cur_len ok.ca; omega), ok.ca]
  have c2 : ∀ S, f_is_currency [.str x.b] S = .ok (.bl true) S := fun S => by rw [is_currency_s _ (by have := cur_len ok.cb; omega), ok.cb]
  have a1 : ∀ S, f_is_among [.int x.p, .int 1, .int 1000000000] S = .ok (.bl true) S := fun S => by rw [is_among_i, decide_eq_true ok.p0, decide_eq_true ok.p1]; rfl
  have a2 : ∀ S, f_is_among [.int x.q, .int 1, .int 1000000000] S = .ok (.bl true) S := fun S => by rw [is_among_i, decide_eq_true ok.q0, decide_eq_true ok.q1]; rfl
  have nq := ne_tl ok.ne
  have sd : setdK (.ref k) (.tup [.str lo, .str hi]) (.ref S.length) (S ++ [LO.dct []]) = match getK tvs [.inr lo, .inr hi] with
    | some w => .ok w (S ++ [LO.dct []])
    | none => .ok (.ref S.length) ((S ++ [LO.dct []]).set k (.dcT (putL tvs [.inr lo, .inr hi] (.ref S.length)))) := setdK_t (get_more h.tab) kl (by have := h.len; omega)
  have ed := of_day he
  cases g : getK tvs [.inr lo, .inr hi] with
  | none =>
    rw [g] at sd
    simp only at sd
    obtain ⟨T', hT⟩ : ∃ T', T' = putL tvs [.inr lo, .inr hi] (LV.ref S.length) := ⟨_, rfl⟩
    rw [← hT] at sd
    have s1 : (S ++ [LO.dct []]).set k (.dcT T') = S.set k (.dcT T') ++ [.dct []] := List.set_append_left k _ kS
    rw [s1] at sd
    have lenS : (S.set k (LO.dcT T')).length = S.length := List.length_set
    have gn : (S.set k (LO.dcT T') ++ [LO.dct []])[S.length]? = some (.dct []) := by
      have := @get_app0 (S.set k (LO.dcT T')) [LO.dct []]
      rw [lenS] at this
      rw [this]; rfl
    have pu : putO (.ref S.length) (.int x.day) (dvQ e) (S.set k (.dcT T') ++ [.dct []]) = some (S.set k (.dcT T') ++ [.dct (dayD [e])]) := by
      rw [put_d gn rfl (by simp)]
      have := @set_app0 (S.set k (LO.dcT T')) [LO.dct []] (.dct (dayD [e]))
      rw [lenS] at this
      have z := put_dayD [] e
      rw [ed] at z
      rw [show putL ([] : List (Key × LV)) (.inl x.day) (dvQ e) = dayD [e] from z, this]
      rfl
    obtain ⟨S', hS⟩ : ∃ S', S' = S.set k (.dcT T') ++ [.dct (dayD [e])] := ⟨_, rfl⟩
    rw [← hS] at pu
    have gk : S'[k]? = some (.dcT T') := by
      rw [hS, List.getElem?_append_left (by rw [lenS]; exact kS), List.getElem?_set_self kS]
    have gnew : S'[S.length]? = some (.dct (dayD [e])) := by
      have := @get_app0 (S.set k (LO.dcT T')) [LO.dct (dayD [e])]
      rw [lenS] at this
      rw [hS, this]; rfl
    have gold : ∀ n, n < S.length → n ≠ k → S'[n]? = S[n]? := fun n hn hk => by
      rw [hS, List.getElem?_append_left (by rw [lenS]; exact hn), List.getElem?_set_ne fun z => hk z.symm]
    have gput : ∀ ks, getK T' ks = if ks = [.inr lo, .inr hi] then some (LV.ref S.length) else getK tvs ks := fun ks => by rw [hT]; exact getK_put _ _ _ _
    have gself : getK T' [.inr lo, .inr hi] = some (.ref S.length) := by rw [gput, if_pos rfl]
    have gca : ∀ v, lowV S.length v = true → gcF S (.ok v S') = .ok v S' := fun v _ => by
      refine gc_keep (i := k) (o := .dcT T') kS gk ?_ ?_
      · rw [h.tab]
        intro z
        cases z
        rw [g] at gself
        cases gself
      · have mem : (([.inr lo, .inr hi] : List Key), LV.ref S.length) ∈ T' := getK_mem gself
        have lw : lowO S.length (.dcT T') ≠ true := fun z => by
          have := lows_all.mp (show lowVs S.length (T'.map (·.2)) = true from z) (.ref S.length) (List.mem_map.mpr ⟨_, mem, rfl⟩)
          simp [lowV] at this
        unfold frzO
        rw [if_neg lw]
        have : seqO ((valsO (LO.dcT T')).map (frzV S' S.length S'.length 60)) = none := seqO_none (List.mem_map.mpr ⟨LV.ref S.length, List.mem_map.mpr ⟨_, mem, rfl⟩, by simp [frzV, gnew]⟩)
        rw [this]
    have gc := gca .non rfl
    refine ⟨S', T', ?_, ?_, ?_⟩
    · generalize S.set k (LO.dcT T') ++ [LO.dct []] = S1 at *
      rw [hv] at pu
      cases l : sLt x.a x.b with
      | true =>
        rw [l, if_pos rfl] at pu
        simp [f_Rates_quote, e_fn, g_Rates_quote, d1, c1, c2, a1, a2, nq, fld_ok h.ins, setd1_ok dc, e1, e2, sd, l, e_sub, sub3_ok pu, gc]
      | false =>
        rw [l, if_neg (by decide)] at pu
        simp [f_Rates_quote, e_fn, g_Rates_quote, d1, c1, c2, a1, a2, nq, fld_ok h.ins, setd1_ok dc, e1, e2, sd, l, e_sub, sub3_ok pu, gc]
    · refine ⟨?_, gk, ?_, by rw [hT]; exact nd_putL h.nd, ?_, ?_, ?_, ?_⟩
      · rw [gold r rS rk]; exact h.ins
      · have := len_putL tvs [.inr lo, .inr hi] (LV.ref S.length)
        have := h.len
        rw [hT, List.length_append, List.length_singleton]
        omega
      · intro kv hkv
        rw [hT] at hkv
        rcases mem_putL hkv with rfl | ⟨hm, _⟩
        · exact ⟨lo, hi, S.length, rfl, c, x, by simp, by rw [he]; rfl⟩
        · obtain ⟨a, b, n, h1, h2, y, hy, h3⟩ := h.key kv hm
          exact ⟨a, b, n, h1, h2, y, List.mem_append_left _ hy, h3⟩
      · intro a b gn2 l2 y hy
        rw [gput] at gn2
        by_cases z : ([.inr a, .inr b] : List Key) = [.inr lo, .inr hi]
        · rw [if_pos z] at gn2; cases gn2
        · rw [if_neg z] at gn2
          rcases List.mem_append.mp hy with hy | hy
          · exact h.non a b gn2 l2 y hy
          · rw [List.mem_singleton.mp hy]
            exact of_other he c l2 fun w => z (by rw [w.1, w.2])
      · intro a b n gn2
        rw [gput] at gn2
        by_cases z : ([.inr a, .inr b] : List Key) = [.inr lo, .inr hi]
        · rw [if_pos z] at gn2
          cases gn2
          cases z
          have D := (DaysQ.new (h.non _ _ g (sLt_asym c))).add he
          exact ⟨[e], gnew, D⟩
        · rw [if_neg z] at gn2
          obtain ⟨a', b', n', L, q1, q2, q3, q4, q5⟩ := h.ref gn2
          cases q1
          cases q2
          have nS := (List.getElem?_eq_some_iff.mp q4).1
          refine ⟨L, ?_, q5.skip (of_other he c (sLt_asym q3) fun w => z (by rw [w.1, w.2]))⟩
          rw [gold n nS fun w => by rw [w, h.tab] at q4; cases q4]
          exact q4
      · intro a b a' b' n g1 g2
        rw [gput] at g1 g2
        have nlt : ∀ ks, getK tvs ks = some (.ref n) → n < S.length := fun ks gz => by
          obtain ⟨_, _, n', L, q1, q2, q3, q4, q5⟩ := h.ref gz
          cases q2
          exact (List.getElem?_eq_some_iff.mp q4).1
        by_cases z1 : ([.inr a, .inr b] : List Key) = [.inr lo, .inr hi] <;> by_cases z2 : ([.inr a', .inr b'] : List Key) = [.inr lo, .inr hi]
        · cases z1; cases z2; exact ⟨rfl, rfl⟩
        · rw [if_pos z1] at g1
          rw [if_neg z2] at g2
          have := nlt _ g2
          cases g1
          omega
        · rw [if_neg z1] at g1
          rw [if_pos z2] at g2
          have := nlt _ g1
          cases g2
          omega
        · rw [if_neg z1] at g1
          rw [if_neg z2] at g2
          exact h.inj a b a' b' n g1 g2
    · refine ⟨by rw [hS, List.length_append, lenS]; omega, fun n hn hk _ => gold n hn hk, fun ks n gz => ?_, gca⟩
      rw [gput] at gz
      by_cases z : ks = [.inr lo, .inr hi]
      · rw [if_pos z] at gz
        cases gz
        exact .inr (Nat.le_refl _)
      · rw [if_neg z] at gz
        exact .inl gz
  | some v =>
    rw [g] at sd
    simp only at sd
    obtain ⟨a0, b0, n, L, ek, rfl, _, hn, D⟩ := h.ref g
    cases ek
    have nS := (List.getElem?_eq_some_iff.mp hn).1
    have nk : n ≠ k := fun z => by rw [z, h.tab] at hn; cases hn
    have nr : n ≠ r := fun z => by rw [z, h.ins] at hn; cases hn
    have pu : putO (.ref n) (.int x.day) (dvQ e) (S ++ [.dct []]) = some (S.set n (.dct (dayD (putD L e))) ++ [.dct []]) := by
      rw [put_d (get_more hn) rfl (by unfold dayD; rw [List.length_map]; have := D.len; omega)]
      have z := put_dayD L e
      rw [ed] at z
      rw [z, List.set_append_left n _ nS]
    obtain ⟨S', hS⟩ : ∃ S', S' = S.set n (.dct (dayD (putD L e))) := ⟨_, rfl⟩
    rw [← hS] at pu
    have gc : gcF S (.ok .non (S' ++ [.dct []])) = .ok .non S' := by
      rw [hS]
      exact gc_chg (lw_set lw_refl (low_dayD _ _)) (by simp) rfl
    have gn : S'[n]? = some (.dct (dayD (putD L e))) := by rw [hS, List.getElem?_set_self nS]
    have gold : ∀ m, m ≠ n → S'[m]? = S[m]? := fun m hm => by rw [hS, List.getElem?_set_ne fun z => hm z.symm]
    refine ⟨S', tvs, ?_, ?_, ?_⟩
    · rw [hv] at pu
      cases l : sLt x.a x.b with
      | true =>
        rw [l, if_pos rfl] at pu
        simp [f_Rates_quote, e_fn, g_Rates_quote, d1, c1, c2, a1, a2, nq, fld_ok h.ins, setd1_ok dc, e1, e2, sd, l, e_sub, sub3_ok pu, gc]
      | false =>
        rw [l, if_neg (by decide)] at pu
        simp [f_Rates_quote, e_fn, g_Rates_quote, d1, c1, c2, a1, a2, nq, fld_ok h.ins, setd1_ok dc, e1, e2, sd, l, e_sub, sub3_ok pu, gc]
    · refine ⟨?_, ?_, ?_, h.nd, ?_, ?_, ?_, h.inj⟩
      · rw [gold r fun z => nr z.symm]; exact h.ins
      · rw [gold k fun z => nk z.symm]; exact h.tab
      · have := h.len
        rw [List.length_append, List.length_singleton]
        omega
      · intro kv hkv
        obtain ⟨a, b, n, h1, h2, y, hy, h3⟩ := h.key kv hkv
        exact ⟨a, b, n, h1, h2, y, List.mem_append_left _ hy, h3⟩
      · intro a b gn2 l2 y hy
        rcases List.mem_append.mp hy with hy | hy
        · exact h.non a b gn2 l2 y hy
        · rw [List.mem_singleton.mp hy]
          refine of_other he c l2 fun w => ?_
          rw [w.1, w.2, g] at gn2
          cases gn2
      · intro a b m gm
        by_cases z : ([.inr a, .inr b] : List Key) = [.inr lo, .inr hi]
        · cases z
          rw [g] at gm
          cases gm
          exact ⟨putD L e, gn, D.add he⟩
        · obtain ⟨a', b', n', L', q1, q2, q3, q4, q5⟩ := h.ref gm
          cases q1
          cases q2
          refine ⟨L', ?_, q5.skip (of_other he c (sLt_asym q3) fun w => z (by rw [w.1, w.2]))⟩
          rw [gold m fun w => ?_]
          · exact q4
          · subst w
            have := h.inj _ _ _ _ _ gm g
            exact z (by rw [this.1, this.2])
    · refine ⟨by rw [hS, List.length_set]; exact Nat.le_refl _, fun m hm hk hr => gold m fun z => hr [.inr lo, .inr hi] (by rw [z]; exact g), fun ks m gz => .inl gz, fun v hv => by rw [hS]; exact gc_chg0 (lw_set lw_refl (low_dayD _ _)) (by simp) hv⟩
theorem quote_e {S : Sto} {r k : Nat} {tvs : List (List Key × LV)} {Q : List Qt} (h : Rts S r k tvs Q) (hl : Q.length ≤ 100000) {x : Qt} (ok : x.Ok) :
    ∃ S' tvs', f_Rates_quote [.ref r, .int x.day, .str x.a, .int x.p, .str x.b, .int x.q] S = .ok .non S' ∧ Rts S' r k tvs' (Q ++ [x]) ∧ Leaves S S' k tvs tvs' := by
  cases l : sLt x.a x.b with
  | true => exact quote_core h hl ok (lo := x.a) (hi := x.b) (e := (x.day, x.p, x.q)) (fun S => by rw [minU_ss, sLt_asym l]; rfl) (fun S => by rw [maxU_ss, l]; rfl) l (by unfold Qt.of; rw [if_pos ⟨rfl, rfl⟩]) (by rw [l]; rfl)
  | false =>
    have l2 := sLt_tri l ok.ne
    exact quote_core h hl ok (lo := x.b) (hi := x.a) (e := (x.day, x.q, x.p)) (fun S => by rw [minU_ss, l2]; rfl) (fun S => by rw [maxU_ss, l]; rfl) l2 (by unfold Qt.of; rw [if_neg fun z => ok.ne z.1, if_pos ⟨rfl, rfl⟩]) (by rw [l]; rfl)
theorem rates_init (S : Sto) : f_Rates___init__ [.ref S.length] (S ++ [.ins 100 []]) = .ok .non (S ++ [.ins 100 [.ref (S.length + 1)], .dcT []]) := by
  have h1 : ∀ U : Sto, ∀ o : LO, (S ++ o :: U)[S.length]? = some o := fun U o => by rw [get_app0]; rfl
  simp [f_Rates___init__, e_fn, g_Rates___init__]
  rw [sfl2_ok (h1 _ _) (by simp) (by simp)]
  simp [setAt, set_app0]
  refine gc_keep (i := S.length) (o := .ins 100 [.ref (S.length + 1)]) (by simp) (h1 _ _) (by simp) ?_
  simp [frzO, lowO, valsO, frzV, seqO]
theorem rates_make (S : Sto) : mkO 100 f_Rates___init__ [] S = .ok (.ref S.length) (S ++ [.ins 100 [.ref (S.length + 1)], .dcT []]) := mkO_ok (rates_init S)
theorem rates_new (S : Sto) : Rts (S ++ [.ins 100 [.ref (S.length + 1)], .dcT []]) S.length (S.length + 1) [] [] where
  ins := by rw [get_app0]; rfl
  tab := by rw [get_app]; rfl
  len := Nat.le_refl _
  nd := List.nodup_nil
  key := fun kv h => by cases h
  non := fun a b h l x hx => by cases hx
  day := fun a b n h => by cases h
  inj := fun a b c d n h => by cases h

end K09


set_option Elab.async false
set_option linter.all false
set_option maxRecDepth 100000
set_option maxHeartbeats 4000000
namespace K09
open PySem PySem.Spec PyProof.Rows L2 LL
/-! ### the currencies that were quoted -/
def addN (ns : List Str) (z : Str) : List Str := if z ∈ ns then ns else ns ++ [z]
def nameD (ns : List Str) : List (Key × LV) := ns.map fun z => (.inr z, .bl true)
theorem put_nameD (ns : List Str) (z : Str) : putL (nameD ns) (.inr z) (.bl true) = nameD (addN ns z) := by
  have a : ((nameD ns).any fun kv => decide (kv.1 = (.inr z : Key))) = decide (z ∈ ns) := by
    unfold nameD
    rw [List.any_map]
    by_cases m : z ∈ ns
    · rw [decide_eq_true m]
      exact List.any_eq_true.mpr ⟨z, m, by simp⟩
    · rw [decide_eq_false m]
      refine List.any_eq_false.mpr fun y hy => ?_
      show ¬ decide ((Sum.inr y : Key) = .inr z) = true
      rw [decide_eq_true_eq]
      exact fun k => m (by rw [← Sum.inr.inj k]; exact hy)
  unfold putL addN
  rw [a]
  by_cases m : z ∈ ns
  · rw [decide_eq_true m, if_pos rfl, if_pos m]
    unfold nameD
    rw [List.map_map]
    refine List.map_congr_left fun y hy => ?_
    show (if (Sum.inr y : Key) = .inr z then ((Sum.inr y : Key), LV.bl true) else (Sum.inr y, .bl true)) = _
    split <;> rfl
  · rw [decide_eq_false m, if_neg (by decide), if_neg m]
    unfold nameD
    rw [List.map_append]
    rfl
theorem mem_addN {ns : List Str} {z c : Str} : c ∈ addN ns z ↔ c ∈ ns ∨ c = z := by
  unfold addN
  split
  · rename_i m
    exact ⟨.inl, fun h => h.elim id fun k => k ▸ m⟩
  · simp
theorem nd_addN {ns : List Str} {z : Str} (h : ns.Nodup) : (addN ns z).Nodup := by
  unfold addN
  split
  · exact h
  · rename_i m
    rw [List.nodup_append]
    exact ⟨h, by simp, fun a ha b hb => by
      rw [List.mem_singleton] at hb
      subst hb
      exact fun k => m (k ▸ ha)⟩
theorem len_addN (ns : List Str) (z : Str) : (addN ns z).length ≤ ns.length + 1 := by
  unfold addN
  split <;> simp
theorem strK_nameD : ∀ ns : List Str, strK (nameD ns) = some ns
  | [] => rfl
  | z :: ns => by
    show (match strK (nameD ns) with | some l => some (z :: l) | none => none) = _
    rw [strK_nameD ns]
/-- the pair of a key -/
def pairK : List Key → Str × Str
  | [.inr a, .inr b] => (a, b)
  | _ => (("" : Str), ("" : Str))
def addP (ns : List Str) (kv : List Key × LV) : List Str := addN (addN ns (pairK kv.1).1) (pairK kv.1).2
noncomputable def namesT (tvs : List (List Key × LV)) : List Str := tvs.foldl addP []
theorem mem_namesT (c : Str) : ∀ (tvs : List (List Key × LV)) (ns : List Str), c ∈ tvs.foldl addP ns ↔ c ∈ ns ∨ ∃ kv ∈ tvs, c = (pairK kv.1).1 ∨ c = (pairK kv.1).2
  | [], ns => by simp
  | kv :: tvs, ns => by
    rw [List.foldl_cons, mem_namesT c tvs]
    unfold addP
    rw [mem_addN, mem_addN]
    simp only [List.mem_cons, exists_eq_or_imp]
    constructor
    · rintro (((h | h) | h) | h)
      · exact .inl h
      · exact .inr (.inl (.inl h))
      · exact .inr (.inl (.inr h))
      · exact .inr (.inr h)
    · rintro (h | (h | h) | h)
      · exact .inl (.inl (.inl h))
      · exact .inl (.inl (.inr h))
      · exact .inl (.inr h)
      · exact .inr h
theorem nd_namesT : ∀ (tvs : List (List Key × LV)) (ns : List Str), ns.Nodup → (tvs.foldl addP ns).Nodup
  | [], ns, h => h
  | kv :: tvs, ns, h => nd_namesT tvs _ (nd_addN (nd_addN h))
theorem len_namesT : ∀ (tvs : List (List Key × LV)) (ns : List Str), (tvs.foldl addP ns).length ≤ ns.length + 2 * tvs.length
  | [], ns => by simp
  | kv :: tvs, ns => by
    have := len_namesT tvs (addP ns kv)
    have h1 := len_addN ns (pairK kv.1).1
    have h2 := len_addN (addN ns (pairK kv.1).1) (pairK kv.1).2
    rw [List.foldl_cons, List.length_cons]
    unfold addP at *
    omega
noncomputable def coinsT (tvs : List (List Key × LV)) : List Str := sortS (namesT tvs)
theorem of_some {x : Qt} {a b : Str} {e : Dq} (h : x.of a b = some e) : (x.a = a ∧ x.b = b) ∨ (x.a = b ∧ x.b = a) := by
  unfold Qt.of at h
  by_cases h1 : x.a = a ∧ x.b = b
  · exact .inl h1
  · rw [if_neg h1] at h
    by_cases h2 : x.a = b ∧ x.b = a
    · exact .inr h2
    · rw [if_neg h2] at h; cases h
theorem mem_coins {S : Sto} {r k : Nat} {tvs : List (List Key × LV)} {Q : List Qt} (h : Rts S r k tvs Q) (ne : ∀ x ∈ Q, x.a ≠ x.b) (c : Str) : c ∈ coinsT tvs ↔ ∃ x ∈ Q, x.a = c ∨ x.b = c := by
  have e1 : c ∈ coinsT tvs ↔ c ∈ namesT tvs := (sortS_perm _).mem_iff
  rw [e1]
  unfold namesT
  rw [mem_namesT]
  constructor
  · rintro (h' | ⟨kv, hkv, hc⟩)
    · cases h'
    · obtain ⟨a, b, n, rfl, _, x, hx, hs⟩ := h.key kv hkv
      obtain ⟨e, he⟩ := Option.isSome_iff_exists.mp hs
      refine ⟨x, hx, ?_⟩
      have hc : c = a ∨ c = b := hc
      rcases of_some he with ⟨z1, z2⟩ | ⟨z1, z2⟩ <;> rcases hc with rfl | rfl
      · exact .inl z1
      · exact .inr z2
      · exact .inr z2
      · exact .inl z1
  · rintro ⟨x, hx, hc⟩
    have main : ∀ a b, sLt b a = false → x.of a b ≠ none → (c = a ∨ c = b) → ∃ kv ∈ tvs, c = (pairK kv.1).1 ∨ c = (pairK kv.1).2 := fun a b l n hc => by
      cases g : getK tvs [.inr a, .inr b] with
      | none => exact absurd (h.non a b g l x hx) n
      | some v => exact ⟨_, getK_mem g, hc⟩
    refine .inr ?_
    cases l : sLt x.b x.a with
    | false =>
      refine main x.a x.b l ?_ (hc.elim (fun k => .inl k.symm) fun k => .inr k.symm)
      unfold Qt.of
      rw [if_pos ⟨rfl, rfl⟩]
      exact fun z => by cases z
    | true =>
      refine main x.b x.a (sLt_asym l) ?_ (hc.elim (fun k => .inr k.symm) fun k => .inl k.symm)
      unfold Qt.of
      rw [if_neg fun z => ne x hx z.1, if_pos ⟨rfl, rfl⟩]
      exact fun z => by cases z
theorem nd_coins (tvs : List (List Key × LV)) : (coinsT tvs).Nodup := (sortS_perm _).nodup_iff.mpr (nd_namesT tvs [] List.nodup_nil)
theorem len_coins (tvs : List (List Key × LV)) : (coinsT tvs).length ≤ 2 * tvs.length := by
  have := len_namesT tvs []
  have e : (coinsT tvs).length = (namesT tvs).length := (sortS_perm _).length_eq
  rw [e]
  unfold namesT
  simpa using this
theorem currencies_in {S : Sto} {r k : Nat} {tvs : List (List Key × LV)} {Q : List Qt} (h : Rts S r k tvs Q) (hl : Q.length ≤ 31) : ∃ x2 x3,
    lLockS (lUn (fldL 100 0) (lVar 0)) (lFor (lIterD (lUn (fldL 100 0) (lVar 0))) (gTp (gsCons (gNm 2) (gsCons (gNm 3) gsNil))) b_Rates_currencies_1) [some (.ref r), some (.ref S.length), none, none] (S ++ [.dct []]) = .nx [some (.ref r), some (.ref S.length), x2, x3] (S ++ [.dct (nameD (namesT tvs))]) := by
  have kS : k < S.length := (List.getElem?_eq_some_iff.mp h.tab).1
  have rS : r < S.length := (List.getElem?_eq_some_iff.mp h.ins).1
  have rk : r ≠ k := fun z => by have := h.ins; rw [z, h.tab] at this; cases this
  have lenS : (S.set k (LO.dcl tvs)).length = S.length := List.length_set
  have tl' : tvs.length ≤ 31 := by have := h.len; omega
  have gn : ∀ ns : List Str, (S.set k (LO.dcl tvs) ++ [LO.dct (nameD ns)])[S.length]? = some (.dct (nameD ns)) := fun ns => by
    have := @get_app0 (S.set k (LO.dcl tvs)) [LO.dct (nameD ns)]
    rw [lenS] at this
    rw [this]; rfl
  have gk : ∀ ns : List Str, (S.set k (LO.dcl tvs) ++ [LO.dct (nameD ns)])[k]? = some (.dcl tvs) := fun ns => by rw [List.getElem?_append_left (by rw [lenS]; exact kS), List.getElem?_set_self kS]
  have gr : ∀ ns : List Str, (S.set k (LO.dcl tvs) ++ [LO.dct (nameD ns)])[r]? = some (.ins 100 [.ref k]) := fun ns => by
    rw [List.getElem?_append_left (by rw [lenS]; exact rS), List.getElem?_set_ne fun z => rk z.symm]
    exact h.ins
  have sn : ∀ (ns : List Str) (o : LO), (S.set k (LO.dcl tvs) ++ [LO.dct (nameD ns)]).set S.length o = S.set k (LO.dcl tvs) ++ [o] := fun ns o => by
    have := @set_app0 (S.set k (LO.dcl tvs)) [LO.dct (nameD ns)] o
    rw [lenS] at this
    rw [this]; rfl
  have loop := for_fold (α := List Str) (β := List Key × LV) (J := Option LV × Option LV) (lg := gTp (gsCons (gNm 2) (gsCons (gNm 3) gsNil))) (fb := b_Rates_currencies_1) (l := itOf (tvs.map fun kv => keyT kv.1)) (ws := tvs) (g := fun kv => keyT kv.1)
    (fun ns j => [some (.ref r), some (.ref S.length), j.1, j.2]) (fun ns => S.set k (.dcl tvs) ++ [.dct (nameD ns)]) addP (fun ns => ns.Nodup ∧ ∀ z ∈ ns, z ∈ namesT tvs) (fun _ _ => .of) (fun kv hkv ns j p => by
      obtain ⟨a, b, n, rfl, _, _⟩ := h.key kv hkv
      have nn : ∀ z : Str, z ∈ namesT tvs ↔ ∃ kv ∈ tvs, z = (pairK kv.1).1 ∨ z = (pairK kv.1).2 := fun z => by
        unfold namesT
        rw [mem_namesT]
        simp
      have ll : (namesT tvs).length ≤ 62 := by
        have := len_namesT tvs []
        unfold namesT
        simp only [List.length_nil] at this
        omega
      have l0 : ns.length ≤ 62 := Nat.le_trans (nodup_le ns (namesT tvs) p.1 p.2) ll
      have l1 := len_addN ns a
      have pu1 := put_d (v := .str a) (w := .bl true) (gn ns) rfl (by unfold nameD; rw [List.length_map]; omega)
      rw [put_nameD, sn] at pu1
      have pu2 := put_d (v := .str b) (w := .bl true) (gn (addN ns a)) rfl (by unfold nameD; rw [List.length_map]; omega)
      rw [put_nameD, sn] at pu2
      refine ⟨⟨nd_addN (nd_addN p.1), fun z hz => ?_⟩, ⟨some (.str a), some (.str b)⟩, ?_⟩
      · have hz : z ∈ addN (addN ns a) b := hz
        rw [mem_addN, mem_addN] at hz
        rcases hz with (hz | hz) | hz
        · exact p.2 z hz
        · exact (nn z).mpr ⟨_, hkv, .inl hz⟩
        · exact (nn z).mpr ⟨_, hkv, .inr hz⟩
      · show turn _ _ (.tup [.str a, .str b]) _ _ = .nx _ (S.set k (.dcl tvs) ++ [.dct (nameD (addN (addN ns a) b))])
        simp [turn, gTp, gsCons, gNm, gsNil, b_Rates_currencies_1, e_sub, sub3_ok pu1, sub3_ok pu2]) [] (none, none) ⟨List.nodup_nil, fun z hz => by cases hz⟩
  obtain ⟨_, j', hj⟩ := loop
  refine ⟨j'.1, j'.2, ?_⟩
  have s0 : (S ++ [LO.dct []]).set k (.dcl tvs) = S.set k (.dcl tvs) ++ [.dct []] := List.set_append_left k _ kS
  have e := lockS_t (fd := lUn (fldL 100 0) (lVar 0)) (fb := lFor (lIterD (lUn (fldL 100 0) (lVar 0))) (gTp (gsCons (gNm 2) (gsCons (gNm 3) gsNil))) b_Rates_currencies_1) (ds := [some (.ref r), some (.ref S.length), none, none]) (ds' := [some (.ref r), some (.ref S.length), j'.1, j'.2]) (S := S ++ [.dct []]) (S0 := S ++ [.dct []]) (S' := S.set k (.dcl tvs) ++ [.dct (nameD (namesT tvs))]) (n := k) (kvs := tvs) (by simp [fld_ok (get_more h.ins)]) (get_more h.tab) (by
    rw [s0]
    have di := dictO_t (gk [])
    have fo := fld_ok (c := 100) (i := 0) (gr []) rfl
    have hj : forS (gTp (gsCons (gNm 2) (gsCons (gNm 3) gsNil))) b_Rates_currencies_1 [some (.ref r), some (.ref S.length), none, none] (.ok (itOf (tvs.map fun kv => keyT kv.1)) (S.set k (.dcl tvs) ++ [.dct (nameD [])])) = .nx [some (.ref r), some (.ref S.length), j'.1, j'.2] (S.set k (.dcl tvs) ++ [.dct (nameD (namesT tvs))]) := hj
    show lFor _ _ _ _ (S.set k (.dcl tvs) ++ [.dct (nameD [])]) = _
    generalize S.set k (.dcl tvs) ++ [.dct (nameD [])] = S1 at *
    simp [fo, di, hj]) (gk _)
  rw [e, List.set_append_left k _ (by rw [lenS]; exact kS), List.set_set, set_same h.tab]
theorem currencies_e {S : Sto} {r k : Nat} {tvs : List (List Key × LV)} {Q : List Qt} (h : Rts S r k tvs Q) (hl : Q.length ≤ 31) : f_Rates_currencies [.ref r] S = .ok (.lst ((coinsT tvs).map .str)) S := by
  obtain ⟨x2, x3, e⟩ := currencies_in h hl
  have ll : (namesT tvs).length < 64 := by
    have := h.len
    have h2 := len_namesT tvs []
    unfold namesT
    simp only [List.length_nil] at h2
    omega
  have so := sortedD_ok (t := false) (S := S ++ [.dct (nameD (namesT tvs))]) (n := S.length) (kvs := nameD (namesT tvs)) (by rw [get_app0]; rfl) (strK_nameD _) ll
  simp only [newL] at so
  have lw : lowVs S.length ((coinsT tvs).map LV.str) = true := strs_low _
  show mkFn 1 4 g_Rates_currencies _ _ = _
  unfold coinsT at *
  generalize (sortS (namesT tvs)).map LV.str = V at *
  simp [e_fn, g_Rates_currencies, e, so, gc_low, lowV, lw]
end K09


set_option Elab.async false
set_option linter.all false
set_option maxRecDepth 100000
set_option maxHeartbeats 4000000
namespace K09
open PySem PySem.Spec PyProof.Rows L2 LL
/-! ### all quotes, by days and currencies -/
abbrev Q5 := Int × Str × Int × Str × Int
def lv5 (e : Q5) : LV := .tup [.int e.1, .str e.2.1, .int e.2.2.1, .str e.2.2.2.1, .int e.2.2.2.2]
theorem lv5_inj {e f : Q5} (h : lv5 e = lv5 f) : e = f := by
  obtain ⟨a, b, c, d, x⟩ := e
  obtain ⟨a', b', c', d', x'⟩ := f
  unfold lv5 at h
  simp only [LV.tup.injEq, List.cons.injEq, LV.int.injEq, LV.str.injEq, and_true] at h
  obtain ⟨rfl, rfl, rfl, rfl, rfl⟩ := h
  rfl
/-- what holds from just that day on -/
def Holds5 (Q : List Qt) (e : Q5) : Prop := sLt e.2.1 e.2.2.2.1 = true ∧ newD Q e.2.1 e.2.2.2.1 e.1 = some (e.1, e.2.2.1, e.2.2.2.2)
theorem day_mem {L : List Dq} {Q : List Qt} {a b : Str} (D : DaysQ L Q a b) (e : Dq) : e ∈ L ↔ newD Q a b e.1 = some e := by
  have hp := D.pick e.1
  constructor
  · intro he
    cases o : newD Q a b e.1 with
    | none =>
      rw [o] at hp
      have := hp e he
      omega
    | some g =>
      rw [o] at hp
      have k1 := hp.2.2 e he (Int.le_refl _)
      have k2 := hp.2.1
      have k3 : g.1 = e.1 := by omega
      have g1 := get_dayD D.nd hp.1
      have g2 := get_dayD D.nd he
      rw [k3] at g1
      rw [g1] at g2
      have z : dvQ g = dvQ e := Option.some.inj g2
      unfold dvQ at z
      simp only [LV.tup.injEq, List.cons.injEq, LV.int.injEq, and_true] at z
      obtain ⟨g0, gp, gq⟩ := g
      obtain ⟨e0, ep, eq⟩ := e
      simp only at k3 z
      rw [k3, z.1, z.2]
  · intro h
    rw [h] at hp
    exact hp.1
/-- the quotes of a day -/
def itemQ (a b : Str) (p : Key × LV) : Option Q5 := match p.1, p.2 with
  | .inl d, .tup [.int x, .int y] => some (d, a, x, b, y)
  | _, _ => none
theorem itemQ_days (a b : Str) : ∀ L : List Dq, (dayD L).filterMap (itemQ a b) = L.map fun e => (e.1, a, e.2.1, b, e.2.2)
  | [] => rfl
  | e :: L => by
    unfold dayD
    rw [List.map_cons, List.filterMap_cons]
    exact congrArg (List.cons (e.1, a, e.2.1, b, e.2.2)) (itemQ_days a b L)
/-- the days of a key -/
def daysAt (S : Sto) (kv : List Key × LV) : List Q5 := match kv with
  | ([.inr a, .inr b], .ref n) => (match S[n]? with
    | some (.dct kvs) => kvs.filterMap (itemQ a b)
    | _ => [])
  | _ => []
def allQ (S : Sto) (tvs : List (List Key × LV)) : List Q5 := tvs.flatMap (daysAt S)
theorem daysAt_e {S : Sto} {a b : Str} {n : Nat} {L : List Dq} (h : S[n]? = some (.dct (dayD L))) : daysAt S ([.inr a, .inr b], .ref n) = L.map fun e => (e.1, a, e.2.1, b, e.2.2) := by
  unfold daysAt
  simp only [h]
  exact itemQ_days a b L
theorem itemO_k {S : Sto} {n : Nat} {kvs : List (Key × LV)} (h : S[n]? = some (.dck kvs)) : itemO (.ref n) S = .ok (itOf (kvs.map fun kv => .tup [keyV kv.1, kv.2])) S := by
  unfold itemO
  simp only [h]
/-- one key's days are put behind -/
theorem quotes_in {S : Sto} {r k : Nat} {tvs : List (List Key × LV)} {Q : List Qt} (h : Rts S r k tvs Q) {a b : Str} {n : Nat} {L : List Dq} (g : getK tvs [.inr a, .inr b] = some (.ref n)) (hn : S[n]? = some (.dct (dayD L))) (acc : List Q5) (hl : acc.length + L.length ≤ 1000000) (x4 x5 : Option LV) : ∃ y4 y5,
    b_Rates_quotes_1 [some (.ref r), some (.ref S.length), some (.str a), some (.str b), x4, x5] (S.set k (.dcl tvs) ++ [.lst (acc.map lv5)]) =
      .nx [some (.ref r), some (.ref S.length), some (.str a), some (.str b), y4, y5] (S.set k (.dcl tvs) ++ [.lst ((acc ++ L.map fun e => (e.1, a, e.2.1, b, e.2.2)).map lv5)]) := by
  have kS : k < S.length := (List.getElem?_eq_some_iff.mp h.tab).1
  have rS : r < S.length := (List.getElem?_eq_some_iff.mp h.ins).1
  have nS : n < S.length := (List.getElem?_eq_some_iff.mp hn).1
  have rk : r ≠ k := fun z => by have := h.ins; rw [z, h.tab] at this; cases this
  have nk : n ≠ k := fun z => by rw [z, h.tab] at hn; cases hn
  have nr : n ≠ r := fun z => by rw [z, h.ins] at hn; cases hn
  have lenS : (S.set k (LO.dcl tvs)).length = S.length := List.length_set
  have lenN : ((S.set k (LO.dcl tvs)).set n (.dck (dayD L))).length = S.length := by rw [List.length_set, lenS]
  have gk : ∀ U : Sto, (S.set k (LO.dcl tvs) ++ U)[k]? = some (.dcl tvs) := fun U => by rw [List.getElem?_append_left (by rw [lenS]; exact kS), List.getElem?_set_self kS]
  have gr : ∀ U : Sto, (S.set k (LO.dcl tvs) ++ U)[r]? = some (.ins 100 [.ref k]) := fun U => by
    rw [List.getElem?_append_left (by rw [lenS]; exact rS), List.getElem?_set_ne fun z => rk z.symm]
    exact h.ins
  have gn : ∀ U : Sto, (S.set k (LO.dcl tvs) ++ U)[n]? = some (.dct (dayD L)) := fun U => by
    rw [List.getElem?_append_left (by rw [lenS]; exact nS), List.getElem?_set_ne fun z => nk z.symm]
    exact hn
  have sn : ∀ (U : Sto) (o : LO), (S.set k (LO.dcl tvs) ++ U).set n o = (S.set k (LO.dcl tvs)).set n o ++ U := fun U o => List.set_append_left n o (by rw [lenS]; exact nS)
  -- the walk over the days
  obtain ⟨j', loop⟩ := for_at (J := Option LV × Option LV) (lg := gTp (gsCons (gNm 4) (gsCons (gNm 5) gsNil))) (fb := b_Rates_quotes_2) (xs := L.map fun e => (.tup [.int e.1, dvQ e] : LV))
    (fun _ j => [some (.ref r), some (.ref S.length), some (.str a), some (.str b), j.1, j.2]) (fun i => (S.set k (.dcl tvs)).set n (.dck (dayD L)) ++ [.lst ((acc ++ (L.take i).map fun e => (e.1, a, e.2.1, b, e.2.2)).map lv5)]) (fun i v hv j => by
      rw [List.getElem?_map, Option.map_eq_some_iff] at hv
      obtain ⟨e, he, rfl⟩ := hv
      have il := (List.getElem?_eq_some_iff.mp he).1
      have gl : ((S.set k (LO.dcl tvs)).set n (.dck (dayD L)) ++ [LO.lst ((acc ++ (L.take i).map fun e => (e.1, a, e.2.1, b, e.2.2)).map lv5)])[S.length]? = some (.lst ((acc ++ (L.take i).map fun e => (e.1, a, e.2.1, b, e.2.2)).map lv5)) := by
        have := @get_app0 ((S.set k (LO.dcl tvs)).set n (.dck (dayD L))) [LO.lst ((acc ++ (L.take i).map fun e => (e.1, a, e.2.1, b, e.2.2)).map lv5)]
        rw [lenN] at this
        rw [this]; rfl
      have ap := append_ok (v := lv5 (e.1, a, e.2.1, b, e.2.2)) gl (by rw [List.length_map, List.length_append, List.length_map, List.length_take]; omega)
      have st : ((S.set k (LO.dcl tvs)).set n (.dck (dayD L)) ++ [LO.lst ((acc ++ (L.take i).map fun e => (e.1, a, e.2.1, b, e.2.2)).map lv5)]).set S.length (.lst ((acc ++ (L.take i).map fun e => (e.1, a, e.2.1, b, e.2.2)).map lv5 ++ [lv5 (e.1, a, e.2.1, b, e.2.2)])) = (S.set k (.dcl tvs)).set n (.dck (dayD L)) ++ [.lst ((acc ++ (L.take (i + 1)).map fun e => (e.1, a, e.2.1, b, e.2.2)).map lv5)] := by
        have := @set_app0 ((S.set k (LO.dcl tvs)).set n (.dck (dayD L))) [LO.lst ((acc ++ (L.take i).map fun e => (e.1, a, e.2.1, b, e.2.2)).map lv5)] (.lst ((acc ++ (L.take i).map fun e => (e.1, a, e.2.1, b, e.2.2)).map lv5 ++ [lv5 (e.1, a, e.2.1, b, e.2.2)]))
        rw [lenN] at this
        rw [this, List.take_add_one, he]
        simp
      rw [st] at ap
      have ap1 : ∀ ds (fr : LA), bm1 "list" appendL fr ds (.ok (.ref S.length) _) = bm2 appendL (.ref S.length) (fr ds _) := fun ds fr => bm1_r gl
      have i0 : ∀ S, ixL (dvQ e) (.int 0) S = .ok (.int e.2.1) S := fun S => ix_t (by decide) rfl
      have i1 : ∀ S, ixL (dvQ e) (.int 1) S = .ok (.int e.2.2) S := fun S => ix_t (by decide) rfl
      have nx : isX (dvQ e) = false := rfl
      have el : lv5 (e.1, a, e.2.1, b, e.2.2) = .tup [.int e.1, .str a, .int e.2.1, .str b, .int e.2.2] := rfl
      rw [el] at ap
      refine ⟨(some (.int e.1), some (dvQ e)), ?_⟩
      generalize (S.set k (LO.dcl tvs)).set n (.dck (dayD L)) ++ [LO.lst ((acc ++ (L.take i).map fun e => (e.1, a, e.2.1, b, e.2.2)).map lv5)] = S1 at *
      generalize (S.set k (LO.dcl tvs)).set n (.dck (dayD L)) ++ [LO.lst ((acc ++ (L.take (i + 1)).map fun e => (e.1, a, e.2.1, b, e.2.2)).map lv5)] = S2 at *
      generalize dvQ e = E at *
      simp [turn, gTp, gsCons, gNm, gsNil, b_Rates_quotes_2, i0, i1, nx, ap1, ap]) (x4, x5)
  rw [List.length_map, List.take_length, List.take_zero, List.map_nil, List.append_nil] at loop
  refine ⟨j'.1, j'.2, ?_⟩
  have kl : keysL [.str a, .str b] = some [.inr a, .inr b] := rfl
  have fo := fld_ok (c := 100) (i := 0) (gr [.lst (acc.map lv5)]) rfl
  have ix := ix_dcl (gk [.lst (acc.map lv5)]) kl g
  have e := lockS_e (fd := lOp ixL (lUn (fldL 100 0) (lVar 0)) (lTup (lCons (lVar 2) (lCons (lVar 3) lNil)))) (fb := lFor (lItems (lOp ixL (lUn (fldL 100 0) (lVar 0)) (lTup (lCons (lVar 2) (lCons (lVar 3) lNil))))) (gTp (gsCons (gNm 4) (gsCons (gNm 5) gsNil))) b_Rates_quotes_2)
    (ds := [some (.ref r), some (.ref S.length), some (.str a), some (.str b), x4, x5]) (ds' := [some (.ref r), some (.ref S.length), some (.str a), some (.str b), j'.1, j'.2]) (S := S.set k (.dcl tvs) ++ [.lst (acc.map lv5)]) (S0 := S.set k (.dcl tvs) ++ [.lst (acc.map lv5)]) (S' := (S.set k (.dcl tvs)).set n (.dck (dayD L)) ++ [.lst ((acc ++ L.map fun e => (e.1, a, e.2.1, b, e.2.2)).map lv5)]) (n := n) (kvs := dayD L) (by
      generalize S.set k (.dcl tvs) ++ [.lst (acc.map lv5)] = S1 at *
      simp [fo, ix]) (gn _) (by
      rw [sn]
      have gk2 : ((S.set k (LO.dcl tvs)).set n (.dck (dayD L)) ++ [LO.lst (acc.map lv5)])[k]? = some (.dcl tvs) := by
        rw [List.getElem?_append_left (by rw [lenN]; exact kS), List.getElem?_set_ne nk, List.getElem?_set_self kS]
      have gr2 : ((S.set k (LO.dcl tvs)).set n (.dck (dayD L)) ++ [LO.lst (acc.map lv5)])[r]? = some (.ins 100 [.ref k]) := by
        rw [List.getElem?_append_left (by rw [lenN]; exact rS), List.getElem?_set_ne nr, List.getElem?_set_ne fun z => rk z.symm]
        exact h.ins
      have gn2 : ((S.set k (LO.dcl tvs)).set n (.dck (dayD L)) ++ [LO.lst (acc.map lv5)])[n]? = some (.dck (dayD L)) := by
        rw [List.getElem?_append_left (by rw [lenN]; exact nS), List.getElem?_set_self (by rw [lenS]; exact nS)]
      have fo2 := fld_ok (c := 100) (i := 0) gr2 rfl
      have ix2 := ix_dcl gk2 kl g
      have it := itemO_k gn2
      have em : (dayD L).map (fun kv => (.tup [keyV kv.1, kv.2] : LV)) = L.map fun e => (.tup [.int e.1, dvQ e] : LV) := by
        unfold dayD
        rw [List.map_map]
        rfl
      rw [em] at it
      generalize (L.map fun e => (.tup [.int e.1, dvQ e] : LV)) = W at *
      generalize (S.set k (LO.dcl tvs)).set n (.dck (dayD L)) ++ [LO.lst (acc.map lv5)] = S1 at *
      simp only [lItems] at *
      simp [lItems, fo2, ix2, it, loop]) (by
      rw [List.getElem?_append_left (by rw [lenN]; exact nS), List.getElem?_set_self (by rw [lenS]; exact nS)])
  show b_Rates_quotes_1 _ _ = _
  unfold b_Rates_quotes_1
  rw [e, List.set_append_left n _ (by rw [lenN]; exact nS), List.set_set, set_same (by rw [List.getElem?_set_ne fun z => nk z.symm]; exact hn)]
theorem flat_len {S : Sto} {r k : Nat} {tvs : List (List Key × LV)} {Q : List Qt} (h : Rts S r k tvs Q) : ∀ l : List (List Key × LV), (∀ kv ∈ l, kv ∈ tvs) → (l.flatMap (daysAt S)).length ≤ l.length * Q.length
  | [], _ => by simp
  | kv :: l, hl => by
    have ih := flat_len h l fun x hx => hl x (List.mem_cons_of_mem _ hx)
    obtain ⟨a, b, n, e, _, _⟩ := h.key kv (hl kv (List.mem_cons_self ..))
    obtain ⟨L, h1, h2⟩ := h.day a b n (getK_nd h.nd (by rw [← e]; exact hl kv (List.mem_cons_self ..)))
    rw [List.flatMap_cons, List.length_append, e, daysAt_e h1, List.length_map, List.length_cons, Nat.add_mul, Nat.one_mul]
    have := h2.len
    omega
theorem quotes_walk {S : Sto} {r k : Nat} {tvs : List (List Key × LV)} {Q : List Qt} (h : Rts S r k tvs Q) (hl : Q.length ≤ 31) : ∃ y2 y3 y4 y5,
    lLockS (lUn (fldL 100 0) (lVar 0)) (lFor (lIterD (lUn (fldL 100 0) (lVar 0))) (gTp (gsCons (gNm 2) (gsCons (gNm 3) gsNil))) b_Rates_quotes_1) [some (.ref r), some (.ref S.length), none, none, none, none] (S ++ [.lst []]) =
      .nx [some (.ref r), some (.ref S.length), y2, y3, y4, y5] (S ++ [.lst ((allQ S tvs).map lv5)]) := by
  have kS : k < S.length := (List.getElem?_eq_some_iff.mp h.tab).1
  have rS : r < S.length := (List.getElem?_eq_some_iff.mp h.ins).1
  have rk : r ≠ k := fun z => by have := h.ins; rw [z, h.tab] at this; cases this
  have lenS : (S.set k (LO.dcl tvs)).length = S.length := List.length_set
  have tl' := h.len
  have gk : ∀ U : Sto, (S.set k (LO.dcl tvs) ++ U)[k]? = some (.dcl tvs) := fun U => by rw [List.getElem?_append_left (by rw [lenS]; exact kS), List.getElem?_set_self kS]
  have gr : ∀ U : Sto, (S.set k (LO.dcl tvs) ++ U)[r]? = some (.ins 100 [.ref k]) := fun U => by
    rw [List.getElem?_append_left (by rw [lenS]; exact rS), List.getElem?_set_ne fun z => rk z.symm]
    exact h.ins
  obtain ⟨j', loop⟩ := for_at (J := Option LV × Option LV × Option LV × Option LV) (lg := gTp (gsCons (gNm 2) (gsCons (gNm 3) gsNil))) (fb := b_Rates_quotes_1) (xs := tvs.map fun kv => keyT kv.1)
    (fun _ j => [some (.ref r), some (.ref S.length), j.1, j.2.1, j.2.2.1, j.2.2.2]) (fun i => S.set k (.dcl tvs) ++ [.lst (((tvs.take i).flatMap (daysAt S)).map lv5)]) (fun i v hv j => by
      rw [List.getElem?_map, Option.map_eq_some_iff] at hv
      obtain ⟨kv, he, rfl⟩ := hv
      have hm := List.mem_of_getElem? he
      obtain ⟨a, b, n, rfl, _, _⟩ := h.key kv hm
      have g := getK_nd h.nd hm
      obtain ⟨L, h1, h2⟩ := h.day a b n g
      have fl := flat_len h (tvs.take i) fun x hx => List.mem_of_mem_take hx
      have il := (List.getElem?_eq_some_iff.mp he).1
      have bb : ((tvs.take i).flatMap (daysAt S)).length ≤ 31 * 31 := Nat.le_trans fl (Nat.mul_le_mul (by rw [List.length_take]; omega) hl)
      obtain ⟨y4, y5, e⟩ := quotes_in h g h1 ((tvs.take i).flatMap (daysAt S)) (by have := h2.len; omega) j.2.2.1 j.2.2.2
      refine ⟨(some (.str a), some (.str b), y4, y5), ?_⟩
      have tk : (tvs.take (i + 1)).flatMap (daysAt S) = (tvs.take i).flatMap (daysAt S) ++ L.map fun e => (e.1, a, e.2.1, b, e.2.2) := by
        rw [List.take_add_one, he, List.flatMap_append, ← daysAt_e h1 (a := a) (b := b)]
        simp
      rw [tk]
      show turn _ _ (.tup [.str a, .str b]) [some (.ref r), some (.ref S.length), j.1, j.2.1, j.2.2.1, j.2.2.2] _ = _
      generalize S.set k (.dcl tvs) ++ [.lst (((tvs.take i).flatMap (daysAt S) ++ L.map fun e => (e.1, a, e.2.1, b, e.2.2)).map lv5)] = S2 at *
      generalize S.set k (.dcl tvs) ++ [.lst (((tvs.take i).flatMap (daysAt S)).map lv5)] = S1 at *
      simp [turn, gTp, gsCons, gNm, gsNil, e]) (none, none, none, none)
  rw [List.length_map, List.take_length, List.take_zero] at loop
  have loop : forS (gTp (gsCons (gNm 2) (gsCons (gNm 3) gsNil))) b_Rates_quotes_1 [some (.ref r), some (.ref S.length), none, none, none, none] (.ok (itOf (tvs.map fun kv => keyT kv.1)) (S.set k (.dcl tvs) ++ [.lst []])) = .nx [some (.ref r), some (.ref S.length), j'.1, j'.2.1, j'.2.2.1, j'.2.2.2] (S.set k (.dcl tvs) ++ [.lst ((allQ S tvs).map lv5)]) := loop
  refine ⟨j'.1, j'.2.1, j'.2.2.1, j'.2.2.2, ?_⟩
  have s0 : (S ++ [LO.lst []]).set k (.dcl tvs) = S.set k (.dcl tvs) ++ [.lst []] := List.set_append_left k _ kS
  have e := lockS_t (fd := lUn (fldL 100 0) (lVar 0)) (fb := lFor (lIterD (lUn (fldL 100 0) (lVar 0))) (gTp (gsCons (gNm 2) (gsCons (gNm 3) gsNil))) b_Rates_quotes_1) (ds := [some (.ref r), some (.ref S.length), none, none, none, none]) (ds' := [some (.ref r), some (.ref S.length), j'.1, j'.2.1, j'.2.2.1, j'.2.2.2]) (S := S ++ [.lst []]) (S0 := S ++ [.lst []]) (S' := S.set k (.dcl tvs) ++ [.lst ((allQ S tvs).map lv5)]) (n := k) (kvs := tvs) (by simp [fld_ok (get_more h.ins)]) (get_more h.tab) (by
    rw [s0]
    have di := dictO_t (gk [.lst []])
    have fo := fld_ok (c := 100) (i := 0) (gr [.lst []]) rfl
    generalize S.set k (.dcl tvs) ++ [.lst []] = S1 at *
    simp [fo, di, loop]) (gk _)
  rw [e, List.set_append_left k _ (by rw [lenS]; exact kS), List.set_set, set_same h.tab]
theorem quotesR_e {S : Sto} {r k : Nat} {tvs : List (List Key × LV)} {Q : List Qt} (h : Rts S r k tvs Q) (hl : Q.length ≤ 31) : f_Rates_quotes [.ref r] S = .ok (.lst (sortV ((allQ S tvs).map lv5))) S := by
  obtain ⟨y2, y3, y4, y5, e⟩ := quotes_walk h hl
  have fl := flat_len h tvs fun x hx => hx
  have tl' := h.len
  have bb : (allQ S tvs).length ≤ 31 * 31 := Nat.le_trans fl (Nat.mul_le_mul (by omega) hl)
  have so := sorted_ok (t := false) (S := S ++ [.lst ((allQ S tvs).map lv5)]) (v := .ref S.length) (xs := (allQ S tvs).map lv5) (ls_r (by rw [get_app0]; rfl)) (srt_5 (fun x hx => by
    obtain ⟨q, _, rfl⟩ := List.mem_map.mp hx
    exact ⟨_, _, _, _, _, rfl⟩) (by rw [List.length_map]; omega))
  simp only [newL] at so
  have lw : lowVs S.length (sortV ((allQ S tvs).map lv5)) = true := lows_all.mpr fun v hv => by
    have := (sortV_perm _).mem_iff.mp hv
    obtain ⟨q, _, rfl⟩ := List.mem_map.mp this
    rfl
  show mkFn 1 6 g_Rates_quotes _ _ = _
  generalize sortV ((allQ S tvs).map lv5) = V at *
  simp [e_fn, g_Rates_quotes, e, so, gc_low, lowV, lw]
theorem mem_allQ {S : Sto} {r k : Nat} {tvs : List (List Key × LV)} {Q : List Qt} (h : Rts S r k tvs Q) (e : Q5) : e ∈ allQ S tvs ↔ Holds5 Q e := by
  obtain ⟨d, a, x, b, y⟩ := e
  unfold allQ
  rw [List.mem_flatMap]
  constructor
  · rintro ⟨kv, hkv, he⟩
    obtain ⟨a', b', n, rfl, lt, _⟩ := h.key kv hkv
    obtain ⟨L, h1, h2⟩ := h.day a' b' n (getK_nd h.nd hkv)
    rw [daysAt_e h1] at he
    obtain ⟨f, hf, z⟩ := List.mem_map.mp he
    cases z
    exact ⟨lt, (day_mem h2 f).mp hf⟩
  · rintro ⟨lt, hn⟩
    have lt : sLt a b = true := lt
    have hn : newD Q a b d = some (d, x, y) := hn
    cases g : getK tvs [.inr a, .inr b] with
    | none =>
      have := newD_none (h.non a b g (sLt_asym lt)) d
      rw [this] at hn
      cases hn
    | some v =>
      obtain ⟨a', b', n, L, q1, q2, _, h1, h2⟩ := h.ref g
      cases q1
      cases q2
      refine ⟨_, getK_mem g, ?_⟩
      rw [daysAt_e h1]
      exact List.mem_map.mpr ⟨(d, x, y), (day_mem h2 (d, x, y)).mpr hn, rfl⟩
theorem nd_daysAt {S : Sto} {a b : Str} {n : Nat} {L : List Dq} (h : S[n]? = some (.dct (dayD L))) (nd : (L.map Prod.fst).Nodup) : (daysAt S ([.inr a, .inr b], .ref n)).Nodup := by
  rw [daysAt_e h]
  have : L.Pairwise fun e f => e.1 ≠ f.1 := List.pairwise_map.mp nd
  exact List.pairwise_map.mpr (this.imp fun q z => q (congrArg (fun x : Q5 => x.1) z))
theorem nd_allQ {S : Sto} {r k : Nat} {tvs : List (List Key × LV)} {Q : List Qt} (h : Rts S r k tvs Q) : ∀ l : List (List Key × LV), (∀ kv ∈ l, kv ∈ tvs) → (l.map (·.1)).Nodup → (l.flatMap (daysAt S)).Nodup
  | [], _, _ => List.nodup_nil
  | kv :: l, hl, nd => by
    rw [List.map_cons, List.nodup_cons] at nd
    have ih := nd_allQ h l (fun x hx => hl x (List.mem_cons_of_mem _ hx)) nd.2
    have hkv := hl kv (List.mem_cons_self ..)
    obtain ⟨a, b, n, e, _, _⟩ := h.key kv hkv
    obtain ⟨L, h1, h2⟩ := h.day a b n (getK_nd h.nd (by rw [← e]; exact hkv))
    rw [List.flatMap_cons, List.nodup_append]
    refine ⟨by rw [e]; exact nd_daysAt h1 h2.nd, ih, fun x hx y hy z => ?_⟩
    rw [e, daysAt_e h1] at hx
    obtain ⟨f, _, rfl⟩ := List.mem_map.mp hx
    obtain ⟨kv2, hk2, hy⟩ := List.mem_flatMap.mp hy
    obtain ⟨a2, b2, n2, e2, _, _⟩ := h.key kv2 (hl kv2 (List.mem_cons_of_mem _ hk2))
    obtain ⟨L2, g1, g2⟩ := h.day a2 b2 n2 (getK_nd h.nd (by rw [← e2]; exact hl kv2 (List.mem_cons_of_mem _ hk2)))
    rw [e2, daysAt_e g1] at hy
    obtain ⟨f2, _, rfl⟩ := List.mem_map.mp hy
    have za : a = a2 := congrArg (fun x : Q5 => x.2.1) z
    have zb : b = b2 := congrArg (fun x : Q5 => x.2.2.2.1) z
    refine nd.1 (List.mem_map.mpr ⟨kv2, hk2, ?_⟩)
    rw [e, e2, za, zb]
/-- the quotes told are those of any list that holds the same -/
theorem quotes_same {S : Sto} {r k : Nat} {tvs : List (List Key × LV)} {Q : List Qt} (h : Rts S r k tvs Q) {E : List Q5} (nd : E.Nodup) (hE : ∀ e, e ∈ E ↔ Holds5 Q e) : sortV ((allQ S tvs).map lv5) = sortV (E.map lv5) := by
  refine sort_5 (List.Perm.map lv5 ((List.perm_ext_iff_of_nodup (nd_allQ h tvs (fun _ hx => hx) h.nd) nd).mpr fun e => (mem_allQ h e).trans (hE e).symm)) fun x hx => ?_
  obtain ⟨q, _, rfl⟩ := List.mem_map.mp hx
  exact ⟨_, _, _, _, _, rfl⟩
/-! ### the law's own list -/
theorem newD_le {Q : List Qt} {a b : Str} {day : Int} {g : Dq} (h : newD Q a b day = some g) : g.1 ≤ day := by
  have : ∀ (Q : List Qt) (o : Option Dq), (∀ g, o = some g → g.1 ≤ day) → ∀ g, Q.foldl (stepQ a b day) o = some g → g.1 ≤ day := fun Q => by
    induction Q with
    | nil => exact fun o ho g hg => ho g hg
    | cons x Q ih =>
      intro o ho g hg
      rw [List.foldl_cons] at hg
      refine ih _ (fun f hf => ?_) g hg
      unfold stepQ at hf
      split at hf
      · rename_i c
        cases q : x.of a b with
        | none => rw [q] at hf; exact ho f hf
        | some e =>
          rw [q] at hf
          have : e = f := Option.some.inj hf
          rw [← this, of_day q]
          exact c.1
      · exact ho f hf
  exact this Q none (fun g z => by cases z) g h
def orient (x : Qt) : Q5 := if sLt x.a x.b = true then (x.day, x.a, x.p, x.b, x.q) else (x.day, x.b, x.q, x.a, x.p)
def key5 (e : Q5) : Int × Str × Str := (e.1, e.2.1, e.2.2.2.1)
theorem orient_of {x : Qt} (ne : x.a ≠ x.b) : sLt (orient x).2.1 (orient x).2.2.2.1 = true ∧ x.of (orient x).2.1 (orient x).2.2.2.1 = some ((orient x).1, (orient x).2.2.1, (orient x).2.2.2.2) := by
  unfold orient
  cases l : sLt x.a x.b with
  | true =>
    rw [if_pos rfl]
    exact ⟨l, by unfold Qt.of; rw [if_pos ⟨rfl, rfl⟩]⟩
  | false =>
    rw [if_neg (by decide)]
    exact ⟨sLt_tri l ne, by unfold Qt.of; rw [if_neg fun z => ne z.1, if_pos ⟨rfl, rfl⟩]⟩
theorem holds_snoc {Q : List Qt} {x : Qt} (ne : x.a ≠ x.b) (e : Q5) : Holds5 (Q ++ [x]) e ↔ e = orient x ∨ (key5 e ≠ key5 (orient x) ∧ Holds5 Q e) := by
  obtain ⟨lo, oo⟩ := orient_of ne
  obtain ⟨d, a, p, b, q⟩ := e
  generalize orient x = O at *
  obtain ⟨d', a', p', b', q'⟩ := O
  have lo : sLt a' b' = true := lo
  have oo : x.of a' b' = some (d', p', q') := oo
  have xd : d' = x.day := of_day oo
  unfold Holds5 key5
  rw [newD_snoc]
  simp only
  by_cases hk : a = a' ∧ b = b'
  · obtain ⟨rfl, rfl⟩ := hk
    by_cases hd : d = d'
    · subst hd
      have st : stepQ a b d (newD Q a b d) x = some (d, p', q') := by
        unfold stepQ
        rw [if_pos ⟨by omega, fun g hg => by have := newD_le hg; omega⟩, oo]
        rfl
      rw [st]
      simp [lo, Prod.ext_iff, eq_comm]
    · have st : stepQ a b d (newD Q a b d) x = some (d, p, q) ↔ newD Q a b d = some (d, p, q) := by
        unfold stepQ
        by_cases c : x.day ≤ d ∧ beats (newD Q a b d) x.day
        · rw [if_pos c, oo]
          constructor
          · intro z
            have z : some (d', p', q') = some (d, p, q) := z
            cases z
            exact absurd rfl hd
          · intro z
            have := c.2 _ z
            have : d ≤ x.day := this
            omega
        · rw [if_neg c]
      rw [st]
      simp [hd]
  · have st : sLt a b = true → stepQ a b d (newD Q a b d) x = newD Q a b d := fun l => by
      unfold stepQ
      rw [of_other oo lo (sLt_asym l) hk]
      split <;> rfl
    constructor
    · rintro ⟨l, z⟩
      rw [st l] at z
      exact .inr ⟨fun k => hk (by cases k; exact ⟨rfl, rfl⟩), l, z⟩
    · rintro (z | ⟨_, l, z⟩)
      · cases z
        exact absurd ⟨rfl, rfl⟩ hk
      · exact ⟨l, by rw [st l]; exact z⟩

end K09


set_option Elab.async false
set_option linter.all false
set_option maxRecDepth 100000
set_option maxHeartbeats 4000000
namespace K09
open PySem PySem.Spec PyProof.Rows L2 LL
def k5 (e : Q5) : List Key := [.inl e.1, .inr e.2.1, .inr e.2.2.2.1]
def p5 (e : Q5) : LV := .tup [.int e.2.2.1, .int e.2.2.2.2]
def lastD (E : List Q5) : List (List Key × LV) := E.map fun e => (k5 e, p5 e)
theorem k5_iff {e f : Q5} : k5 e = k5 f ↔ key5 e = key5 f := by
  unfold k5 key5
  simp only [List.cons.injEq, Sum.inl.injEq, Sum.inr.injEq, and_true, Prod.mk.injEq]
def putE (E : List Q5) (e : Q5) : List Q5 := if (E.any fun f => decide (key5 f = key5 e)) = true then E.map (fun f => if key5 f = key5 e then e else f) else E ++ [e]
theorem mem_putE {E : List Q5} {e f : Q5} : f ∈ putE E e ↔ f = e ∨ (f ∈ E ∧ key5 f ≠ key5 e) := by
  unfold putE
  split
  · rename_i c
    rw [List.any_eq_true] at c
    obtain ⟨g, hg, hge⟩ := c
    have hge := of_decide_eq_true hge
    rw [List.mem_map]
    constructor
    · rintro ⟨u, hu, rfl⟩
      by_cases k : key5 u = key5 e
      · rw [if_pos k]; exact .inl rfl
      · rw [if_neg k]; exact .inr ⟨hu, k⟩
    · rintro (rfl | ⟨h1, h2⟩)
      · exact ⟨g, hg, by rw [if_pos hge]⟩
      · exact ⟨f, h1, by rw [if_neg h2]⟩
  · rename_i c
    rw [List.any_eq_true] at c
    rw [List.mem_append, List.mem_singleton]
    constructor
    · rintro (h | rfl)
      · exact .inr ⟨h, fun k => c ⟨f, h, decide_eq_true k⟩⟩
      · exact .inl rfl
    · rintro (rfl | ⟨h1, _⟩)
      · exact .inr rfl
      · exact .inl h1
theorem nd_putE {E : List Q5} {e : Q5} (h : (E.map key5).Nodup) : ((putE E e).map key5).Nodup := by
  unfold putE
  split
  · have : (E.map (fun f => if key5 f = key5 e then e else f)).map key5 = E.map key5 := by
      rw [List.map_map]
      refine List.map_congr_left fun f _ => ?_
      show key5 (if key5 f = key5 e then e else f) = key5 f
      split
      · rename_i k; exact k.symm
      · rfl
    rw [this]
    exact h
  · rename_i c
    rw [List.any_eq_true] at c
    rw [List.map_append, List.nodup_append]
    refine ⟨h, by simp, fun a ha b hb z => ?_⟩
    obtain ⟨f, hf, rfl⟩ := List.mem_map.mp ha
    rw [List.map_cons, List.map_nil, List.mem_singleton] at hb
    exact c ⟨f, hf, decide_eq_true (z.trans hb)⟩
theorem len_putE (E : List Q5) (e : Q5) : (putE E e).length ≤ E.length + 1 := by
  unfold putE
  split <;> simp
theorem put_lastD (E : List Q5) (e : Q5) : putL (lastD E) (k5 e) (p5 e) = lastD (putE E e) := by
  have a : ((lastD E).any fun kv => decide (kv.1 = k5 e)) = (E.any fun f => decide (key5 f = key5 e)) := by
    unfold lastD
    rw [List.any_map]
    congr 1
    funext f
    show decide (k5 f = k5 e) = _
    exact decide_eq_decide.mpr k5_iff
  unfold putL putE
  rw [a]
  split
  · unfold lastD
    rw [List.map_map, List.map_map]
    refine List.map_congr_left fun f _ => ?_
    show (if k5 f = k5 e then (k5 f, p5 e) else (k5 f, p5 f)) = (k5 (if key5 f = key5 e then e else f), p5 (if key5 f = key5 e then e else f))
    by_cases c : key5 f = key5 e
    · rw [if_pos c, if_pos (k5_iff.mpr c), k5_iff.mpr c]
    · rw [if_neg c, if_neg (fun z => c (k5_iff.mp z))]
  · unfold lastD
    rw [List.map_append]
    rfl
noncomputable def lastQ (Q : List Qt) : List Q5 := Q.foldl (fun E x => putE E (orient x)) []
theorem lastQ_snoc (Q : List Qt) (x : Qt) : lastQ (Q ++ [x]) = putE (lastQ Q) (orient x) := by
  unfold lastQ
  rw [List.foldl_append]
  rfl
theorem len_lastQ (Q : List Qt) : (lastQ Q).length ≤ Q.length := by
  refine snoc_ind (p := fun Q => (lastQ Q).length ≤ Q.length) (Nat.le_refl _) (fun l x ih => ?_) Q
  have := len_putE (lastQ l) (orient x)
  rw [lastQ_snoc, List.length_append, List.length_singleton]
  omega
theorem nd_lastQ (Q : List Qt) : ((lastQ Q).map key5).Nodup := by
  refine snoc_ind (p := fun Q => ((lastQ Q).map key5).Nodup) List.nodup_nil (fun l x ih => ?_) Q
  rw [lastQ_snoc]
  exact nd_putE ih
theorem mem_lastQ (Q : List Qt) : (∀ x ∈ Q, x.a ≠ x.b) → ∀ e, e ∈ lastQ Q ↔ Holds5 Q e := by
  refine snoc_ind (p := fun Q => (∀ x ∈ Q, x.a ≠ x.b) → ∀ e, e ∈ lastQ Q ↔ Holds5 Q e) (fun _ e => ?_) (fun l x ih ne e => ?_) Q
  · constructor
    · intro h; cases h
    · rintro ⟨_, h⟩; cases h
  · rw [lastQ_snoc, mem_putE, holds_snoc (ne x (by simp)), ih (fun y hy => ne y (List.mem_append_left _ hy))]
    constructor
    · rintro (h | ⟨h1, h2⟩)
      · exact .inl h
      · exact .inr ⟨h2, h1⟩
    · rintro (h | ⟨h1, h2⟩)
      · exact .inl h
      · exact .inr ⟨h2, h1⟩
theorem nd_keys {E : List Q5} (h : (E.map key5).Nodup) : E.Nodup := by
  have : E.Pairwise fun e f => key5 e ≠ key5 f := List.pairwise_map.mp h
  exact this.imp fun q z => q (congrArg key5 z)
theorem get_lastD {E : List Q5} (h : (E.map key5).Nodup) {e : Q5} (he : e ∈ E) : getK (lastD E) (k5 e) = some (p5 e) := by
  refine getK_nd ?_ (List.mem_map.mpr ⟨e, he, rfl⟩)
  unfold lastD
  rw [List.map_map]
  have h1 : E.Pairwise fun e f => key5 e ≠ key5 f := List.pairwise_map.mp h
  exact List.pairwise_map.mpr (h1.imp fun q z => q (k5_iff.mp z))
noncomputable def namesQ (Q : List Qt) : List Str := Q.foldl (fun N x => addN (addN N x.a) x.b) []
theorem namesQ_snoc (Q : List Qt) (x : Qt) : namesQ (Q ++ [x]) = addN (addN (namesQ Q) x.a) x.b := by
  unfold namesQ
  rw [List.foldl_append]
  rfl
theorem len_namesQ (Q : List Qt) : (namesQ Q).length ≤ 2 * Q.length := by
  refine snoc_ind (p := fun Q => (namesQ Q).length ≤ 2 * Q.length) (Nat.le_refl _) (fun l x ih => ?_) Q
  have h1 := len_addN (namesQ l) x.a
  have h2 := len_addN (addN (namesQ l) x.a) x.b
  rw [namesQ_snoc, List.length_append, List.length_singleton]
  omega
theorem nd_namesQ (Q : List Qt) : (namesQ Q).Nodup := by
  refine snoc_ind (p := fun Q => (namesQ Q).Nodup) List.nodup_nil (fun l x ih => ?_) Q
  rw [namesQ_snoc]
  exact nd_addN (nd_addN ih)
theorem mem_namesQ (Q : List Qt) (c : Str) : c ∈ namesQ Q ↔ ∃ x ∈ Q, x.a = c ∨ x.b = c := by
  refine snoc_ind (p := fun Q => c ∈ namesQ Q ↔ ∃ x ∈ Q, x.a = c ∨ x.b = c) ⟨fun h => (by cases h), fun ⟨x, h, _⟩ => (by cases h)⟩ (fun l x ih => ?_) Q
  rw [namesQ_snoc, mem_addN, mem_addN, ih]
  simp only [List.mem_append, List.mem_singleton]
  constructor
  · rintro ((⟨y, h1, h2⟩ | h) | h)
    · exact ⟨y, .inl h1, h2⟩
    · exact ⟨x, .inr rfl, .inl h.symm⟩
    · exact ⟨x, .inr rfl, .inr h.symm⟩
  · rintro ⟨y, h1 | rfl, h2⟩
    · exact .inl (.inl ⟨y, h1, h2⟩)
    · rcases h2 with h2 | h2
      · exact .inl (.inr h2.symm)
      · exact .inr h2.symm
theorem names_same {S : Sto} {r k : Nat} {tvs : List (List Key × LV)} {Q : List Qt} (h : Rts S r k tvs Q) (ne : ∀ x ∈ Q, x.a ≠ x.b) : coinsT tvs = sortS (namesQ Q) := by
  unfold coinsT
  refine sortS_same ((List.perm_ext_iff_of_nodup (nd_namesT tvs [] List.nodup_nil) (nd_namesQ Q)).mpr fun c => ?_)
  have e1 : c ∈ coinsT tvs ↔ c ∈ namesT tvs := (sortS_perm _).mem_iff
  exact e1.symm.trans ((mem_coins h ne c).trans (mem_namesQ Q c).symm)
/-- what the law's lists are -/
noncomputable def quotesL (Q : List Qt) : List LV := sortV ((lastQ Q).map lv5)
noncomputable def coinsL (Q : List Qt) : List LV := (sortS (namesQ Q)).map .str
theorem low_quotesL (n : Nat) (Q : List Qt) : lowVs n (quotesL Q) = true := lows_all.mpr fun v hv => by
  have := (sortV_perm _).mem_iff.mp hv
  obtain ⟨q, _, rfl⟩ := List.mem_map.mp this
  rfl
theorem law_lists_loop {n : Nat} {Q : List Qt} {S : Sto} (hn : S[n]? = some (.lst (Q.map Qt.lv))) (hl : Q.length ≤ 31) (ne : ∀ x ∈ Q, x.a ≠ x.b) : ∃ j3 j4 j5 j6 j7,
    forS (gTp (gsCons (gNm 3) (gsCons (gNm 4) (gsCons (gNm 5) (gsCons (gNm 6) (gsCons (gNm 7) gsNil)))))) b__law_lists_1 [some (.ref n), some (.ref S.length), some (.ref (S.length + 1)), none, none, none, none, none, none] (.ok (itRef n Q.length) (S ++ [.dcT [], .dct []])) =
      .nx [some (.ref n), some (.ref S.length), some (.ref (S.length + 1)), j3, j4, j5, j6, j7, none] (S ++ [.dcT (lastD (lastQ Q)), .dct (nameD (namesQ Q))]) := by
  obtain ⟨j', loop⟩ := for_atI (J := Option LV × Option LV × Option LV × Option LV × Option LV) (lg := gTp (gsCons (gNm 3) (gsCons (gNm 4) (gsCons (gNm 5) (gsCons (gNm 6) (gsCons (gNm 7) gsNil)))))) (fb := b__law_lists_1) (l := itRef n Q.length) (xs := Q.map Qt.lv)
    (fun _ j => [some (.ref n), some (.ref S.length), some (.ref (S.length + 1)), j.1, j.2.1, j.2.2.1, j.2.2.2.1, j.2.2.2.2, none]) (fun i => S ++ [.dcT (lastD (lastQ (Q.take i))), .dct (nameD (namesQ (Q.take i)))]) (fun i => ItIs.refm (get_more hn)) (fun i v hv j => by
      rw [List.getElem?_map, Option.map_eq_some_iff] at hv
      obtain ⟨x, he, rfl⟩ := hv
      refine ⟨(some (.int x.day), some (.str x.a), some (.int x.p), some (.str x.b), some (.int x.q)), ?_⟩
      have nex := ne x (List.mem_of_getElem? he)
      have tk : Q.take (i + 1) = Q.take i ++ [x] := by rw [List.take_add_one, he]; rfl
      rw [tk, lastQ_snoc, namesQ_snoc]
      have b1 := len_lastQ (Q.take i)
      have b2 := len_namesQ (Q.take i)
      have b3 : (Q.take i).length ≤ 31 := by rw [List.length_take]; omega
      generalize Q.take i = P at *
      generalize lastQ P = E at *
      generalize namesQ P = N at *
      have b4 := len_addN N x.a
      have g2 : ∀ A B : LO, (S ++ [A, B])[S.length + 1]? = some B := fun A B => by rw [get_app]; rfl
      have g1 : ∀ A B : LO, (S ++ [A, B])[S.length]? = some A := fun A B => by rw [get_app0]; rfl
      have s2 : ∀ A B C : LO, (S ++ [A, B]).set (S.length + 1) C = S ++ [A, C] := fun A B C => by rw [set_app]; rfl
      have s1 : ∀ A B C : LO, (S ++ [A, B]).set S.length C = S ++ [C, B] := fun A B C => by rw [set_app0]; rfl
      have u1 : putO (.ref (S.length + 1)) (.str x.a) (.bl true) (S ++ [.dcT (lastD E), .dct (nameD N)]) = some (S ++ [.dcT (lastD E), .dct (nameD (addN N x.a))]) := by
        rw [put_d (k := .inr x.a) (g2 _ _) rfl (by unfold nameD; rw [List.length_map]; omega), s2, put_nameD]
      have u2 : putO (.ref (S.length + 1)) (.str x.b) (.bl true) (S ++ [.dcT (lastD E), .dct (nameD (addN N x.a))]) = some (S ++ [.dcT (lastD E), .dct (nameD (addN (addN N x.a) x.b))]) := by
        rw [put_d (k := .inr x.b) (g2 _ _) rfl (by unfold nameD; rw [List.length_map]; omega), s2, put_nameD]
      have u3 : putO (.ref S.length) (.tup [.int (orient x).1, .str (orient x).2.1, .str (orient x).2.2.2.1]) (p5 (orient x)) (S ++ [.dcT (lastD E), .dct (nameD (addN (addN N x.a) x.b))]) = some (S ++ [.dcT (lastD (putE E (orient x))), .dct (nameD (addN (addN N x.a) x.b))]) := by
        rw [put_dT (ks := k5 (orient x)) (g1 _ _) rfl (by unfold lastD; rw [List.length_map]; omega), s1, put_lastD]
      generalize S ++ [LO.dcT (lastD (putE E (orient x))), .dct (nameD (addN (addN N x.a) x.b))] = S4 at *
      generalize S ++ [LO.dcT (lastD E), .dct (nameD (addN (addN N x.a) x.b))] = S3 at *
      generalize S ++ [LO.dcT (lastD E), .dct (nameD (addN N x.a))] = S2 at *
      generalize S ++ [LO.dcT (lastD E), .dct (nameD N)] = S1 at *
      show turn _ _ (.tup [.int x.day, .str x.a, .int x.p, .str x.b, .int x.q]) _ _ = _
      cases l : sLt x.a x.b with
      | true =>
        have e1 : ∀ S, minU [.str x.a, .str x.b] S = .ok (.str x.a) S := fun S => by rw [minU_ss, sLt_asym l]; rfl
        have e2 : ∀ S, maxU [.str x.a, .str x.b] S = .ok (.str x.b) S := fun S => by rw [maxU_ss, l]; rfl
        have u3 : putO (.ref S.length) (.tup [.int x.day, .str x.a, .str x.b]) (.tup [.int x.p, .int x.q]) S3 = some S4 := by
          unfold orient at u3
          rw [if_pos l] at u3
          exact u3
        simp [turn, gTp, gsCons, gNm, gsNil, b__law_lists_1, e_sub, sub3_ok u1, sub3_ok u2, sub3_ok u3, e1, e2, l, -minU_ss, -maxU_ss]
      | false =>
        have l2 := sLt_tri l nex
        have e1 : ∀ S, minU [.str x.a, .str x.b] S = .ok (.str x.b) S := fun S => by rw [minU_ss, l2]; rfl
        have e2 : ∀ S, maxU [.str x.a, .str x.b] S = .ok (.str x.a) S := fun S => by rw [maxU_ss, l]; rfl
        have u3 : putO (.ref S.length) (.tup [.int x.day, .str x.b, .str x.a]) (.tup [.int x.q, .int x.p]) S3 = some S4 := by
          unfold orient at u3
          rw [if_neg (by rw [l]; decide)] at u3
          exact u3
        simp [turn, gTp, gsCons, gNm, gsNil, b__law_lists_1, e_sub, sub3_ok u1, sub3_ok u2, sub3_ok u3, e1, e2, l, -minU_ss, -maxU_ss]) (none, none, none, none, none)
  rw [List.length_map, List.take_length] at loop
  exact ⟨_, _, _, _, _, loop⟩
theorem law_lists_e {n : Nat} {Q : List Qt} {S : Sto} (hn : S[n]? = some (.lst (Q.map Qt.lv))) (hl : Q.length ≤ 31) (ne : ∀ x ∈ Q, x.a ≠ x.b) : f__law_lists [.ref n] S = .ok (.lst [.lst (quotesL Q), .lst (coinsL Q)]) S := by
  obtain ⟨j3, j4, j5, j6, j7, loop⟩ := law_lists_loop hn hl ne
  have it : iterO (.ref n) (S ++ [.dcT [], .dct []]) = .ok (itRef n Q.length) (S ++ [.dcT [], .dct []]) := by
    rw [iter_r (get_more hn), List.length_map]
  have nd := nd_lastQ Q
  have le := len_lastQ Q
  have ln := len_namesQ Q
  have g1 : ∀ A B : LO, (S ++ [A, B])[S.length]? = some A := fun A B => by rw [get_app0]; rfl
  have s1 : ∀ A B C : LO, (S ++ [A, B]).set S.length C = S ++ [C, B] := fun A B C => by rw [set_app0]; rfl
  -- the comprehension
  have comp : lLock (lVar 1) c__law_lists_2 [some (.ref n), some (.ref S.length), some (.ref (S.length + 1)), j3, j4, j5, j6, j7, none] (S ++ [.dcT (lastD (lastQ Q)), .dct (nameD (namesQ Q))]) = .ok (.lst ((lastQ Q).map lv5)) (S ++ [.dcT (lastD (lastQ Q)), .dct (nameD (namesQ Q))]) := by
    have e := lockE_t (fd := lVar 1) (fe := c__law_lists_2) (ds := [some (.ref n), some (.ref S.length), some (.ref (S.length + 1)), j3, j4, j5, j6, j7, none]) (S := S ++ [.dcT (lastD (lastQ Q)), .dct (nameD (namesQ Q))]) (S0 := S ++ [.dcT (lastD (lastQ Q)), .dct (nameD (namesQ Q))]) (v := .lst ((lastQ Q).map lv5)) (S' := S ++ [.dcl (lastD (lastQ Q)), .dct (nameD (namesQ Q))]) (n := S.length) (kvs := lastD (lastQ Q)) (by simp) (g1 _ _) (by
      rw [s1]
      have di := dictO_t (g1 (.dcl (lastD (lastQ Q))) (.dct (nameD (namesQ Q))))
      have em : (lastD (lastQ Q)).map (fun kv => keyT kv.1) = (lastQ Q).map fun e => (.tup [.int e.1, .str e.2.1, .str e.2.2.2.1] : LV) := by
        unfold lastD
        rw [List.map_map]
        rfl
      rw [em] at di
      have body := lcR_all (t := false) (lg := gNm 8) (fe := e__law_lists_2) (ds := [some (.ref n), some (.ref S.length), some (.ref (S.length + 1)), j3, j4, j5, j6, j7, none]) (S := S ++ [.dcl (lastD (lastQ Q)), .dct (nameD (namesQ Q))]) (ws := lastQ Q) (g := fun e => (.tup [.int e.1, .str e.2.1, .str e.2.2.2.1] : LV)) lv5 .of (by omega) (fun e he acc => ⟨_, rfl, by
        have ix := fun U => ix_dcl (S := (S ++ [LO.dcl (lastD (lastQ Q)), .dct (nameD (namesQ Q))]) ++ U) (n := S.length) (xs := [.int e.1, .str e.2.1, .str e.2.2.2.1]) (get_more (g1 _ _)) (ks := k5 e) rfl (get_lastD nd he)
        have ix := ix [.lst acc]
        have i0 : ∀ S, ixL (.tup [.int e.1, .str e.2.1, .str e.2.2.2.1]) (.int 0) S = .ok (.int e.1) S := fun S => ix_t (by decide) rfl
        have i1 : ∀ S, ixL (.tup [.int e.1, .str e.2.1, .str e.2.2.2.1]) (.int 1) S = .ok (.str e.2.1) S := fun S => ix_t (by decide) rfl
        have i2 : ∀ S, ixL (.tup [.int e.1, .str e.2.1, .str e.2.2.2.1]) (.int 2) S = .ok (.str e.2.2.2.1) S := fun S => ix_t (by decide) rfl
        have q0 : ∀ S, ixL (p5 e) (.int 0) S = .ok (.int e.2.2.1) S := fun S => ix_t (by decide) rfl
        have q1 : ∀ S, ixL (p5 e) (.int 1) S = .ok (.int e.2.2.2.2) S := fun S => ix_t (by decide) rfl
        generalize (S ++ [LO.dcl (lastD (lastQ Q)), .dct (nameD (namesQ Q))]) ++ [.lst acc] = S1 at *
        generalize p5 e = P at *
        simp [e__law_lists_2, gNm, i0, i1, i2, ix, q0, q1, lv5]⟩) (fun _ _ => rfl)
      generalize (lastQ Q).map lv5 = V at *
      generalize (lastQ Q).map (fun e => (.tup [.int e.1, .str e.2.1, .str e.2.2.2.1] : LV)) = W at *
      generalize S ++ [LO.dcl (lastD (lastQ Q)), .dct (nameD (namesQ Q))] = S1 at *
      simp [c__law_lists_2, wipeL, di, body, newL]) (g1 _ _)
    rw [e, s1]
  have so := fun S => sorted_ok (t := false) (S := S) (v := .lst ((lastQ Q).map lv5)) (xs := (lastQ Q).map lv5) ls_l (srt_5 (fun x hx => by
    obtain ⟨q, _, rfl⟩ := List.mem_map.mp hx
    exact ⟨_, _, _, _, _, rfl⟩) (by rw [List.length_map]; omega))
  simp only [newL] at so
  have sn := sortedD_ok (t := false) (S := S ++ [.dcT (lastD (lastQ Q)), .dct (nameD (namesQ Q))]) (n := S.length + 1) (kvs := nameD (namesQ Q)) (by rw [get_app]; rfl) (strK_nameD _) (by omega)
  simp only [newL] at sn
  have lw1 := low_quotesL S.length Q
  have lw2 : lowVs S.length (coinsL Q) = true := strs_low _
  have hq : sortV ((lastQ Q).map lv5) = quotesL Q := rfl
  have hc : (sortS (namesQ Q)).map LV.str = coinsL Q := rfl
  rw [hc] at sn
  rw [hq] at so
  generalize quotesL Q = A at *
  generalize coinsL Q = B at *
  generalize (lastQ Q).map lv5 = V at *
  have e1 : f__law_lists [.ref n] S = gcF S (.ok (.lst [.lst A, .lst B]) (S ++ [.dcT (lastD (lastQ Q)), .dct (nameD (namesQ Q))])) := by
    generalize S ++ [LO.dcT (lastD (lastQ Q)), .dct (nameD (namesQ Q))] = S2 at *
    simp [f__law_lists, e_fn, g__law_lists, it, loop, comp, so, sn]
  rw [e1]
  exact gc_low (by simp [lw1, lw2])
end K09


set_option Elab.async false
set_option linter.all false
set_option maxRecDepth 100000
set_option maxHeartbeats 4000000
namespace K09
open PySem PySem.Spec PyProof.Rows L2 LL
/-! ### things that may be odd -/
def Kd : LV → Prop
  | .int _ => True
  | .bl _ => True
  | .non => True
  | .str z => Fine 100 z
  | .lst xs => ∀ n, lowVs n xs = true
  | _ => False
def wholeB (lo hi : Int) : LV → Bool
  | .int i => decide (lo ≤ i) && decide (i ≤ hi)
  | _ => false
def coinB : LV → Bool
  | .str z => isCur (tl z)
  | _ => false
theorem Kd.nx {v : LV} (h : Kd v) : isX v = false := by cases v <;> first | rfl | exact h.elim
theorem among_v {v : LV} (h : Kd v) (lo hi : Int) (S : Sto) : f_is_among [v, .int lo, .int hi] S = .ok (.bl (wholeB lo hi v)) S := by
  cases v with
  | int i => exact is_among_i i lo hi S
  | bl b => exact is_among_o lo hi (Okv.bl b) rfl
  | non => exact is_among_o lo hi Okv.non rfl
  | str z => exact is_among_o lo hi (Okv.str z) rfl
  | lst xs => exact is_among_o lo hi ⟨rfl, "list", rfl⟩ rfl
  | _ => exact h.elim
theorem day_v {v : LV} (h : Kd v) (S : Sto) : f_is_day [v] S = .ok (.bl (wholeB 0 146096 v)) S := by
  have nx := h.nx
  have a := among_v h 0 146096
  generalize wholeB 0 146096 v = B at *
  simp [f_is_day, e_fn, g_is_day, gc_low0, nx, a]
theorem currency_v {v : LV} (h : Kd v) (S : Sto) : f_is_currency [v] S = .ok (.bl (coinB v)) S := by
  cases v with
  | int i => exact is_currency_o (Okv.int i) rfl
  | bl b => exact is_currency_o (Okv.bl b) rfl
  | non => exact is_currency_o Okv.non rfl
  | str z => exact is_currency_s z (by have : z.length ≤ 100 := h.len; omega) S
  | lst xs => exact is_currency_o ⟨rfl, "list", rfl⟩ rfl
  | _ => exact h.elim
theorem law_whole_v {v : LV} (h : Kd v) (lo hi : Int) (S : Sto) : f__law_is_whole [v, .int lo, .int hi] S = .ok (.bl (wholeB lo hi v)) S := by
  cases v with
  | int i =>
    show _ = R.ok (.bl (decide (lo ≤ i) && decide (i ≤ hi))) S
    by_cases h1 : lo ≤ i <;> by_cases h2 : i ≤ hi <;> simp [f__law_is_whole, e_fn, g__law_is_whole, gc_low0, h1, h2]
  | bl b => show _ = R.ok (.bl false) S; simp [f__law_is_whole, e_fn, g__law_is_whole, gc_low0]
  | non => show _ = R.ok (.bl false) S; simp [f__law_is_whole, e_fn, g__law_is_whole, gc_low0]
  | str z => show _ = R.ok (.bl false) S; simp [f__law_is_whole, e_fn, g__law_is_whole, gc_low0]
  | lst xs => show _ = R.ok (.bl false) S; simp [f__law_is_whole, e_fn, g__law_is_whole, gc_low0]
  | _ => exact h.elim
theorem law_cur_s {z : Str} (h : Fine 100 z) (S : Sto) : f__law_is_currency [.str z] S = .ok (.bl (isCur (tl z))) S := by
  have zl : z.length ≤ 100 := h.len
  have ls := len_s (z := z) (S := S) (by omega)
  have comp := lc_signs (t := false) 1 t__law_is_currency_1 [some (.str z), none] z S (fun c => !decide (c ∈ tl greatT)) (by omega) (Nat.lt_succ_self 1) (fun c hc S => by
    simp [t__law_is_currency_1])
  have fo : ∀ ws : List Nat, (∀ c ∈ ws, c ∈ tl z) → fz 60 (.lst (ws.map fun c => .str (one c))) = true := fun ws hw => by
    rw [fz_lst, List.all_eq_true]
    intro v hv
    obtain ⟨c, hc, rfl⟩ := List.mem_map.mp hv
    rw [fz_str]
    exact (Fine.one (h.sg c (hw c hc))).ok
  have eq := eq_fz (S := S) (fo ((tl z).filter fun c => !decide (c ∈ tl greatT)) fun c hc => (List.mem_filter.mp hc).1) (w := .lst []) rfl
  have ev : veq (.lst (((tl z).filter fun c => !decide (c ∈ tl greatT)).map fun c => .str (one c))) (.lst []) = (tl z).all (fun c => decide (c ∈ tl greatT)) := by
    rw [veq_ll]
    generalize tl z = l
    induction l with
    | nil => rfl
    | cons c l ih =>
      rw [List.filter_cons, List.all_cons]
      cases d : decide (c ∈ tl greatT) with
      | true => simpa [d] using ih
      | false => simp [d]
  rw [ev] at eq
  have tz := LL.len_tl z
  simp only [newL] at comp
  by_cases h3 : z.length = 3
  · have h3' : (z.length : Int) = 3 := by omega
    have ic : isCur (tl z) = (tl z).all (fun c => decide (c ∈ tl greatT)) := by
      unfold isCur
      rw [decide_eq_true (show (tl z).length ≤ 3 by omega), decide_eq_true (show (tl z).length = 3 by omega)]
      simp
    rw [ic]
    generalize (tl z).all (fun c => decide (c ∈ tl greatT)) = B at *
    generalize ((tl z).filter fun c => !decide (c ∈ tl greatT)).map (fun c => LV.str (one c)) = V at *
    have comp : lcR false (gNm 1) t__law_is_currency_1 e__law_is_currency_1 [some (.str z), none] (.ok (itOf (LL.signs z)) S) = .ok (.lst V) S := comp
    simp [f__law_is_currency, e_fn, g__law_is_currency, c__law_is_currency_1, wipeL, gc_low0, ls, h3', comp, eq]
  · have h3' : ¬ (z.length : Int) = 3 := by omega
    have ic : isCur (tl z) = false := by
      unfold isCur
      rw [decide_eq_false (show ¬ (tl z).length = 3 by omega)]
      simp
    rw [ic]
    simp [f__law_is_currency, e_fn, g__law_is_currency, gc_low0, ls, h3']
theorem law_cur_v {v : LV} (h : Kd v) (S : Sto) : f__law_is_currency [v] S = .ok (.bl (coinB v)) S := by
  cases v with
  | int i => show _ = R.ok (.bl false) S; simp [f__law_is_currency, e_fn, g__law_is_currency, gc_low0]
  | bl b => show _ = R.ok (.bl false) S; simp [f__law_is_currency, e_fn, g__law_is_currency, gc_low0]
  | non => show _ = R.ok (.bl false) S; simp [f__law_is_currency, e_fn, g__law_is_currency, gc_low0]
  | str z => exact law_cur_s h S
  | lst xs => show _ = R.ok (.bl false) S; simp [f__law_is_currency, e_fn, g__law_is_currency, gc_low0]
  | _ => exact h.elim
def sameB : LV → LV → Bool
  | .str a, .str b => tl a == tl b
  | _, _ => false
theorem coin_str {v : LV} (h : coinB v = true) : ∃ z, v = .str z := by
  cases v with
  | str z => exact ⟨z, rfl⟩
  | _ => cases h
/-- which word is due: 0 none -/
def dueN (d a p b q : LV) : Nat := if wholeB 0 146096 d = false then 1 else if coinB a = false ∨ coinB b = false ∨ sameB a b = true then 2 else if wholeB 1 1000000000 p = false ∨ wholeB 1 1000000000 q = false then 3 else 0
def wordN : Nat → Str
  | 0 => ("" : Str)
  | 1 => ("day" : Str)
  | 2 => ("currency" : Str)
  | _ => ("rate" : Str)
theorem law_due_e {d a p b q : LV} (hd : Kd d) (ha : Kd a) (hp : Kd p) (hb : Kd b) (hq : Kd q) (S : Sto) : f__law_due [.tup [d, a, p, b, q]] S = .ok (.str (wordN (dueN d a p b q))) S := by
  have nd := hd.nx
  have na := ha.nx
  have np := hp.nx
  have nb := hb.nx
  have nq := hq.nx
  have wd := law_whole_v hd 0 146096
  have wp := law_whole_v hp 1 1000000000
  have wq := law_whole_v hq 1 1000000000
  have ca := law_cur_v ha
  have cb := law_cur_v hb
  have po : ∀ S, powL (.int 10) (.int 9) S = .ok (.int 1000000000) S := fun S => rfl
  have m0 : ∀ S, mulL (.str ("rate" : Str)) (.int 0) S = .ok (.str ("" : Str)) S := fun S => rfl
  have m1 : ∀ S, mulL (.str ("rate" : Str)) (.int 1) S = .ok (.str ("rate" : Str)) S := fun S => rfl
  unfold dueN
  generalize wholeB 0 146096 d = D at *
  cases D with
  | false => simp [f__law_due, e_fn, g__law_due, gtp_e, gTp, gsCons, gNm, gsNil, nd, na, np, nb, nq, wd, wordN, gc_low0]
  | true =>
    rw [if_neg (by decide)]
    have eq : coinB a = true → coinB b = true → ∀ S, eqL a b S = .ok (.bl (sameB a b)) S := fun x y S => by
      obtain ⟨z, rfl⟩ := coin_str x
      obtain ⟨w, rfl⟩ := coin_str y
      exact eq_ss
    generalize sameB a b = E at *
    generalize coinB a = A at *
    generalize coinB b = B at *
    generalize wholeB 1 1000000000 p = P at *
    generalize wholeB 1 1000000000 q = Q at *
    cases A with
    | false => simp [f__law_due, e_fn, g__law_due, gtp_e, gTp, gsCons, gNm, gsNil, nd, na, np, nb, nq, wd, ca, wordN, gc_low0]
    | true =>
      cases B with
      | false => simp [f__law_due, e_fn, g__law_due, gtp_e, gTp, gsCons, gNm, gsNil, nd, na, np, nb, nq, wd, ca, cb, wordN, gc_low0]
      | true =>
        have eq := eq rfl rfl
        cases E with
        | true => simp [f__law_due, e_fn, g__law_due, gtp_e, gTp, gsCons, gNm, gsNil, nd, na, np, nb, nq, wd, ca, cb, eq, wordN, gc_low0]
        | false => cases P <;> cases Q <;> simp [f__law_due, e_fn, g__law_due, gtp_e, gTp, gsCons, gNm, gsNil, nd, na, np, nb, nq, wd, ca, cb, eq, wordN, gc_low0, po, wp, wq, m0, m1]
/-- what is refused -/
theorem quote_no {d a p b q : LV} (hd : Kd d) (ha : Kd a) (hp : Kd p) (hb : Kd b) (hq : Kd q) (r : Nat) (S : Sto) (h : dueN d a p b q ≠ 0) : f_Rates_quote [.ref r, d, a, p, b, q] S = .ex (dueN d a p b q) [] S := by
  have nd := hd.nx
  have na := ha.nx
  have np := hp.nx
  have nb := hb.nx
  have nq := hq.nx
  have wd := day_v hd
  have wp := among_v hp 1 1000000000
  have wq := among_v hq 1 1000000000
  have ca := currency_v ha
  have cb := currency_v hb
  unfold dueN at h ⊢
  generalize wholeB 0 146096 d = D at *
  cases D with
  | false => simp [f_Rates_quote, e_fn, g_Rates_quote, nd, na, np, nb, nq, wd, gc_ex0, e_raise]
  | true =>
    rw [if_neg (by decide)] at h ⊢
    have eq : coinB a = true → coinB b = true → ∀ S, eqL a b S = .ok (.bl (sameB a b)) S := fun x y S => by
      obtain ⟨z, rfl⟩ := coin_str x
      obtain ⟨w, rfl⟩ := coin_str y
      exact eq_ss
    generalize sameB a b = E at *
    generalize coinB a = A at *
    generalize coinB b = B at *
    generalize wholeB 1 1000000000 p = P at *
    generalize wholeB 1 1000000000 q = Q at *
    cases A with
    | false => simp [f_Rates_quote, e_fn, g_Rates_quote, nd, na, np, nb, nq, wd, ca, gc_ex0, e_raise]
    | true =>
      cases B with
      | false => simp [f_Rates_quote, e_fn, g_Rates_quote, nd, na, np, nb, nq, wd, ca, cb, gc_ex0, e_raise]
      | true =>
        have eq := eq rfl rfl
        cases E with
        | true => simp [f_Rates_quote, e_fn, g_Rates_quote, nd, na, np, nb, nq, wd, ca, cb, eq, gc_ex0, e_raise]
        | false =>
          cases P <;> cases Q
          · simp [f_Rates_quote, e_fn, g_Rates_quote, nd, na, np, nb, nq, wd, ca, cb, eq, wp, gc_ex0, e_raise]
          · simp [f_Rates_quote, e_fn, g_Rates_quote, nd, na, np, nb, nq, wd, ca, cb, eq, wp, gc_ex0, e_raise]
          · simp [f_Rates_quote, e_fn, g_Rates_quote, nd, na, np, nb, nq, wd, ca, cb, eq, wp, wq, gc_ex0, e_raise]
          · simp at h
theorem whole_int {lo hi : Int} {v : LV} (h : wholeB lo hi v = true) : ∃ i, v = .int i ∧ lo ≤ i ∧ i ≤ hi := by
  cases v with
  | int i =>
    have h : (decide (lo ≤ i) && decide (i ≤ hi)) = true := h
    rw [Bool.and_eq_true] at h
    exact ⟨i, rfl, of_decide_eq_true h.1, of_decide_eq_true h.2⟩
  | _ => cases h
/-- what is not refused is a quote -/
theorem due_ok {d a p b q : LV} (h : dueN d a p b q = 0) : ∃ x : Qt, x.Ok ∧ d = .int x.day ∧ a = .str x.a ∧ p = .int x.p ∧ b = .str x.b ∧ q = .int x.q := by
  unfold dueN at h
  split at h
  · cases h
  · rename_i h1
    split at h
    · cases h
    · rename_i h2
      split at h
      · cases h
      · rename_i h3
        simp only [not_or, Bool.not_eq_false, Bool.not_eq_true] at h1 h2 h3
        obtain ⟨i, rfl, d0, d1⟩ := whole_int h1
        obtain ⟨j, rfl, p0, p1⟩ := whole_int h3.1
        obtain ⟨k, rfl, q0, q1⟩ := whole_int h3.2
        obtain ⟨z, rfl⟩ := coin_str h2.1
        obtain ⟨w, rfl⟩ := coin_str h2.2.1
        have ne : z ≠ w := fun e => by
          have := h2.2.2
          rw [e] at this
          simp [sameB] at this
        exact ⟨⟨i, z, j, w, k⟩, ⟨d0, d1, h2.1, h2.2.1, ne, p0, p1, q0, q1⟩, rfl, rfl, rfl, rfl, rfl⟩
theorem word_N (c : Nat) (h : c = 1 ∨ c = 2 ∨ c = 3) (S : Sto) : f__law_word_E [.exc c []] S = .ok (.str (wordN c)) S := by
  rcases h with rfl | rfl | rfl
  · have c : ∀ S, lcountL (.lst [.bl true, .bl false, .bl false, .bl false]) [.bl true] S = .ok (.int 1) S := fun S => rfl
    have i : ∀ S, lindexL (.lst [.bl true, .bl false, .bl false, .bl false]) [.bl true] S = .ok (.int 0) S := fun S => rfl
    have x : ∀ S, ixL (.lst [.str ("day" : Str), .str ("currency" : Str), .str ("rate" : Str), .str ("none" : Str)]) (.int 0) S = .ok (.str ("day" : Str)) S := fun S => ix_v ls_l (by decide) rfl
    simp [f__law_word_E, e_fnE, g__law_word_E, isE_h, hitA_c, c, i, x, gc_low0, wordN]
  · have c : ∀ S, lcountL (.lst [.bl false, .bl true, .bl false, .bl false]) [.bl true] S = .ok (.int 1) S := fun S => rfl
    have i : ∀ S, lindexL (.lst [.bl false, .bl true, .bl false, .bl false]) [.bl true] S = .ok (.int 1) S := fun S => rfl
    have x : ∀ S, ixL (.lst [.str ("day" : Str), .str ("currency" : Str), .str ("rate" : Str), .str ("none" : Str)]) (.int 1) S = .ok (.str ("currency" : Str)) S := fun S => ix_v ls_l (by decide) rfl
    simp [f__law_word_E, e_fnE, g__law_word_E, isE_h, hitA_c, c, i, x, gc_low0, wordN]
  · have c : ∀ S, lcountL (.lst [.bl false, .bl false, .bl true, .bl false]) [.bl true] S = .ok (.int 1) S := fun S => rfl
    have i : ∀ S, lindexL (.lst [.bl false, .bl false, .bl true, .bl false]) [.bl true] S = .ok (.int 2) S := fun S => rfl
    have x : ∀ S, ixL (.lst [.str ("day" : Str), .str ("currency" : Str), .str ("rate" : Str), .str ("none" : Str)]) (.int 2) S = .ok (.str ("rate" : Str)) S := fun S => ix_v ls_l (by decide) rfl
    simp [f__law_word_E, e_fnE, g__law_word_E, isE_h, hitA_c, c, i, x, gc_low0, wordN]
theorem dueN_lt (d a p b q : LV) : dueN d a p b q = 0 ∨ dueN d a p b q = 1 ∨ dueN d a p b q = 2 ∨ dueN d a p b q = 3 := by
  unfold dueN
  split
  · simp
  · split
    · simp
    · split <;> simp
/-- .. told: refused -/
theorem told_no {d a p b q : LV} (hd : Kd d) (ha : Kd a) (hp : Kd p) (hb : Kd b) (hq : Kd q) {r : Nat} {S : Sto} {fs : List LV} (hi : S[r]? = some (.ins 100 fs)) (h : dueN d a p b q ≠ 0) : f__law_told [.ref r, .tup [d, a, p, b, q]] S = .ok (.str (wordN (dueN d a p b q))) S := by
  have nd := hd.nx
  have na := ha.nx
  have np := hp.nx
  have nb := hb.nx
  have nq := hq.nx
  have i0 : ∀ S, ixL (.tup [d, a, p, b, q]) (.int 0) S = .ok d S := fun S => ix_t (by decide) rfl
  have i1 : ∀ S, ixL (.tup [d, a, p, b, q]) (.int 1) S = .ok a S := fun S => ix_t (by decide) rfl
  have i2 : ∀ S, ixL (.tup [d, a, p, b, q]) (.int 2) S = .ok p S := fun S => ix_t (by decide) rfl
  have i3 : ∀ S, ixL (.tup [d, a, p, b, q]) (.int 3) S = .ok b S := fun S => ix_t (by decide) rfl
  have i4 : ∀ S, ixL (.tup [d, a, p, b, q]) (.int 4) S = .ok q S := fun S => ix_t (by decide) rfl
  have nt : isX (.tup [d, a, p, b, q]) = false := rfl
  have qn := quote_no hd ha hp hb hq r S h
  have mt : ∀ (g : Fn) (l' : List (Nat × Fn)) (fa : LA) (ds : Sl), meth1 (tabA ((100, g) :: l')) fa ds (.ok (.ref r) S) = meth2 g (.ref r) (fa ds S) := fun g l' fa ds => meth_t0 hi
  have lt := dueN_lt d a p b q
  have wd := word_N (dueN d a p b q) (by omega) S
  have hh : hitA [(1, true), (2, true), (3, true)] (dueN d a p b q) = some true := by
    rcases lt with e | e | e | e
    · exact absurd e h
    · rw [e]; rfl
    · rw [e]; rfl
    · rw [e]; rfl
  generalize dueN d a p b q = c at *
  generalize LV.tup [d, a, p, b, q] = X at *
  simp [f__law_told, e_fn, g__law_told, e_tryAs, tryK_h, hh, mt, i0, i1, i2, i3, i4, nt, nd, na, np, nb, nq, qn, wd, gc_low0]
end K09


set_option Elab.async false
set_option linter.all false
set_option maxRecDepth 100000
set_option maxHeartbeats 4000000
namespace K09
open PySem PySem.Spec PyProof.Rows L2 LL
/-! ### the law's currencies -/
abbrev ABC : Str := ("ABCDEFGHIJKLMNOPQRSTUVWXYZ" : Str)
def abcA (j : Int) : Nat := atN (tl ABC) (j % 26)
theorem abcA_ix (j : Int) (S : Sto) : ixL (.str ABC) (.int (j % 26)) S = .ok (.str (one (abcA j))) S := by
  have l : ABC.length = 26 := by decide
  exact ix_s (by omega) (by rw [l]; omega) (by rw [l]; omega)
theorem abcA_val (j : Int) : ((abcA j : Nat) : Int) = 65 + j % 26 := by
  have : ∀ k : Nat, k < 26 → (tl ABC).getD k 0 = 65 + k := by decide
  have q := this (j % 26).toNat (by omega)
  show (((tl ABC).getD (j % 26).toNat 0 : Nat) : Int) = _
  rw [q]
  omega
theorem abcA_mem (j : Int) : abcA j ∈ tl greatT := by
  have gm : ∀ n, n < 26 → (tl ABC).getD n 0 ∈ tl greatT := by decide
  exact gm _ (by omega)
def curL (c k : Int) : List Nat := ([abcA (c / 3 % 26), abcA (c / 3 % 26 + 7), abcA (c / 3 % 26 + 14)] : List Nat).set (c % 3).toNat (abcA (c / 3 % 26 + 7 * (c % 3) + 1 + k))
def curB (c k : Int) : Str := Txt.join ("" : Str) ((curL c k).map one)
theorem tl_curB (c k : Int) : tl (curB c k) = curL c k := LL.join_one _
theorem curL_cases (c k : Int) : ∃ x y z, curL c k = [x, y, z] ∧ x ∈ tl greatT ∧ y ∈ tl greatT ∧ z ∈ tl greatT ∧ (c % 3 = 0 ∧ x = abcA (c / 3 % 26 + 7 * (c % 3) + 1 + k) ∨ c % 3 = 1 ∧ y = abcA (c / 3 % 26 + 7 * (c % 3) + 1 + k) ∨ c % 3 = 2 ∧ z = abcA (c / 3 % 26 + 7 * (c % 3) + 1 + k)) := by
  unfold curL
  have h : c % 3 = 0 ∨ c % 3 = 1 ∨ c % 3 = 2 := by omega
  rcases h with h | h | h
  · refine ⟨_, _, _, by rw [h]; rfl, abcA_mem _, abcA_mem _, abcA_mem _, .inl ⟨h, by rw [h]⟩⟩
  · refine ⟨_, _, _, by rw [h]; rfl, abcA_mem _, abcA_mem _, abcA_mem _, .inr (.inl ⟨h, by rw [h]⟩)⟩
  · refine ⟨_, _, _, by rw [h]; rfl, abcA_mem _, abcA_mem _, abcA_mem _, .inr (.inr ⟨h, by rw [h]⟩)⟩
theorem curB_cur (c k : Int) : isCur (tl (curB c k)) = true := by
  rw [tl_curB]
  obtain ⟨x, y, z, e, hx, hy, hz, _⟩ := curL_cases c k
  rw [e]
  unfold isCur
  simp only [List.all_cons, List.all_nil, decide_eq_true hx, decide_eq_true hy, decide_eq_true hz]
  rfl
theorem curB_ne {c i j : Int} (h0 : 0 ≤ i) (h1 : i < 26) (h2 : 0 ≤ j) (h3 : j < 26) (h : i ≠ j) : curB c i ≠ curB c j := fun e => by
  have e := congrArg tl e
  rw [tl_curB, tl_curB] at e
  obtain ⟨x, y, z, e1, _, _, _, g1⟩ := curL_cases c i
  obtain ⟨x', y', z', e2, _, _, _, g2⟩ := curL_cases c j
  rw [e1, e2] at e
  cases e
  have k : abcA (c / 3 % 26 + 7 * (c % 3) + 1 + i) = abcA (c / 3 % 26 + 7 * (c % 3) + 1 + j) := by
    rcases g1 with ⟨q, g1⟩ | ⟨q, g1⟩ | ⟨q, g1⟩ <;> rcases g2 with ⟨q2, g2⟩ | ⟨q2, g2⟩ | ⟨q2, g2⟩
    all_goals first
      | omega
      | (rw [← g1, ← g2])
  have v1 := abcA_val (c / 3 % 26 + 7 * (c % 3) + 1 + i)
  have v2 := abcA_val (c / 3 % 26 + 7 * (c % 3) + 1 + j)
  rw [k] at v1
  omega
theorem curB_inj {c i j : Int} (h0 : 0 ≤ i) (h1 : i < 26) (h2 : 0 ≤ j) (h3 : j < 26) (h : curB c i = curB c j) : i = j := by
  by_cases q : i = j
  · exact q
  · exact absurd h (curB_ne h0 h1 h2 h3 q)
theorem currency_by_e (c k : Int) (S : Sto) : f__law_currency_by [.int c, .int k] S = .ok (.str (curB c k)) S := by
  have rg : rng1O [.int 3] S = .ok (itOf (rng 0 3)) S := rng1_e (by decide) (by decide)
  have ml : ∀ k S, mulL (.int 7) (.int k) S = .ok (.int (7 * k)) S := fun k S => mul_l (by decide) (by decide)
  obtain ⟨f, hf⟩ : ∃ f, f = c / 3 % 26 := ⟨_, rfl⟩
  have body := lcR_all (t := true) (lg := gNm 5) (fe := e__law_currency_by_1) (ds := [some (.int c), some (.int k), some (.str ABC), some (.int f), none, none]) (S := S) (l := itOf (rng 0 3)) (ws := [0, 1, 2]) (g := fun j : Nat => .int (0 + (j : Int))) (fun j => .str (one (abcA (f + 7 * (j : Int))))) .of (by simp) (fun j hj acc => ⟨_, rfl, by
    have ix := abcA_ix (f + 7 * (j : Int)) (S ++ [.lst acc])
    have zi : (0 : Int) + (j : Int) = j := by omega
    rw [zi]
    simp [e__law_currency_by_1, ml, mod_ii, ix]⟩) (fun _ _ => rfl)
  have body : lcR true (gNm 5) lYes e__law_currency_by_1 [some (.int c), some (.int k), some (.str ABC), some (.int f), none, none] (.ok (itOf (rng 0 3)) S) = .ok (.ref S.length) (S ++ [.lst ([one (abcA f), one (abcA (f + 7)), one (abcA (f + 14))].map .str)]) := by
    rw [body]
    simp only [newL, List.map_cons, List.map_nil, if_true]
    rw [show f + 7 * ((0 : Nat) : Int) = f by omega, show f + 7 * ((1 : Nat) : Int) = f + 7 by omega, show f + 7 * ((2 : Nat) : Int) = f + 14 by omega]
  have h3 : 0 ≤ c % 3 ∧ c % 3 < 3 := by omega
  have ix2 := abcA_ix (f + 7 * (c % 3) + 1 + k) (S ++ [.lst ([one (abcA f), one (abcA (f + 7)), one (abcA (f + 14))].map .str)])
  have pu := put_l (S := S ++ [.lst ([one (abcA f), one (abcA (f + 7)), one (abcA (f + 14))].map .str)]) (n := S.length) (xs := [one (abcA f), one (abcA (f + 7)), one (abcA (f + 14))].map .str) (k := c % 3) (v := .str (one (abcA (f + 7 * (c % 3) + 1 + k)))) (by rw [get_app0]; rfl) h3.1 (by simpa using h3.2)
  rw [set_app0] at pu
  have eL : (([one (abcA f), one (abcA (f + 7)), one (abcA (f + 14))].map LV.str).set (c % 3).toNat (.str (one (abcA (f + 7 * (c % 3) + 1 + k))))) = (curL c k).map fun d => .str (one d) := by
    unfold curL
    rw [← hf, ← List.map_set, show ([one (abcA f), one (abcA (f + 7)), one (abcA (f + 14))] : List Str) = [abcA f, abcA (f + 7), abcA (f + 14)].map one from rfl, ← List.map_set, List.map_map]
    rfl
  rw [eL] at pu
  have jn := join_ones (v := .ref S.length) (S := S ++ [.lst ((curL c k).map fun d => .str (one d))]) (cs := curL c k) (ls_r (by rw [get_app0]; rfl)) (by
    unfold curL
    simp)
  have ew : Txt.join ("" : Str) ((curL c k).map one) = curB c k := rfl
  rw [ew] at jn
  generalize curB c k = W at *
  simp only [List.set_cons_zero] at pu
  generalize (curL c k).map (fun d => LV.str (one d)) = CL at *
  generalize [one (abcA f), one (abcA (f + 7)), one (abcA (f + 14))].map LV.str = L0 at *
  generalize one (abcA (f + 7 * (c % 3) + 1 + k)) = o1 at *
  have gc : gcF S (.ok (.str W) (S ++ [.lst CL])) = .ok (.str W) S := gc_low rfl
  simp [f__law_currency_by, e_fn, g__law_currency_by, c__law_currency_by_1, div_ii, mod_ii, ← hf, rg, wipeL, body, ml, ix2, e_sub, sub3_ok pu, jn, gc]

end K09


set_option Elab.async false
set_option linter.all false
set_option maxRecDepth 100000
set_option maxHeartbeats 4000000
namespace K09
open PySem PySem.Spec PyProof.Rows L2 LL
/-! ### the law's newest -/
theorem tlq (a b : Str) : (tl a == tl b) = decide (a = b) := by
  by_cases h : a = b
  · rw [h]; simp
  · rw [decide_eq_false h]; exact ne_tl h
def bestV : Option Dq → LV
  | none => .non
  | some e => .tup [.int e.1, .int e.2.1, .int e.2.2]
theorem stepQ_y {a b : Str} {day : Int} {o : Option Dq} {x : Qt} (h1 : x.day ≤ day) (h2 : beats o x.day) : stepQ a b day o x = orQ (x.of a b) o := by
  unfold stepQ
  rw [if_pos ⟨h1, h2⟩]
theorem stepQ_n {a b : Str} {day : Int} {o : Option Dq} {x : Qt} (h : ¬ (x.day ≤ day ∧ beats o x.day)) : stepQ a b day o x = o := by
  unfold stepQ
  rw [if_neg h]
noncomputable def innQ : LS :=
    lIf (lAnd (lOp eqL (lOp ixL (lVar 5) (lC (.int 1))) (lVar 1)) (lOp eqL (lOp ixL (lVar 5) (lC (.int 3))) (lVar 2)))
    (lAsg (lTup (lCons (lOp ixL (lVar 5) (lC (.int 0))) (lCons (lOp ixL (lVar 5) (lC (.int 2))) (lCons (lOp ixL (lVar 5) (lC (.int 4))) lNil)))) (gNm 4))
    (lIf (lAnd (lOp eqL (lOp ixL (lVar 5) (lC (.int 1))) (lVar 2)) (lOp eqL (lOp ixL (lVar 5) (lC (.int 3))) (lVar 1)))
    (lAsg (lTup (lCons (lOp ixL (lVar 5) (lC (.int 0))) (lCons (lOp ixL (lVar 5) (lC (.int 4))) (lCons (lOp ixL (lVar 5) (lC (.int 2))) lNil)))) (gNm 4))
    lNx)
theorem law_newest_in {v : LV} {a b : Str} {day : Int} {x : Qt} {o : Option Dq} {S : Sto} :
    innQ [some v, some (.str a), some (.str b), some (.int day), some (bestV o), some x.lv] S = .nx [some v, some (.str a), some (.str b), some (.int day), some (bestV (orQ (x.of a b) o)), some x.lv] S := by
  have i0 : ixL x.lv (.int 0) S = .ok (.int x.day) S := ix_t (by decide) rfl
  have i1 : ixL x.lv (.int 1) S = .ok (.str x.a) S := ix_t (by decide) rfl
  have i2 : ixL x.lv (.int 2) S = .ok (.int x.p) S := ix_t (by decide) rfl
  have i3 : ixL x.lv (.int 3) S = .ok (.str x.b) S := ix_t (by decide) rfl
  have i4 : ixL x.lv (.int 4) S = .ok (.int x.q) S := ix_t (by decide) rfl
  have nx : isX x.lv = false := rfl
  have q1 : eqL (.str x.a) (.str a) S = .ok (.bl (decide (x.a = a))) S := by rw [eq_ss, tlq]
  have q2 : eqL (.str x.b) (.str b) S = .ok (.bl (decide (x.b = b))) S := by rw [eq_ss, tlq]
  have q3 : eqL (.str x.a) (.str b) S = .ok (.bl (decide (x.a = b))) S := by rw [eq_ss, tlq]
  have q4 : eqL (.str x.b) (.str a) S = .ok (.bl (decide (x.b = a))) S := by rw [eq_ss, tlq]
  have nb : isX (bestV o) = false := by cases o <;> rfl
  have eo : orQ (x.of a b) o = if (decide (x.a = a) && decide (x.b = b)) = true then some (x.day, x.p, x.q) else if (decide (x.a = b) && decide (x.b = a)) = true then some (x.day, x.q, x.p) else o := by
    unfold Qt.of
    simp only [Bool.and_eq_true, decide_eq_true_eq]
    by_cases h1 : x.a = a ∧ x.b = b
    · rw [if_pos h1, if_pos h1]; rfl
    · rw [if_neg h1, if_neg h1]
      by_cases h2 : x.a = b ∧ x.b = a
      · rw [if_pos h2, if_pos h2]; rfl
      · rw [if_neg h2, if_neg h2]; rfl
  rw [eo]
  have e1 : bestV (some (x.day, x.p, x.q)) = .tup [.int x.day, .int x.p, .int x.q] := rfl
  have e2 : bestV (some (x.day, x.q, x.p)) = .tup [.int x.day, .int x.q, .int x.p] := rfl
  generalize decide (x.a = a) = p1 at *
  generalize decide (x.b = b) = p2 at *
  generalize decide (x.a = b) = p3 at *
  generalize decide (x.b = a) = p4 at *
  generalize x.lv = X at *
  generalize hB : bestV o = B at *
  cases p1 <;> cases p2 <;> cases p3 <;> cases p4 <;> simp [innQ, i0, i1, i2, i3, i4, nx, nb, q1, q2, q3, q4, e1, e2, hB, -eq_ss]
theorem law_newest_e {v : LV} {Q : List Qt} {S : Sto} {l : LIt} (nv : isX v = false) (hv : iterO v S = .ok l S) (hl : ItIs S l (Q.map Qt.lv)) (a b : Str) (day : Int) : f__law_newest [v, .str a, .str b, .int day] S = .ok (optQ (newD Q a b day)) S := by
  have hb : b__law_newest_1 = lIf (lAnd (lOp leL (lOp ixL (lVar 5) (lC (.int 0))) (lVar 3)) (lOr (lOp isL (lVar 4) (lC .non)) (lOp geL (lOp ixL (lVar 5) (lC (.int 0))) (lOp ixL (lVar 4) (lC (.int 0)))))) innQ lNx := rfl
  obtain ⟨_, j', loop⟩ := for_fold (α := Option Dq) (β := Qt) (J := Option LV) (lg := gNm 5) (fb := b__law_newest_1) (l := l) (ws := Q) (g := Qt.lv)
    (fun o j => [some v, some (.str a), some (.str b), some (.int day), some (bestV o), j]) (fun _ => S) (stepQ a b day) (fun _ => True) (fun _ _ => hl) (fun x hx o j _ => by
      refine ⟨trivial, some x.lv, ?_⟩
      have inn := law_newest_in (v := v) (a := a) (b := b) (day := day) (x := x) (o := o) (S := S)
      have i0 : ixL x.lv (.int 0) S = .ok (.int x.day) S := ix_t (by decide) rfl
      have nx : isX x.lv = false := rfl
      have nb : isX (bestV o) = false := by cases o <;> rfl
      by_cases c1 : x.day ≤ day
      · cases o with
        | none =>
          rw [stepQ_y c1 fun e h => by cases h]
          have nn : isN (bestV none) = true := rfl
          generalize orQ (x.of a b) none = B2 at *
          generalize bestV none = B at *
          generalize x.lv = X at *
          simp [turn, gNm, hb, i0, nx, nb, c1, nn, inn]
        | some e =>
          have nn : isN (bestV (some e)) = false := rfl
          have k0 : ixL (bestV (some e)) (.int 0) S = .ok (.int e.1) S := ix_t (by decide) rfl
          by_cases c2 : e.1 ≤ x.day
          · rw [stepQ_y c1 fun e' h => by cases h; exact c2]
            generalize orQ (x.of a b) (some e) = B2 at *
            generalize bestV (some e) = B at *
            generalize x.lv = X at *
            simp [turn, gNm, hb, i0, nx, nb, c1, nn, k0, c2, inn]
          · rw [stepQ_n fun z => c2 (z.2 e rfl)]
            generalize bestV (some e) = B at *
            generalize x.lv = X at *
            simp [turn, gNm, hb, i0, nx, nb, c1, nn, k0, c2]
      · rw [stepQ_n fun z => c1 z.1]
        generalize bestV o = B at *
        generalize x.lv = X at *
        simp [turn, gNm, hb, i0, nx, nb, c1]) none none trivial
  have loop : forS (gNm 5) b__law_newest_1 [some v, some (.str a), some (.str b), some (.int day), some .non, none] (.ok l S) = .nx [some v, some (.str a), some (.str b), some (.int day), some (bestV (newD Q a b day)), j'] S := loop
  cases e : newD Q a b day with
  | none =>
    rw [e] at loop
    simp [f__law_newest, e_fn, g__law_newest, nv, hv, loop, bestV, optQ, gc_low0]
  | some d =>
    rw [e] at loop
    have sl : slG false (.tup [.int d.1, .int d.2.1, .int d.2.2]) (some 1) none S = .ok (dvQ d) S := by rw [sl_tp]; rfl
    have gc : gcF S (.ok (dvQ d) S) = .ok (dvQ d) S := gc_low0 rfl
    simp only [optQ]
    generalize dvQ d = E at *
    simp [f__law_newest, e_fn, g__law_newest, nv, hv, loop, bestV, sl, gc]

end K09


set_option Elab.async false
set_option linter.all false
set_option maxRecDepth 100000
set_option maxHeartbeats 4000000
namespace K09
open PySem PySem.Spec PyProof.Rows L2 LL
theorem Rts.keep {S S' : Sto} {r k : Nat} {tvs : List (List Key × LV)} {Q : List Qt} (h : Rts S r k tvs Q) (h1 : S'[r]? = S[r]?) (h2 : S'[k]? = S[k]?) (h3 : ∀ ks n, getK tvs ks = some (.ref n) → S'[n]? = S[n]?) : Rts S' r k tvs Q where
  ins := by rw [h1]; exact h.ins
  tab := by rw [h2]; exact h.tab
  len := h.len
  nd := h.nd
  key := h.key
  non := h.non
  day := fun a b n g => by
    obtain ⟨L, e1, e2⟩ := h.day a b n g
    exact ⟨L, by rw [h3 _ _ g]; exact e1, e2⟩
  inj := h.inj
/-- another list is changed -/
theorem Rts.lst {S : Sto} {r k : Nat} {tvs : List (List Key × LV)} {Q : List Qt} (h : Rts S r k tvs Q) {d : Nat} {xs : List LV} (hd : S[d]? = some (.lst xs)) (o : LO) : Rts (S.set d o) r k tvs Q := by
  refine h.keep ?_ ?_ fun ks n g => ?_
  · rw [List.getElem?_set_ne fun z => by rw [z, h.ins] at hd; cases hd]
  · rw [List.getElem?_set_ne fun z => by rw [z, h.tab] at hd; cases hd]
  · obtain ⟨_, _, n', L, _, q2, _, q4, _⟩ := h.ref g
    cases q2
    rw [List.getElem?_set_ne fun z => by rw [z, q4] at hd; cases hd]
/-! ### the lists told -/
theorem quotes_L {S : Sto} {r k : Nat} {tvs : List (List Key × LV)} {Q : List Qt} (h : Rts S r k tvs Q) (hl : Q.length ≤ 31) (ne : ∀ x ∈ Q, x.a ≠ x.b) : f_Rates_quotes [.ref r] S = .ok (.lst (quotesL Q)) S := by
  rw [quotesR_e h hl, quotes_same h (nd_keys (nd_lastQ Q)) (mem_lastQ Q ne)]
  rfl
theorem coins_L {S : Sto} {r k : Nat} {tvs : List (List Key × LV)} {Q : List Qt} (h : Rts S r k tvs Q) (hl : Q.length ≤ 31) (ne : ∀ x ∈ Q, x.a ≠ x.b) : f_Rates_currencies [.ref r] S = .ok (.lst (coinsL Q)) S := by
  rw [currencies_e h hl, names_same h ne]
  rfl
theorem low_coinsL (n : Nat) (Q : List Qt) : lowVs n (coinsL Q) = true := strs_low _
theorem quotes_LT {S : Sto} {r k : Nat} {tvs : List (List Key × LV)} {Q : List Qt} (h : Rts S r k tvs Q) (hl : Q.length ≤ 31) (ne : ∀ x ∈ Q, x.a ≠ x.b) : f_Rates_quotes_T [.ref r] S = .ok (.ref S.length) (S ++ [.lst (quotesL Q)]) := by
  obtain ⟨y2, y3, y4, y5, e⟩ := quotes_walk h hl
  have fl := flat_len h tvs fun x hx => hx
  have tl' := h.len
  have bb : (allQ S tvs).length ≤ 31 * 31 := Nat.le_trans fl (Nat.mul_le_mul (by omega) hl)
  have so := sorted_ok (t := true) (S := S ++ [.lst ((allQ S tvs).map lv5)]) (v := .ref S.length) (xs := (allQ S tvs).map lv5) (ls_r (by rw [get_app0]; rfl)) (srt_5 (fun x hx => by
    obtain ⟨q, _, rfl⟩ := List.mem_map.mp hx
    exact ⟨_, _, _, _, _, rfl⟩) (by rw [List.length_map]; omega))
  rw [quotes_same h (nd_keys (nd_lastQ Q)) (mem_lastQ Q ne), show sortV ((lastQ Q).map lv5) = quotesL Q from rfl] at so
  have lw := low_quotesL S.length Q
  have hb : b_Rates_quotes_T_1 = b_Rates_quotes_1 := rfl
  have gc := gcT_new (S := S) (U := [.lst ((allQ S tvs).map lv5), .lst (quotesL Q)]) (k := 1) rfl lw
  show mkFnT 1 6 g_Rates_quotes_T _ _ = _
  generalize (allQ S tvs).map lv5 = W at *
  generalize quotesL Q = V at *
  have so : sortedT [.ref S.length] (S ++ [.lst W]) = .ok (.ref (S.length + 1)) (S ++ [.lst W, .lst V]) := by
    refine so.trans ?_
    simp [newL]
  simp [e_fnT, g_Rates_quotes_T, hb, e, so, gc]
theorem coins_LT {S : Sto} {r k : Nat} {tvs : List (List Key × LV)} {Q : List Qt} (h : Rts S r k tvs Q) (hl : Q.length ≤ 31) (ne : ∀ x ∈ Q, x.a ≠ x.b) : f_Rates_currencies_T [.ref r] S = .ok (.ref S.length) (S ++ [.lst (coinsL Q)]) := by
  obtain ⟨x2, x3, e⟩ := currencies_in h hl
  have ll : (namesT tvs).length < 64 := by
    have := h.len
    have h2 := len_namesT tvs []
    unfold namesT
    simp only [List.length_nil] at h2
    omega
  have so := sortedD_ok (t := true) (S := S ++ [.dct (nameD (namesT tvs))]) (n := S.length) (kvs := nameD (namesT tvs)) (by rw [get_app0]; rfl) (strK_nameD _) ll
  have cs : (sortS (namesT tvs)).map LV.str = coinsL Q := by
    show (coinsT tvs).map LV.str = _
    rw [names_same h ne]
    rfl
  rw [cs] at so
  have lw := low_coinsL S.length Q
  have hb : b_Rates_currencies_T_1 = b_Rates_currencies_1 := rfl
  have gc := gcT_new (S := S) (U := [.dct (nameD (namesT tvs)), .lst (coinsL Q)]) (k := 1) rfl lw
  show mkFnT 1 4 g_Rates_currencies_T _ _ = _
  generalize nameD (namesT tvs) = W at *
  generalize coinsL Q = V at *
  have so : sortedDT [.ref S.length] (S ++ [.dct W]) = .ok (.ref (S.length + 1)) (S ++ [.dct W, .lst V]) := by
    refine so.trans ?_
    simp [newL]
  simp [e_fnT, g_Rates_currencies_T, hb, e, so, gc]
noncomputable def listW (w : Int) (Q : List Qt) : List LV := if w = 0 then quotesL Q else coinsL Q
theorem law_list_e {S : Sto} {r k : Nat} {tvs : List (List Key × LV)} {Q : List Qt} (h : Rts S r k tvs Q) (hl : Q.length ≤ 31) (ne : ∀ x ∈ Q, x.a ≠ x.b) (w : Int) : f__law_list [.ref r, .int w] S = .ok (.lst (listW w Q)) S := by
  have mt : ∀ (g : Fn) (l' : List (Nat × Fn)) (fa : LA) (ds : Sl), meth1 (tabA ((100, g) :: l')) fa ds (.ok (.ref r) S) = meth2 g (.ref r) (fa ds S) := fun g l' fa ds => meth_t0 h.ins
  have q := quotes_L h hl ne
  have c := coins_L h hl ne
  have l1 := low_quotesL S.length Q
  have l2 := low_coinsL S.length Q
  unfold listW
  by_cases w0 : w = 0
  · rw [if_pos w0]
    generalize quotesL Q = V at *
    simp [f__law_list, e_fn, g__law_list, mt, w0, q, gc_low0, lowV, l1]
  · rw [if_neg w0]
    generalize coinsL Q = V at *
    simp [f__law_list, e_fn, g__law_list, mt, w0, c, gc_low0, lowV, l2]
theorem law_list_T {S : Sto} {r k : Nat} {tvs : List (List Key × LV)} {Q : List Qt} (h : Rts S r k tvs Q) (hl : Q.length ≤ 31) (ne : ∀ x ∈ Q, x.a ≠ x.b) (w : Int) : f__law_list_T [.ref r, .int w] S = .ok (.ref S.length) (S ++ [.lst (listW w Q)]) := by
  have mt : ∀ (g : Fn) (l' : List (Nat × Fn)) (fa : LA) (ds : Sl), meth1 (tabA ((100, g) :: l')) fa ds (.ok (.ref r) S) = meth2 g (.ref r) (fa ds S) := fun g l' fa ds => meth_t0 h.ins
  have q := quotes_LT h hl ne
  have c := coins_LT h hl ne
  have l1 := low_quotesL S.length Q
  have l2 := low_coinsL S.length Q
  unfold listW
  by_cases w0 : w = 0
  · rw [if_pos w0]
    generalize quotesL Q = V at *
    have gc := gcT_new0 (S := S) (U := [.lst V]) rfl l1
    simp [f__law_list_T, e_fnT, g__law_list_T, mt, w0, q, gc]
  · rw [if_neg w0]
    generalize coinsL Q = V at *
    have gc := gcT_new0 (S := S) (U := [.lst V]) rfl l2
    simp [f__law_list_T, e_fnT, g__law_list_T, mt, w0, c, gc]
theorem lastQ_from (Q : List Qt) : ∀ e ∈ lastQ Q, ∃ x ∈ Q, e = orient x := by
  refine snoc_ind (p := fun Q => ∀ e ∈ lastQ Q, ∃ x ∈ Q, e = orient x) (fun e he => by cases he) (fun l x ih e he => ?_) Q
  rw [lastQ_snoc, mem_putE] at he
  rcases he with rfl | ⟨he, _⟩
  · exact ⟨x, by simp, rfl⟩
  · obtain ⟨y, hy, q⟩ := ih e he
    exact ⟨y, List.mem_append_left _ hy, q⟩
theorem cur_strOk {z : Str} (h : isCur (tl z) = true) : PyData.strOk z = true := strOk_of fun c hc => by
  unfold isCur at h
  simp only [Bool.and_eq_true] at h
  have := of_decide_eq_true (List.all_eq_true.mp h.1.2 c hc)
  have g : ∀ c ∈ tl greatT, c < 128 := by decide
  exact g c this
theorem fz_listW {Q : List Qt} (ok : ∀ x ∈ Q, x.Ok) (w : Int) : (listW w Q).all (fz 50) = true := by
  rw [List.all_eq_true]
  intro v hv
  unfold listW at hv
  split at hv
  · obtain ⟨e, he, rfl⟩ := List.mem_map.mp ((sortV_perm _).mem_iff.mp hv)
    obtain ⟨x, hx, rfl⟩ := lastQ_from Q e he
    have o := ok x hx
    have h1 := cur_strOk o.ca
    have h2 := cur_strOk o.cb
    unfold orient
    split <;> simp [lv5, h1, h2]
  · unfold coinsL at hv
    obtain ⟨z, hz, rfl⟩ := List.mem_map.mp hv
    obtain ⟨x, hx, h⟩ := (mem_namesQ Q z).mp ((sortS_perm _).mem_iff.mp hz)
    have o := ok x hx
    rcases h with rfl | rfl
    · simp [cur_strOk o.ca]
    · simp [cur_strOk o.cb]
theorem low_listW (n : Nat) (w : Int) (Q : List Qt) : lowVs n (listW w Q) = true := by
  unfold listW
  split
  · exact low_quotesL n Q
  · exact low_coinsL n Q
theorem len_listW {Q : List Qt} (w : Int) : (listW w Q).length ≤ 2 * Q.length := by
  unfold listW
  split
  · unfold quotesL
    rw [(sortV_perm _).length_eq, List.length_map]
    have := len_lastQ Q
    omega
  · unfold coinsL
    rw [List.length_map, (sortS_perm _).length_eq]
    exact len_namesQ Q
theorem listed_turn {S : Sto} {r k : Nat} {tvs : List (List Key × LV)} {Q : List Qt} (h : Rts S r k tvs Q) (hl : Q.length ≤ 31) (ok : ∀ x ∈ Q, x.Ok) {hd : Nat} {H : List LV} (hh : S[hd]? = some (.lst H)) (hH : H.length ≤ 10000) (w : Int) (hw : w = 0 ∨ w = 1) (l t : LV) (x5 x6 : Option LV) :
    turn (gNm 5) b__law_listed_1 (.int w) [some (.ref r), some l, some (.ref hd), some t, some (.lst [.lst (quotesL Q), .lst (coinsL Q)]), x5, x6] S =
      .nx [some (.ref r), some l, some (.ref hd), some t, some (.lst [.lst (quotesL Q), .lst (coinsL Q)]), some (.int w), some (.ref S.length)] (S.set hd (.lst (H ++ [.lst (listW w Q)])) ++ [.lst (listW w Q ++ [.str ("more" : Str)])]) := by
  have hS : hd < S.length := (List.getElem?_eq_some_iff.mp hh).1
  have ne : ∀ x ∈ Q, x.a ≠ x.b := fun x hx => (ok x hx).ne
  have e1 := law_list_T h hl ne w
  have e2 := law_list_e (h.more (U := [.lst (listW w Q ++ [.str ("more" : Str)])])) hl ne w
  have fzL := fz_listW ok w
  have low := low_listW (S.length) w Q
  have ln := len_listW (Q := Q) w
  have ix : ∀ S, ixL (.lst [.lst (quotesL Q), .lst (coinsL Q)]) (.int w) S = .ok (.lst (listW w Q)) S := fun S => by
    rcases hw with rfl | rfl
    · exact ix_v ls_l (by decide) rfl
    · exact ix_v ls_l (by decide) rfl
  generalize listW w Q = V at *
  generalize LV.lst [.lst (quotesL Q), .lst (coinsL Q)] = DU at *
  have fz60 : fz 60 (.lst V) = true := by
    show V.all (fz 59) = true
    exact fzs_mono (by decide) fzL
  have g0 : (S ++ [LO.lst V])[S.length]? = some (.lst V) := by rw [get_app0]; rfl
  have il : isiL [.ref S.length, .ty "list"] (S ++ [.lst V]) = .ok (.bl true) (S ++ [.lst V]) := by rw [isi_r g0]; rfl
  have n1 : neL (.ref S.length) (.lst V) (S ++ [.lst V]) = .ok (.bl false) (S ++ [.lst V]) := by rw [ne_refL g0]; exact ne_same fz60
  have ap1 := append_ok (v := .str ("more" : Str)) g0 (by omega)
  have s0 : (S ++ [LO.lst V]).set S.length (.lst (V ++ [.str ("more" : Str)])) = S ++ [.lst (V ++ [.str ("more" : Str)])] := by rw [set_app0]; rfl
  rw [s0] at ap1
  have bm1' : ∀ ds (fr : LA), bm1 "list" appendL fr ds (.ok (.ref S.length) (S ++ [.lst V])) = bm2 appendL (.ref S.length) (fr ds (S ++ [.lst V])) := fun ds fr => bm1_r g0
  obtain ⟨S1, hS1⟩ : ∃ S1, S1 = S ++ [LO.lst (V ++ [.str ("more" : Str)])] := ⟨_, rfl⟩
  rw [← hS1] at ap1 e2
  have g1 : S1[hd]? = some (.lst H) := by rw [hS1]; exact get_more hh
  have ap2 := append_ok (v := .lst V) g1 (by omega)
  have bm2' : ∀ ds (fr : LA), bm1 "list" appendL fr ds (.ok (.ref hd) S1) = bm2 appendL (.ref hd) (fr ds S1) := fun ds fr => bm1_r g1
  have s1 : S1.set hd (.lst (H ++ [.lst V])) = S.set hd (.lst (H ++ [.lst V])) ++ [LO.lst (V ++ [.str ("more" : Str)])] := by
    rw [hS1]
    exact List.set_append_left hd _ hS
  obtain ⟨S2, hS2⟩ : ∃ S2, S2 = S1.set hd (.lst (H ++ [.lst V])) := ⟨_, rfl⟩
  rw [← s1, ← hS2]
  rw [← hS2] at ap2
  have g2 : S2[hd]? = some (.lst (H ++ [.lst V])) := by
    rw [hS2, List.getElem?_set_self (by rw [hS1, List.length_append]; omega)]
  have lx : ixL (.ref hd) (.int (-1)) S2 = .ok (.lst V) S2 := ix_last (ls_r g2) (by simp)
  have n2 : neL (.lst V) (.lst V) S2 = .ok (.bl false) S2 := ne_same fz60
  have ndu : isX DU = false := by
    have := ix S
    cases DU <;> first | rfl | (simp [ixL, ixO] at this)
  have nt : True := trivial
  generalize S ++ [LO.lst V] = S0 at *
  simp [turn, gNm, b__law_listed_1, e1, il, ix, n1, bm1', ap1, bm2', e2, ap2, lx, n2, ndu]
theorem listed_e {S : Sto} {r k : Nat} {tvs : List (List Key × LV)} {Q : List Qt} (h : Rts S r k tvs Q) (hl : Q.length ≤ 31) (ok : ∀ x ∈ Q, x.Ok) {l : Nat} (hQ : S[l]? = some (.lst (Q.map Qt.lv))) {hd : Nat} {H : List LV} (hh : S[hd]? = some (.lst H)) (hH : H.length ≤ 9000) (lH : lowVs S.length H = true) (t : Int) :
    ∃ w1 w2, f__law_listed [.ref r, .ref l, .ref hd, .int t] S = .ok (.bl true) (S.set hd (.lst (H ++ [.lst (listW w1 Q), .lst (listW w2 Q)]))) := by
  have hS : hd < S.length := (List.getElem?_eq_some_iff.mp hh).1
  have ne : ∀ x ∈ Q, x.a ≠ x.b := fun x hx => (ok x hx).ne
  have ll := law_lists_e hQ hl ne
  have go : ∀ w1 w2 : Int, (w1 = 0 ∨ w1 = 1) → (w2 = 0 ∨ w2 = 1) → (∀ S, ixL (.lst [.lst [.int 0, .int 1], .lst [.int 1, .int 0]]) (.int (t % 2)) S = .ok (.lst [.int w1, .int w2]) S) → f__law_listed [.ref r, .ref l, .ref hd, .int t] S = .ok (.bl true) (S.set hd (.lst (H ++ [.lst (listW w1 Q), .lst (listW w2 Q)]))) := fun w1 w2 h1 h2 ix => by
    have t1 := listed_turn h hl ok hh (by omega) w1 h1 (.ref l) (.int t) none none
    have h' : Rts (S.set hd (.lst (H ++ [.lst (listW w1 Q)])) ++ [.lst (listW w1 Q ++ [.str ("more" : Str)])]) r k tvs Q := (h.lst hh _).more
    have hh' : (S.set hd (.lst (H ++ [.lst (listW w1 Q)])) ++ [.lst (listW w1 Q ++ [.str ("more" : Str)])])[hd]? = some (.lst (H ++ [.lst (listW w1 Q)])) := get_more (List.getElem?_set_self hS)
    have t2 := listed_turn h' hl ok hh' (by simp; omega) w2 h2 (.ref l) (.int t) (some (.int w1)) (some (.ref S.length))
    rw [List.set_append_left hd _ (by rw [List.length_set]; exact hS), List.set_set, List.append_assoc, List.append_assoc] at t2
    have gc : gcF S (.ok (.bl true) (S.set hd (.lst (H ++ [.lst (listW w1 Q), .lst (listW w2 Q)])) ++ [.lst (listW w1 Q ++ [.str ("more" : Str)]), .lst (listW w2 Q ++ [.str ("more" : Str)])])) = .ok (.bl true) (S.set hd (.lst (H ++ [.lst (listW w1 Q), .lst (listW w2 Q)]))) := by
      refine gc_chg (lw_set lw_refl ?_) (by simp) rfl
      show lowVs S.length (H ++ [.lst (listW w1 Q), .lst (listW w2 Q)]) = true
      refine lows_all.mpr fun v hv => ?_
      rcases List.mem_append.mp hv with hv | hv
      · exact lows_all.mp lH v hv
      · simp only [List.mem_cons, List.not_mem_nil, or_false] at hv
        rcases hv with rfl | rfl
        · exact low_listW _ _ _
        · exact low_listW _ _ _
    have loop : forS (gNm 5) b__law_listed_1 [some (.ref r), some (.ref l), some (.ref hd), some (.int t), some (.lst [.lst (quotesL Q), .lst (coinsL Q)]), none, none] (.ok (itOf [.int w1, .int w2]) S) =
      .nx [some (.ref r), some (.ref l), some (.ref hd), some (.int t), some (.lst [.lst (quotesL Q), .lst (coinsL Q)]), some (.int w2), some (.ref (S.set hd (LO.lst (H ++ [LV.lst (listW w1 Q)])) ++ [LO.lst (listW w1 Q ++ [LV.str ("more" : Str)])]).length)] (S.set hd (.lst (H ++ [.lst (listW w1 Q), .lst (listW w2 Q)])) ++ [.lst (listW w1 Q ++ [.str ("more" : Str)]), .lst (listW w2 Q ++ [.str ("more" : Str)])]) := by
      rw [forS_of, forL_cons t1, forL_cons t2]
      rfl
    have ndu : isX (.lst [.lst (quotesL Q), .lst (coinsL Q)]) = false := rfl
    generalize LV.lst [.lst (quotesL Q), .lst (coinsL Q)] = DU at *
    generalize (S.set hd (.lst (H ++ [.lst (listW w1 Q)])) ++ [LO.lst (listW w1 Q ++ [.str ("more" : Str)])]).length = N6 at *
    generalize S.set hd (.lst (H ++ [.lst (listW w1 Q), .lst (listW w2 Q)])) ++ [LO.lst (listW w1 Q ++ [.str ("more" : Str)]), .lst (listW w2 Q ++ [.str ("more" : Str)])] = S3 at *
    generalize S.set hd (.lst (H ++ [.lst (listW w1 Q), .lst (listW w2 Q)])) = S4 at *
    simp [f__law_listed, e_fn, g__law_listed, ll, ndu, mod_ii, ix, loop, gc]
  have : t % 2 = 0 ∨ t % 2 = 1 := by omega
  rcases this with e | e
  · exact ⟨0, 1, go 0 1 (by simp) (by simp) fun S => by rw [e]; exact ix_v ls_l (by decide) rfl⟩
  · exact ⟨1, 0, go 1 0 (by simp) (by simp) fun S => by rw [e]; exact ix_v ls_l (by decide) rfl⟩
end K09


set_option Elab.async false
set_option linter.all false
set_option maxRecDepth 100000
set_option maxHeartbeats 4000000
namespace K09
open PySem PySem.Spec PyProof.Rows L2 LL
/-! ### the newest one, held against the law's -/
structure Two (S : Sto) (r k l : Nat) (tvs : List (List Key × LV)) (Q : List Qt) : Prop where
  rts : Rts S r k tvs Q
  told : S[l]? = some (.lst (Q.map Qt.lv))
  ok : ∀ x ∈ Q, x.Ok
  len : Q.length ≤ 31
theorem Two.more {S U : Sto} {r k l : Nat} {tvs : List (List Key × LV)} {Q : List Qt} (h : Two S r k l tvs Q) : Two (S ++ U) r k l tvs Q := ⟨h.rts.more, get_more h.told, h.ok, h.len⟩
theorem newest_good_e {S : Sto} {r k l : Nat} {tvs : List (List Key × LV)} {Q : List Qt} (h : Two S r k l tvs Q) (a b : Str) (day : Int) : f__law_newest_good [.ref r, .ref l, .str a, .str b, .int day] S = .ok (.bl true) S := by
  have ne : ∀ x ∈ Q, x.a ≠ x.b := fun x hx => (h.ok x hx).ne
  have it : iterO (.ref l) S = .ok (itRef l Q.length) S := by rw [iter_r h.told, List.length_map]
  have e1 := law_newest_e (v := .ref l) rfl it (ItIs.refm h.told) a b day
  have e2 := newest_e h.rts (by have := h.len; omega) ne a b day
  have mt : ∀ (g : Fn) (l' : List (Nat × Fn)) (fa : LA) (ds : Sl), meth1 (tabA ((100, g) :: l')) fa ds (.ok (.ref r) S) = meth2 g (.ref r) (fa ds S) := fun g l' fa ds => meth_t0 h.rts.ins
  cases hnd : newD Q a b day with
  | none =>
    rw [hnd] at e1 e2
    simp only [optQ] at e1 e2
    simp [f__law_newest_good, e_fn, g__law_newest_good, e1, mt, e2, gc_low0]
  | some d =>
    rw [hnd] at e1 e2
    simp only [optQ] at e1 e2
    have nx : isX (dvQ d) = false := rfl
    have nn : isN (dvQ d) = false := rfl
    have it : isiL [dvQ d, .ty "tuple"] S = .ok (.bl true) S := rfl
    have n1 : neL (dvQ d) (dvQ d) S = .ok (.bl false) S := ne_same rfl
    have io : iterO (dvQ d) S = .ok (itOf [.int d.2.1, .int d.2.2]) S := rfl
    have body := lcR_map (t := false) (lg := gNm 7) (ft := t__law_newest_good_1) (fe := e__law_newest_good_1) (ds := [some (.ref r), some (.ref l), some (.str a), some (.str b), some (.int day), some (dvQ d), some (dvQ d), none]) (S := S) (l := itOf [.int d.2.1, .int d.2.2]) (ws := [d.2.1, d.2.2]) (g := LV.int) (fun _ => false) (fun _ => .non) .of (by simp) (fun i hi acc => ⟨_, rfl, by simp [t__law_newest_good_1], fun z => by cases z⟩) (fun _ _ z => by cases z)
    have body : lcR false (gNm 7) t__law_newest_good_1 e__law_newest_good_1 [some (.ref r), some (.ref l), some (.str a), some (.str b), some (.int day), some (dvQ d), some (dvQ d), none] (.ok (itOf [.int d.2.1, .int d.2.2]) S) = .ok (.lst []) S := body
    have eq : eqL (.lst []) (.lst []) S = .ok (.bl true) S := eq_same rfl
    generalize dvQ d = E at *
    simp [f__law_newest_good, e_fn, g__law_newest_good, c__law_newest_good_1, wipeL, e1, mt, e2, nx, nn, it, n1, io, body, eq, gc_low0]
theorem pair_good_e {S : Sto} {r k l : Nat} {tvs : List (List Key × LV)} {Q : List Qt} (h : Two S r k l tvs Q) (a b : Str) {day : Int} (d0 : 0 ≤ day) (d1 : day ≤ 146096) : f__law_pair_good [.ref r, .ref l, .str a, .str b, .int day] S = .ok (.bl true) S := by
  have tn : ∀ (d : Int) (x5 : Option LV), turn (gNm 5) b__law_pair_good_1 (.int d) [some (.ref r), some (.ref l), some (.str a), some (.str b), some (.int day), x5] S = .nx [some (.ref r), some (.ref l), some (.str a), some (.str b), some (.int day), some (.int d)] S := fun d x5 => by
    have g1 := newest_good_e h a b d
    have g2 := newest_good_e h b a d
    simp [turn, gNm, b__law_pair_good_1, g1, g2]
  have loop : ∀ x y z : Int, forS (gNm 5) b__law_pair_good_1 [some (.ref r), some (.ref l), some (.str a), some (.str b), some (.int day), none] (.ok (itOf [.int x, .int y, .int z]) S) = .nx [some (.ref r), some (.ref l), some (.str a), some (.str b), some (.int day), some (.int z)] S := fun x y z => by
    rw [forS_of, forL_cons (tn x _), forL_cons (tn y _), forL_cons (tn z _)]
    rfl
  simp [f__law_pair_good, e_fn, g__law_pair_good, loop, gc_low0]
theorem all_good_e {S : Sto} {r k l : Nat} {tvs : List (List Key × LV)} {Q : List Qt} (h : Two S r k l tvs Q) (cs : List Str) (hc : cs.length ≤ 1000) (day : Int) : f__law_all_good [.ref r, .ref l, .lst (cs.map .str), .int day] S = .ok (.bl true) S := by
  obtain ⟨j', loop⟩ := for_at (J := Option LV × Option LV) (lg := gNm 4) (fb := b__law_all_good_1) (xs := cs.map .str) (fun _ j => [some (.ref r), some (.ref l), some (.lst (cs.map .str)), some (.int day), j.1, j.2]) (fun _ => S) (fun i v hv j => by
    rw [List.getElem?_map, Option.map_eq_some_iff] at hv
    obtain ⟨a, ha, rfl⟩ := hv
    refine ⟨(some (.str a), j.2), ?_⟩
    have body := lcR_map (t := false) (lg := gNm 5) (ft := t__law_all_good_2) (fe := e__law_all_good_2) (ds := [some (.ref r), some (.ref l), some (.lst (cs.map .str)), some (.int day), some (.str a), none]) (S := S) (l := itOf (cs.map .str)) (ws := cs) (g := LV.str) (fun _ => false) (fun _ => .non) .of (by omega) (fun b hb acc => ⟨_, rfl, by
      have g1 := newest_good_e (h.more (U := [.lst acc])) a b day
      simp [t__law_all_good_2, gNm, g1], fun z => by cases z⟩) (fun _ _ z => by cases z)
    have fe : (cs.filter fun _ => false) = [] := List.filter_eq_nil_iff.mpr fun _ _ z => by cases z
    rw [fe] at body
    have ne : neL (.lst []) (.lst []) S = .ok (.bl false) S := ne_same rfl
    have body : lcR false (gNm 5) t__law_all_good_2 e__law_all_good_2 [some (.ref r), some (.ref l), some (.lst (cs.map .str)), some (.int day), some (.str a), none] (.ok (itOf (cs.map .str)) S) = .ok (.lst []) S := body
    generalize cs.map LV.str = CV at *
    simp [turn, gNm, b__law_all_good_1, c__law_all_good_2, wipeL, body, ne]) (none, none)
  have loop : forS (gNm 4) b__law_all_good_1 [some (.ref r), some (.ref l), some (.lst (cs.map .str)), some (.int day), none, none] (.ok (itOf (cs.map .str)) S) = .nx [some (.ref r), some (.ref l), some (.lst (cs.map .str)), some (.int day), j'.1, j'.2] S := loop
  generalize cs.map LV.str = CV at *
  simp [f__law_all_good, e_fn, g__law_all_good, loop, gc_low0]
/-- told, and not refused -/
theorem told_ok {S : Sto} {r k : Nat} {tvs : List (List Key × LV)} {Q : List Qt} (h : Rts S r k tvs Q) (hl : Q.length ≤ 100000) {x : Qt} (ok : x.Ok) :
    ∃ S' tvs', f__law_told [.ref r, x.lv] S = .ok (.str ("" : Str)) S' ∧ Rts S' r k tvs' (Q ++ [x]) ∧ Leaves S S' k tvs tvs' := by
  obtain ⟨S', tvs', e, h', lv⟩ := quote_e h hl ok
  refine ⟨S', tvs', ?_, h', lv⟩
  have i0 : ∀ S, ixL x.lv (.int 0) S = .ok (.int x.day) S := fun S => ix_t (by decide) rfl
  have i1 : ∀ S, ixL x.lv (.int 1) S = .ok (.str x.a) S := fun S => ix_t (by decide) rfl
  have i2 : ∀ S, ixL x.lv (.int 2) S = .ok (.int x.p) S := fun S => ix_t (by decide) rfl
  have i3 : ∀ S, ixL x.lv (.int 3) S = .ok (.str x.b) S := fun S => ix_t (by decide) rfl
  have i4 : ∀ S, ixL x.lv (.int 4) S = .ok (.int x.q) S := fun S => ix_t (by decide) rfl
  have nx : isX x.lv = false := rfl
  have mt : ∀ (g : Fn) (l' : List (Nat × Fn)) (fa : LA) (ds : Sl), meth1 (tabA ((100, g) :: l')) fa ds (.ok (.ref r) S) = meth2 g (.ref r) (fa ds S) := fun g l' fa ds => meth_t0 h.ins
  have m0 : ∀ S, mulL (.str ("told" : Str)) (.int 0) S = .ok (.str ("" : Str)) S := fun S => rfl
  have gc := lv.gc (.str ("" : Str)) rfl
  generalize x.lv = X at *
  simp [f__law_told, e_fn, g__law_told, e_tryAs, mt, i0, i1, i2, i3, i4, nx, e, m0, gc]
end K09


set_option Elab.async false
set_option linter.all false
set_option maxRecDepth 100000
set_option maxHeartbeats 4000000
namespace K09
open PySem PySem.Spec PyProof.Rows L2 LL
theorem Kd.low {v : LV} (h : Kd v) (n : Nat) : lowV n v = true := by
  cases v with
  | lst xs => exact h n
  | int _ => rfl
  | bl _ => rfl
  | non => rfl
  | str _ => rfl
  | _ => exact h.elim
theorem pickN {xs : List LV} {n : Int} (h0 : 0 < n) (hl : (xs.length : Int) = n) (x : Int) : ∃ u ∈ xs, ∀ S, ixL (.lst xs) (.int (x % n)) S = .ok u S := by
  have p0 := Int.emod_nonneg x (show n ≠ 0 by omega)
  have p1 := Int.emod_lt_of_pos x h0
  have hl : (x % n).toNat < xs.length := by omega
  exact ⟨xs[(x % n).toNat], List.getElem_mem hl, fun S => ix_v ls_l p0 (List.getElem?_eq_getElem hl)⟩
theorem fine_c {z : Str} {n : Nat} (h : z.length ≤ n) (h2 : ∀ c ∈ tl z, c < 128) : Fine n z := ⟨h, h2⟩
theorem spoilt_e {d : Int} {a : Str} {p : Int} {b : Str} {q : Int} (ha : Fine 100 a) (hb : Fine 100 b) (c e : Int) (S : Sto) :
    ∃ d' a' p' b' q', Kd d' ∧ Kd a' ∧ Kd p' ∧ Kd b' ∧ Kd q' ∧ f__law_spoilt [.tup [.int d, .str a, .int p, .str b, .int q], .int c, .int e] S = .ok (.tup [d', a', p', b', q']) S := by
  obtain ⟨T, hT⟩ : ∃ T : Int, T = 10 ^ 60 := ⟨_, rfl⟩
  have po60 : ∀ S, powL (.int 10) (.int 60) S = .ok (.int T) S := fun S => by rw [pow_ii (by decide) (by decide) (by decide), hT]; rfl
  have po9 : ∀ S, powL (.int 10) (.int 9) S = .ok (.int 1000000000) S := fun S => rfl
  obtain ⟨far, hf⟩ : ∃ far : Int, ∀ S, modL (.int (if e < 0 then -e else e)) (.int T) S = .ok (.int far) S := ⟨_, fun S => mod_ii (by rw [hT]; decide)⟩
  obtain ⟨w, wm, wx⟩ := pickN (xs := [.int (-1), .int 146097, .non, .bl true, .str ("5" : Str), .lst [.int 5], .int (146097 + far), .bl false]) (n := 8) (by decide) rfl e
  obtain ⟨u, um, ux⟩ := pickN (xs := [.str ("" : Str), .str ("EU" : Str), .str ("eur" : Str), .int 5, .non, .lst [.str ("EUR" : Str)], .str ("A1B" : Str), .str ("EURO" : Str)]) (n := 8) (by decide) rfl e
  obtain ⟨t, tm, tx⟩ := pickN (xs := [.int 0, .int (-1), .int 1000000001, .bl true, .non, .str ("3" : Str), .int (1000000001 + far), .bl false]) (n := 8) (by decide) rfl e
  have kw : Kd w := by
    simp only [List.mem_cons, List.not_mem_nil, or_false] at wm
    rcases wm with rfl | rfl | rfl | rfl | rfl | rfl | rfl | rfl
    · trivial
    · trivial
    · trivial
    · trivial
    · exact fine_c (by decide) (by decide)
    · exact fun n => rfl
    · trivial
    · trivial
  have ku : Kd u := by
    simp only [List.mem_cons, List.not_mem_nil, or_false] at um
    rcases um with rfl | rfl | rfl | rfl | rfl | rfl | rfl | rfl
    · exact fine_c (by decide) (by decide)
    · exact fine_c (by decide) (by decide)
    · exact fine_c (by decide) (by decide)
    · trivial
    · trivial
    · exact fun n => rfl
    · exact fine_c (by decide) (by decide)
    · exact fine_c (by decide) (by decide)
  have kt : Kd t := by
    simp only [List.mem_cons, List.not_mem_nil, or_false] at tm
    rcases tm with rfl | rfl | rfl | rfl | rfl | rfl | rfl | rfl
    · trivial
    · trivial
    · trivial
    · trivial
    · trivial
    · exact fine_c (by decide) (by decide)
    · trivial
    · trivial
  have nw := kw.nx
  have nu := ku.nx
  have nt := kt.nx
  clear wm um tm
  obtain ⟨v, vm, vx⟩ := pickN (xs := [.tup [w, .str a, .int p, .str b, .int q], .tup [.int d, u, .int p, .str b, .int q], .tup [.int d, .str a, .int p, u, .int q], .tup [.int d, .str a, t, .str b, .int q], .tup [.int d, .str a, .int p, .str b, t], .tup [w, u, .int p, .str b, .int q], .tup [.int d, .str a, t, .str a, .int q]]) (n := 7) (by decide) rfl c
  have ad : ∀ S, addL (.lst [.tup [w, .str a, .int p, .str b, .int q], .tup [.int d, u, .int p, .str b, .int q], .tup [.int d, .str a, .int p, u, .int q], .tup [.int d, .str a, t, .str b, .int q]]) (.lst [.tup [.int d, .str a, .int p, .str b, t], .tup [w, u, .int p, .str b, .int q], .tup [.int d, .str a, t, .str a, .int q]]) S = .ok (.lst [.tup [w, .str a, .int p, .str b, .int q], .tup [.int d, u, .int p, .str b, .int q], .tup [.int d, .str a, .int p, u, .int q], .tup [.int d, .str a, t, .str b, .int q], .tup [.int d, .str a, .int p, .str b, t], .tup [w, u, .int p, .str b, .int q], .tup [.int d, .str a, t, .str a, .int q]]) S := fun S =>
    (add_ll (t := false) ls_l ls_l (by show 4 + 3 ≤ 16777216; omega)).trans rfl
  have main : lowV S.length v = true → isX v = false → f__law_spoilt [.tup [.int d, .str a, .int p, .str b, .int q], .int c, .int e] S = .ok v S := fun lv nv => by
    have gc : gcF S (.ok v S) = .ok v S := gc_low0 lv
    simp [f__law_spoilt, e_fn, g__law_spoilt, gtp_e, gTp, gsCons, gNm, gsNil, po60, po9, hf, mod_ii, wx, ux, tx, nw, nu, nt, ad, vx, gc]
  simp only [List.mem_cons, List.not_mem_nil, or_false] at vm
  have kd : Kd (.int d) := trivial
  have kp : Kd (.int p) := trivial
  have kq : Kd (.int q) := trivial
  have ka : Kd (.str a) := ha
  have kb : Kd (.str b) := hb
  have lw := kw.low S.length
  have lu := ku.low S.length
  have lt := kt.low S.length
  rcases vm with rfl | rfl | rfl | rfl | rfl | rfl | rfl
  · exact ⟨_, _, _, _, _, kw, ka, kp, kb, kq, main (by simp [lw]) rfl⟩
  · exact ⟨_, _, _, _, _, kd, ku, kp, kb, kq, main (by simp [lu]) rfl⟩
  · exact ⟨_, _, _, _, _, kd, ka, kp, ku, kq, main (by simp [lu]) rfl⟩
  · exact ⟨_, _, _, _, _, kd, ka, kt, kb, kq, main (by simp [lt]) rfl⟩
  · exact ⟨_, _, _, _, _, kd, ka, kp, kb, kt, main (by simp [lt]) rfl⟩
  · exact ⟨_, _, _, _, _, kw, ku, kp, kb, kq, main (by simp [lw, lu]) rfl⟩
  · exact ⟨_, _, _, _, _, kd, ka, kt, ka, kq, main (by simp [lt]) rfl⟩
/-! ### the law's store: two Rates, what each was told, the lists held -/
def rN (b : Bool) : Nat := if b = true then 2 else 0
def lN (b : Bool) : Nat := if b = true then 5 else 4
def sI (b : Bool) : Int := if b = true then 1 else 0
structure St (S : Sto) (H : List LV) (Q : Bool → List Qt) (tvs : Bool → List (List Key × LV)) (m : Nat) : Prop where
  rts : ∀ b, Rts S (rN b) (rN b + 1) (tvs b) (Q b)
  told : ∀ b, S[lN b]? = some (.lst ((Q b).map Qt.lv))
  all : S[6]? = some (.lst [.ref 4, .ref 5])
  held : S[7]? = some (.lst H)
  hk : ∀ v ∈ H, ∃ V, v = .lst V ∧ V.all (fz 50) = true
  hl : H.length ≤ 2 * m
  ok : ∀ b, ∀ x ∈ Q b, x.Ok
  len : ∀ b, (Q b).length ≤ m
  far : ∀ b ks n, getK (tvs b) ks = some (.ref n) → 8 ≤ n
  dis : ∀ ks ks' n, getK (tvs false) ks = some (.ref n) → getK (tvs true) ks' ≠ some (.ref n)
section
variable {S : Sto} {H : List LV} {Q : Bool → List Qt} {tvs : Bool → List (List Key × LV)} {m : Nat}
theorem St.two (h : St S H Q tvs m) (hm : m ≤ 31) (b : Bool) : Two S (rN b) (rN b + 1) (lN b) (tvs b) (Q b) := ⟨h.rts b, h.told b, h.ok b, Nat.le_trans (h.len b) hm⟩
theorem St.next (h : St S H Q tvs m) : St S H Q tvs (m + 1) := ⟨h.rts, h.told, h.all, h.held, h.hk, by have := h.hl; omega, h.ok, fun b => by have := h.len b; omega, h.far, h.dis⟩
theorem hk_low {H : List LV} (h : ∀ v ∈ H, ∃ V, v = LV.lst V ∧ V.all (fz 50) = true) (n : Nat) : lowVs n H = true := lows_all.mpr fun v hv => by
  obtain ⟨V, rfl, hV⟩ := h v hv
  exact fzs_low hV
/-- the held ones listed -/
theorem St.listed (h : St S H Q tvs m) (hm : m ≤ 31) (b : Bool) (t : Int) : ∃ E S', f__law_listed [.ref (rN b), .ref (lN b), .ref 7, .int t] S = .ok (.bl true) S' ∧ St S' (H ++ E) Q tvs (m + 1) := by
  obtain ⟨w1, w2, e⟩ := listed_e (h.rts b) (Nat.le_trans (h.len b) hm) (h.ok b) (h.told b) h.held (by have := h.hl; omega) (hk_low h.hk _) t
  refine ⟨[.lst (listW w1 (Q b)), .lst (listW w2 (Q b))], _, e, ?_⟩
  have ne : ∀ n, n ≠ 7 → ∀ o : LO, (S.set 7 o)[n]? = S[n]? := fun n hn o => List.getElem?_set_ne fun z => hn z.symm
  have l7 : 7 < S.length := (List.getElem?_eq_some_iff.mp h.held).1
  refine ⟨fun b => (h.rts b).lst h.held _, fun b => ?_, ?_, ?_, ?_, ?_, h.ok, fun b => by have := h.len b; omega, h.far, h.dis⟩
  · rw [ne _ (by cases b <;> decide)]; exact h.told b
  · rw [ne _ (by decide)]; exact h.all
  · rw [List.getElem?_set_self l7]
  · intro v hv
    rcases List.mem_append.mp hv with hv | hv
    · exact h.hk v hv
    · simp only [List.mem_cons, List.not_mem_nil, or_false] at hv
      rcases hv with rfl | rfl
      · exact ⟨_, rfl, fz_listW (h.ok b) _⟩
      · exact ⟨_, rfl, fz_listW (h.ok b) _⟩
  · rw [List.length_append]
    have := h.hl
    show _ + 2 ≤ _
    omega
def upd {α : Type} (f : Bool → α) (b : Bool) (x : α) : Bool → α := fun c => if c = b then x else f c
theorem upd_s {α : Type} {f : Bool → α} {b : Bool} {x : α} : upd f b x b = x := if_pos rfl
theorem upd_o {α : Type} {f : Bool → α} {b c : Bool} {x : α} (h : c ≠ b) : upd f b x c = f c := if_neg h
/-- a quote told -/
theorem St.quote (h : St S H Q tvs m) (hm : m ≤ 31) (b : Bool) {x : Qt} (ok : x.Ok) :
    ∃ S' tvs', f__law_told [.ref (rN b), x.lv] S = .ok (.str ("" : Str)) S' ∧ S'[6]? = some (.lst [.ref 4, .ref 5]) ∧ S'[lN b]? = some (.lst ((Q b).map Qt.lv)) ∧ St (S'.set (lN b) (.lst ((Q b).map Qt.lv ++ [x.lv]))) H (upd Q b (Q b ++ [x])) (upd tvs b tvs') (m + 1) := by
  obtain ⟨S', tvs', e, h', lv⟩ := told_ok (h.rts b) (by have := h.len b; omega) ok
  have l7 : 7 < S.length := (List.getElem?_eq_some_iff.mp h.held).1
  have low : ∀ n, n < 8 → n ≠ rN b + 1 → S'[n]? = S[n]? := fun n hn hk => lv.old n (by omega) hk fun ks g => by
    have := h.far b ks n g
    omega
  have k6 : S'[6]? = some (.lst [.ref 4, .ref 5]) := by rw [low 6 (by decide) (by cases b <;> decide)]; exact h.all
  have k7 : S'[7]? = some (.lst H) := by rw [low 7 (by decide) (by cases b <;> decide)]; exact h.held
  have kl : ∀ c, S'[lN c]? = some (.lst ((Q c).map Qt.lv)) := fun c => by rw [low (lN c) (by cases c <;> decide) (by cases b <;> cases c <;> decide)]; exact h.told c
  refine ⟨S', tvs', e, k6, kl b, ?_⟩
  have lb : lN b < S'.length := (List.getElem?_eq_some_iff.mp (kl b)).1
  have ne : ∀ n, n ≠ lN b → ∀ o : LO, (S'.set (lN b) o)[n]? = S'[n]? := fun n hn o => List.getElem?_set_ne fun z => hn z.symm
  have oth : ∀ c, c ≠ b → ∀ ks n, getK (tvs c) ks = some (.ref n) → ∀ ks', getK (tvs b) ks' ≠ some (.ref n) := fun c hc ks n g ks' => by
    cases b <;> cases c
    · exact absurd rfl hc
    · exact fun z => h.dis _ _ _ z g
    · exact h.dis _ _ _ g
    · exact absurd rfl hc
  refine ⟨fun c => ?_, fun c => ?_, ?_, ?_, h.hk, by have := h.hl; omega, fun c => ?_, fun c => ?_, fun c => ?_, ?_⟩
  · by_cases hc : c = b
    · subst hc
      rw [upd_s, upd_s]
      exact h'.lst (kl c) _
    · rw [upd_o hc, upd_o hc]
      have : Rts S' (rN c) (rN c + 1) (tvs c) (Q c) := (h.rts c).keep (low _ (by cases c <;> decide) (by cases b <;> cases c <;> decide)) (low _ (by cases c <;> decide) (by
        cases b <;> cases c <;> first | decide | exact absurd rfl hc)) fun ks n g => by
          have n8 := h.far c ks n g
          obtain ⟨_, _, n', L, _, q2, _, q4, _⟩ := (h.rts c).ref g
          cases q2
          exact lv.old n (List.getElem?_eq_some_iff.mp q4).1 (by cases b <;> simp [rN] <;> omega) (oth c hc ks n g)
      exact this.lst (kl b) _
  · by_cases hc : c = b
    · subst hc
      rw [upd_s, List.getElem?_set_self lb, List.map_append]
      rfl
    · rw [upd_o hc, ne _ (by cases b <;> cases c <;> first | decide | exact absurd rfl hc)]
      exact kl c
  · rw [ne _ (by cases b <;> decide)]; exact k6
  · rw [ne _ (by cases b <;> decide)]; exact k7
  · by_cases hc : c = b
    · subst hc
      rw [upd_s]
      intro y hy
      rcases List.mem_append.mp hy with hy | hy
      · exact h.ok c y hy
      · rw [List.mem_singleton.mp hy]; exact ok
    · rw [upd_o hc]; exact h.ok c
  · by_cases hc : c = b
    · subst hc
      rw [upd_s, List.length_append, List.length_singleton]
      have := h.len c
      omega
    · rw [upd_o hc]
      have := h.len c
      omega
  · by_cases hc : c = b
    · subst hc
      rw [upd_s]
      intro ks n g
      rcases lv.ref ks n g with g | g
      · exact h.far c ks n g
      · omega
    · rw [upd_o hc]; exact h.far c
  · have two : ∀ c, c ≠ b → ∀ ks ks' n, getK tvs' ks = some (.ref n) → getK (tvs c) ks' ≠ some (.ref n) := fun c hc ks ks' n g z => by
      obtain ⟨_, _, n', L, _, q2, _, q4, _⟩ := (h.rts c).ref z
      cases q2
      have := (List.getElem?_eq_some_iff.mp q4).1
      rcases lv.ref ks n g with g | g
      · exact oth c hc ks' n z ks g
      · omega
    intro ks ks' n g z
    cases b with
    | false => exact two true (by decide) ks ks' n g z
    | true => exact two false (by decide) ks' ks n z g
end
end K09


set_option Elab.async false
set_option linter.all false
set_option maxRecDepth 100000
set_option maxHeartbeats 4000000
namespace K09
open PySem PySem.Spec PyProof.Rows L2 LL
theorem cut_app {α : Type} (H E : List α) : cutL (H ++ E) (some (H.length : Int)) none = E := by
  unfold cutL
  rw [HT.sIx_nat, HT.sIx_none, List.length_append]
  have : min H.length (H.length + E.length) = H.length := by omega
  rw [this, List.drop_left', List.take_of_length_le (by omega)]
  rfl
section
variable {S : Sto} {H : List LV} {Q : Bool → List Qt} {tvs : Bool → List (List Key × LV)} {m : Nat}
abbrev RS : LV := .lst [.ref 0, .ref 2]
theorem ixRS (b : Bool) (S : Sto) : ixL RS (.int (sI b)) S = .ok (.ref (rN b)) S := by cases b <;> exact ix_v ls_l (by decide) rfl
theorem ix6 (h : S[6]? = some (.lst [.ref 4, .ref 5])) (b : Bool) : ixL (.ref 6) (.int (sI b)) S = .ok (.ref (lN b)) S := by cases b <;> exact ix_l h (by decide) rfl
/-- both Rates by the pair -/
theorem both_e (h : St S H Q tvs m) (hm : m ≤ 31) (one other : Str) {day : Int} (d0 : 0 ≤ day) (d1 : day ≤ 146096) (v0 v1 v2 v5 v6 v8 v9 v10 v13 v14 v15 v16 x17 x18 : Option LV) :
    forS (gNm 17) b_law_3 [v0, v1, v2, some RS, some (.ref 6), v5, v6, some (.int day), v8, v9, v10, some (.str one), some (.str other), v13, v14, v15, v16, x17, x18] (.ok (itOf (rng 0 2)) S) =
      .nx [v0, v1, v2, some RS, some (.ref 6), v5, v6, some (.int day), v8, v9, v10, some (.str one), some (.str other), v13, v14, v15, v16, some (.int 1), x18] S := by
  have tn : ∀ (b : Bool) (x17 : Option LV), turn (gNm 17) b_law_3 (.int (sI b)) [v0, v1, v2, some RS, some (.ref 6), v5, v6, some (.int day), v8, v9, v10, some (.str one), some (.str other), v13, v14, v15, v16, x17, x18] S = .nx [v0, v1, v2, some RS, some (.ref 6), v5, v6, some (.int day), v8, v9, v10, some (.str one), some (.str other), v13, v14, v15, v16, some (.int (sI b)), x18] S := fun b x17 => by
    have g := pair_good_e (h.two hm b) one other d0 d1
    have i1 := ixRS b S
    have i2 := ix6 h.all b
    have nr : isX RS = false := rfl
    generalize RS = R at *
    simp [turn, gNm, b_law_3, i1, i2, nr, g]
  have e : rng 0 2 = [.int (sI false), .int (sI true)] := rfl
  rw [forS_of, e, forL_cons (tn false _), forL_cons (tn true _)]
  rfl
/-- the list that is kept -/
theorem kept_e {E : List LV} (h : St S (H ++ E) Q tvs m) (hm : m ≤ 100) (v0 v1 v2 v3 v4 v7 v8 v9 v10 v11 v12 v13 v14 v15 v16 v17 x18 : Option LV) :
    rb_law_2_15 [v0, v1, v2, v3, v4, some (.ref 7), some (.lst H), v7, v8, v9, v10, v11, v12, v13, v14, v15, v16, v17, x18] S =
      .nx [v0, v1, v2, v3, v4, some (.ref 7), some (.lst (H ++ E)), v7, v8, v9, v10, v11, v12, v13, v14, v15, v16, v17, x18] S := by
  have hl := h.hl
  rw [List.length_append] at hl
  have ln : ∀ S, lenL [.lst H] S = .ok (.int H.length) S := fun S => len_l
  have sl : slG false (.ref 7) (some (H.length : Int)) none S = .ok (.lst E) S := by
    rw [sl_ref h.held, cut_app]
    rfl
  have body := lcR_all (t := false) (lg := gNm 18) (fe := e_law_4) (ds := [v0, v1, v2, v3, v4, some (.ref 7), some (.lst H), v7, v8, v9, v10, v11, v12, v13, v14, v15, v16, v17, none]) (S := S) (l := itOf E) (ws := E) (g := id) id (by rw [List.map_id]; exact .of) (by omega) (fun v hv acc => ⟨_, rfl, by
    obtain ⟨V, rfl, hV⟩ := h.hk v (List.mem_append_right _ hv)
    have li : ∀ S, listG false [.lst V] S = .ok (.lst V) S := fun S => list_ls ls_l
    simp [e_law_4, gNm, li]⟩) (fun v hv => by
    obtain ⟨V, rfl, hV⟩ := h.hk v (List.mem_append_right _ hv)
    exact fzs_low hV)
  rw [List.map_id] at body
  have body : lcR false (gNm 18) lYes e_law_4 [v0, v1, v2, v3, v4, some (.ref 7), some (.lst H), v7, v8, v9, v10, v11, v12, v13, v14, v15, v16, v17, none] (.ok (itOf E) S) = .ok (.lst E) S := body
  have ad : addL (.lst H) (.lst E) S = .ok (.lst (H ++ E)) S := add_ll (t := false) ls_l ls_l (by omega)
  generalize hL : (H.length : Int) = L at *
  generalize H ++ E = HE at *
  simp [c_law_4, wipeL, ln, sl, body, ad]
/-- behind the quote -/
theorem tail12 (h : St S H Q tvs m) (hm : m ≤ 30) (b : Bool) (one other : Str) {day : Int} (d0 : 0 ≤ day) (d1 : day ≤ 146096) (t : Int) (v0 v1 v2 v8 v10 v13 v14 v16 x17 x18 : Option LV) :
    ∃ S' E, rb_law_2_12 [v0, v1, v2, some RS, some (.ref 6), some (.ref 7), some (.lst H), some (.int day), v8, some (.int (sI b)), v10, some (.str one), some (.str other), v13, v14, some (.int t), v16, x17, x18] S =
      .nx [v0, v1, v2, some RS, some (.ref 6), some (.ref 7), some (.lst (H ++ E)), some (.int day), v8, some (.int (sI b)), v10, some (.str one), some (.str other), v13, v14, some (.int t), v16, some (.int 1), x18] S' ∧ St S' (H ++ E) Q tvs (m + 1) := by
  have i1 := ixRS b
  have nr : isX RS = false := rfl
  have rg : ∀ S, rng1O [.int 2] S = .ok (itOf (rng 0 2)) S := fun S => rng1_e (by decide) (by decide)
  have dv : ∀ S, divL (.int t) (.int 2) S = .ok (.int (t / 2)) S := fun S => div_ii (by decide) (by decide)
  have md : ∀ S, modL (.int (t / 2)) (.int 3) S = .ok (.int (t / 2 % 3)) S := fun S => mod_ii (by decide)
  have i6 := ix6 h.all b
  by_cases c0 : t / 2 % 3 = 0
  · obtain ⟨E, S1, e, h1⟩ := h.listed (by omega) b t
    have k1 := both_e h1 (by omega) one other d0 d1 v0 v1 v2 (some (.ref 7)) (some (.lst H)) v8 (some (.int (sI b))) v10 v13 v14 (some (.int t)) v16 x17 x18
    have k2 := kept_e h1 (by omega) v0 v1 v2 (some RS) (some (.ref 6)) (some (.int day)) v8 (some (.int (sI b))) v10 (some (.str one)) (some (.str other)) v13 v14 (some (.int t)) v16 (some (.int 1)) x18
    refine ⟨S1, E, ?_, h1⟩
    generalize RS = R at *
    simp [-rb_law_2_15, dv, md, c0, i1, nr, i6, e, rg, k1, k2]
  · by_cases c1 : t / 2 % 3 = 1
    · have k1 := both_e h (by omega) one other d0 d1 v0 v1 v2 (some (.ref 7)) (some (.lst H)) v8 (some (.int (sI b))) v10 v13 v14 (some (.int t)) v16 x17 x18
      obtain ⟨E, S1, e, h1⟩ := h.listed (by omega) b t
      have k2 := kept_e h1 (by omega) v0 v1 v2 (some RS) (some (.ref 6)) (some (.int day)) v8 (some (.int (sI b))) v10 (some (.str one)) (some (.str other)) v13 v14 (some (.int t)) v16 (some (.int 1)) x18
      refine ⟨S1, E, ?_, h1⟩
      generalize RS = R at *
      simp [-rb_law_2_15, dv, md, c1, i1, nr, i6, e, rg, k1, k2]
    · have k1 := both_e h (by omega) one other d0 d1 v0 v1 v2 (some (.ref 7)) (some (.lst H)) v8 (some (.int (sI b))) v10 v13 v14 (some (.int t)) v16 x17 x18
      have h1 : St S (H ++ []) Q tvs (m + 1) := by rw [List.append_nil]; exact h.next
      have k2 := kept_e h1 (by omega) v0 v1 v2 (some RS) (some (.ref 6)) (some (.int day)) v8 (some (.int (sI b))) v10 (some (.str one)) (some (.str other)) v13 v14 (some (.int t)) v16 (some (.int 1)) x18
      refine ⟨S, [], ?_, h1⟩
      generalize RS = R at *
      simp only [List.append_nil] at k2 ⊢
      simp [-rb_law_2_15, dv, md, c0, c1, i1, nr, i6, rg, k1, k2]
/-- the quote -/
theorem tail10 (h : St S H Q tvs m) (hm : m ≤ 29) (b : Bool) (one other : Str) {day : Int} (d0 : 0 ≤ day) (d1 : day ≤ 146096) (t : Int) {d a p c q : LV} (hd : Kd d) (ha : Kd a) (hp : Kd p) (hc : Kd c) (hq : Kd q) (v0 v1 v2 v8 v10 x17 x18 : Option LV) :
    ∃ S' H' Q' tvs' y17 y18, rb_law_2_10 [v0, v1, v2, some RS, some (.ref 6), some (.ref 7), some (.lst H), some (.int day), v8, some (.int (sI b)), v10, some (.str one), some (.str other), some (.tup [d, a, p, c, q]), some (.str (wordN (dueN d a p c q))), some (.int t), some (.bl true), x17, x18] S =
      .nx [v0, v1, v2, some RS, some (.ref 6), some (.ref 7), some (.lst H'), some (.int day), v8, some (.int (sI b)), v10, some (.str one), some (.str other), some (.tup [d, a, p, c, q]), some (.str (wordN (dueN d a p c q))), some (.int t), some (.bl true), y17, y18] S' ∧ St S' H' Q' tvs' (m + 2) := by
  have i1 := ixRS b
  have nr : isX RS = false := rfl
  have i6 := ix6 h.all b
  have nt : isX (.tup [d, a, p, c, q]) = false := rfl
  by_cases z : dueN d a p c q = 0
  · obtain ⟨x, ok, rfl, rfl, rfl, rfl, rfl⟩ := due_ok z
    obtain ⟨S1, tvs1, e, k6, kl, h1⟩ := h.quote (by omega) b ok
    have e : f__law_told [.ref (rN b), .tup [.int x.day, .str x.a, .int x.p, .str x.b, .int x.q]] S = .ok (.str ("" : Str)) S1 := e
    have h1 : St (S1.set (lN b) (.lst ((Q b).map Qt.lv ++ [.tup [.int x.day, .str x.a, .int x.p, .str x.b, .int x.q]]))) H (upd Q b (Q b ++ [x])) (upd tvs b tvs1) (m + 1) := h1
    obtain ⟨S2, E, t12, h2⟩ := tail12 h1 (by omega) b one other d0 d1 t v0 v1 v2 v8 v10 (some (.tup [.int x.day, .str x.a, .int x.p, .str x.b, .int x.q])) (some (.str (wordN 0))) (some (.bl true)) x17 x18
    refine ⟨S2, H ++ E, _, _, some (.int 1), x18, ?_, h2⟩
    have i61 := ix6 k6 b
    have ap := append_ok (v := .tup [.int x.day, .str x.a, .int x.p, .str x.b, .int x.q]) kl (by rw [List.length_map]; have := h.len b; omega)
    have bm1' : ∀ ds (fr : LA), bm1 "list" appendL fr ds (.ok (.ref (lN b)) S1) = bm2 appendL (.ref (lN b)) (fr ds S1) := fun ds fr => bm1_r kl
    rw [z]
    generalize S1.set (lN b) (.lst ((Q b).map Qt.lv ++ [.tup [.int x.day, .str x.a, .int x.p, .str x.b, .int x.q]])) = S3 at *
    have w0 : wordN 0 = ("" : Str) := rfl
    rw [w0] at t12 ⊢
    generalize LV.tup [.int x.day, .str x.a, .int x.p, .str x.b, .int x.q] = X at *
    generalize RS = R at *
    simp [-rb_law_2_12, i1, nr, i6, nt, e, i61, bm1', ap, t12]
  · have e := told_no hd ha hp hc hq (h.rts b).ins z
    obtain ⟨S2, E, t12, h2⟩ := tail12 h.next (by omega) b one other d0 d1 t v0 v1 v2 v8 v10 (some (.tup [d, a, p, c, q])) (some (.str (wordN (dueN d a p c q)))) (some (.bl true)) x17 x18
    refine ⟨S2, H ++ E, _, _, some (.int 1), x18, ?_, h2⟩
    have nw : ∀ S, eqL (.str (wordN (dueN d a p c q))) (.str ("" : Str)) S = .ok (.bl false) S := fun S => by
      rcases dueN_lt d a p c q with w | w | w | w
      · exact absurd w z
      · rw [w]; rfl
      · rw [w]; rfl
      · rw [w]; rfl
    generalize wordN (dueN d a p c q) = W at *
    generalize LV.tup [d, a, p, c, q] = X at *
    generalize RS = R at *
    simp [-rb_law_2_12, i1, nr, i6, nt, e, nw, t12, -eq_ss]
end
end K09


set_option Elab.async false
set_option linter.all false
set_option maxRecDepth 100000
set_option maxHeartbeats 4000000
namespace K09
open PySem PySem.Spec PyProof.Rows L2 LL
section
variable {S : Sto} {H : List LV} {Q : Bool → List Qt} {tvs : Bool → List (List Key × LV)} {m : Nat}
theorem side_b (x : Int) : ∃ b, x % 2 = sI b := by
  have : x % 2 = 0 ∨ x % 2 = 1 := by omega
  rcases this with h | h
  · exact ⟨false, h⟩
  · exact ⟨true, h⟩
theorem fine_cur {z : Str} (h : isCur (tl z) = true) : Fine 100 z := by
  refine ⟨by have := cur_len h; omega, fun c hc => ?_⟩
  unfold isCur at h
  simp only [Bool.and_eq_true] at h
  have := of_decide_eq_true (List.all_eq_true.mp h.1.2 c hc)
  have g : ∀ c ∈ tl greatT, c < 128 := by decide
  exact g c this
theorem turn_e (h : St S H Q tvs m) (hm : m ≤ 29) {ns : List Int} {cs : List Str} (hl : cs.length = 6) (hc : ∀ c ∈ cs, isCur (tl c) = true) {base : Int} (b0 : 0 ≤ base) {k : Int} (k0 : 0 ≤ k) (k1 : k + 3 < ns.length) (day : Int) (x8 x9 x10 x11 x12 x13 x14 x15 x16 x17 x18 : Option LV) :
    ∃ S' H' Q' tvs' day' y8 y9 y10 y11 y12 y13 y14 y15 y16 y17 y18, 0 ≤ day' ∧ day' ≤ 146096 ∧ turn (gNm 8) b_law_2 (.int k) [some (.scr ns), some (.lst (cs.map .str)), some (.int base), some RS, some (.ref 6), some (.ref 7), some (.lst H), some (.int day), x8, x9, x10, x11, x12, x13, x14, x15, x16, x17, x18] S =
      .nx [some (.scr ns), some (.lst (cs.map .str)), some (.int base), some RS, some (.ref 6), some (.ref 7), some (.lst H'), some (.int day'), y8, y9, y10, y11, y12, y13, y14, y15, y16, y17, y18] S' ∧ St S' H' Q' tvs' (m + 2) := by
  have c0 : ∀ S, ixL (.scr ns) (.int k) S = .ok (.int (cell ns k)) S := fun S => ix_c k0 (by omega)
  have c1 : ∀ S, ixL (.scr ns) (.int (k + 1)) S = .ok (.int (cell ns (k + 1))) S := fun S => ix_c (by omega) (by omega)
  have c2 : ∀ S, ixL (.scr ns) (.int (k + 2)) S = .ok (.int (cell ns (k + 2))) S := fun S => ix_c (by omega) (by omega)
  have c3 : ∀ S, ixL (.scr ns) (.int (k + 3)) S = .ok (.int (cell ns (k + 3))) S := fun S => ix_c (by omega) (by omega)
  generalize cell ns k = z0 at *
  generalize cell ns (k + 1) = z1 at *
  generalize cell ns (k + 2) = z2 at *
  generalize cell ns (k + 3) = z3 at *
  obtain ⟨b, hb⟩ := side_b z0
  obtain ⟨day', hd, d0, d1⟩ : ∃ day' : Int, (∀ S, minU [.int 146096, .int (base + z1 % 12)] S = .ok (.int day') S) ∧ 0 ≤ day' ∧ day' ≤ 146096 := ⟨_, fun S => minU_ii, by split <;> omega, by split <;> omega⟩
  have po9 : ∀ S, powL (.int 10) (.int 9) S = .ok (.int 1000000000) S := fun S => rfl
  obtain ⟨mo, m0, mx⟩ : ∃ mo : Int, 0 < mo ∧ ∀ S, ixL (.lst [.int 20, .int 1000000000]) (.int (z1 / 12 % 2)) S = .ok (.int mo) S := by
    obtain ⟨u, um, ux⟩ := pickN (xs := [.int 20, .int 1000000000]) (n := 2) (by decide) rfl (z1 / 12)
    simp only [List.mem_cons, List.not_mem_nil, or_false] at um
    rcases um with rfl | rfl
    · exact ⟨20, by decide, ux⟩
    · exact ⟨1000000000, by decide, ux⟩
  have pick : ∀ x : Int, ∃ z ∈ cs, ∀ S, ixL (.lst (cs.map .str)) (.int (x % 5)) S = .ok (.str z) S := fun x => by
    have p0 := Int.emod_nonneg x (show (5 : Int) ≠ 0 by decide)
    have p1 := Int.emod_lt_of_pos x (show (0 : Int) < 5 by decide)
    have hx : (x % 5).toNat < cs.length := by omega
    exact ⟨cs[(x % 5).toNat], List.getElem_mem hx, fun S => ix_v ls_l p0 (by rw [List.getElem?_map, List.getElem?_eq_getElem hx]; rfl)⟩
  obtain ⟨one, om, ox⟩ := pick (z0 / 2)
  obtain ⟨other, tm, tx⟩ := pick (z0 / 10)
  have fo := fine_cur (hc _ om)
  have ft := fine_cur (hc _ tm)
  have md : ∀ (x : Int) S, modL (.int x) (.int mo) S = .ok (.int (x % mo)) S := fun x S => mod_ii (by omega)
  obtain ⟨p, hp⟩ : ∃ p : Int, p = 1 + z2 % mo := ⟨_, rfl⟩
  obtain ⟨q, hq⟩ : ∃ q : Int, q = 1 + z3 % mo := ⟨_, rfl⟩
  obtain ⟨t, ht⟩ : ∃ t : Int, t = z2 / 3 + z3 / 5 := ⟨_, rfl⟩
  -- the row
  obtain ⟨d, a, pp, c, qq, kd, ka, kp, kc, kq, row⟩ : ∃ d a pp c qq, Kd d ∧ Kd a ∧ Kd pp ∧ Kd c ∧ Kd qq ∧
      rb_law_2_6 [some (.scr ns), some (.lst (cs.map .str)), some (.int base), some RS, some (.ref 6), some (.ref 7), some (.lst H), some (.int day'), some (.int k), some (.int (sI b)), some (.int mo), some (.str one), some (.str other), some (.tup [.int day', .str one, .int p, .str other, .int q]), x14, x15, x16, x17, x18] S =
      rb_law_2_7 [some (.scr ns), some (.lst (cs.map .str)), some (.int base), some RS, some (.ref 6), some (.ref 7), some (.lst H), some (.int day'), some (.int k), some (.int (sI b)), some (.int mo), some (.str one), some (.str other), some (.tup [d, a, pp, c, qq]), x14, x15, x16, x17, x18] S := by
    by_cases cc : z0 / 50 % 9 = 1
    · obtain ⟨d, a, pp, c, qq, kd, ka, kp, kc, kq, e⟩ := spoilt_e (d := day') (p := p) (q := q) fo ft z2 z3 S
      refine ⟨d, a, pp, c, qq, kd, ka, kp, kc, kq, ?_⟩
      have nt : isX (.tup [.int day', .str one, .int p, .str other, .int q]) = false := rfl
      generalize LV.tup [.int day', .str one, .int p, .str other, .int q] = X at *
      generalize LV.tup [d, a, pp, c, qq] = X2 at *
      generalize RS = R at *
      generalize cs.map LV.str = CV at *
      simp [-rb_law_2_7, c0, c2, c3, div_ii, mod_ii, cc, nt, e]
    · refine ⟨.int day', .str one, .int p, .str other, .int q, trivial, fo, trivial, ft, trivial, ?_⟩
      generalize LV.tup [.int day', .str one, .int p, .str other, .int q] = X at *
      generalize RS = R at *
      generalize cs.map LV.str = CV at *
      simp [-rb_law_2_7, c0, c2, c3, div_ii, mod_ii, cc]
  have due := law_due_e kd ka kp kc kq S
  have nX : isX (.tup [d, a, pp, c, qq]) = false := rfl
  have i1 := ixRS b
  have nr : isX RS = false := rfl
  have i6 := ix6 h.all b
  have good := pair_good_e (h.two (by omega) b) one other d0 d1
  obtain ⟨S', H', Q', tvs', y17, y18, e10, h'⟩ := tail10 h hm b one other d0 d1 t kd ka kp kc kq (some (.scr ns)) (some (.lst (cs.map .str))) (some (.int base)) (some (.int k)) (some (.int mo)) x17 x18
  refine ⟨S', H', Q', tvs', day', some (.int k), some (.int (sI b)), some (.int mo), some (.str one), some (.str other), some (.tup [d, a, pp, c, qq]), some (.str (wordN (dueN d a pp c qq))), some (.int t), some (.bl true), y17, y18, d0, d1, ?_, h'⟩
  · have e9 : rb_law_2_9 [some (.scr ns), some (.lst (cs.map .str)), some (.int base), some RS, some (.ref 6), some (.ref 7), some (.lst H), some (.int day'), some (.int k), some (.int (sI b)), some (.int mo), some (.str one), some (.str other), some (.tup [d, a, pp, c, qq]), some (.str (wordN (dueN d a pp c qq))), some (.int t), x16, x17, x18] S =
        rb_law_2_10 [some (.scr ns), some (.lst (cs.map .str)), some (.int base), some RS, some (.ref 6), some (.ref 7), some (.lst H), some (.int day'), some (.int k), some (.int (sI b)), some (.int mo), some (.str one), some (.str other), some (.tup [d, a, pp, c, qq]), some (.str (wordN (dueN d a pp c qq))), some (.int t), some (.bl true), x17, x18] S := by
      generalize LV.tup [d, a, pp, c, qq] = X2 at *
      generalize wordN (dueN d a pp c qq) = W at *
      generalize RS = R at *
      generalize cs.map LV.str = CV at *
      by_cases ct : 0 < t % 3
      · simp [-rb_law_2_10, mod_ii, ct]
      · simp [-rb_law_2_10, mod_ii, ct, i1, nr, i6, good]
    have e7 : rb_law_2_7 [some (.scr ns), some (.lst (cs.map .str)), some (.int base), some RS, some (.ref 6), some (.ref 7), some (.lst H), some (.int day'), some (.int k), some (.int (sI b)), some (.int mo), some (.str one), some (.str other), some (.tup [d, a, pp, c, qq]), x14, x15, x16, x17, x18] S =
        rb_law_2_9 [some (.scr ns), some (.lst (cs.map .str)), some (.int base), some RS, some (.ref 6), some (.ref 7), some (.lst H), some (.int day'), some (.int k), some (.int (sI b)), some (.int mo), some (.str one), some (.str other), some (.tup [d, a, pp, c, qq]), some (.str (wordN (dueN d a pp c qq))), some (.int t), x16, x17, x18] S := by
      generalize LV.tup [d, a, pp, c, qq] = X2 at *
      generalize wordN (dueN d a pp c qq) = W at *
      generalize RS = R at *
      generalize cs.map LV.str = CV at *
      simp [-rb_law_2_9, due, nX, c2, c3, div_ii, ← ht]
    rw [← e9, ← e7, ← row] at e10
    generalize LV.tup [d, a, pp, c, qq] = X2 at *
    generalize wordN (dueN d a pp c qq) = W at *
    generalize RS = R at *
    generalize cs.map LV.str = CV at *
    simp [-rb_law_2_6, -minU_ii, turn, gNm, b_law_2, c0, c1, c2, c3, div_ii, mod_ii, hb, hd, po9, mx, ox, tx, md, ← hp, ← hq, e10]
theorem rng4 (n : Nat) (hn : n ≤ 63) (S : Sto) : ∃ k : Nat, k ≤ 15 ∧ (∀ i : Nat, i < k → 2 + i * 4 + 3 < n) ∧ rng3O [.int 2, .int ((n : Int) - 3), .int 4] S = .ok (itOf (rngC 2 4 k)) S := by
  have : ∀ N : Fin 64, okRgC 2 ((N.1 : Int) - 3) 4 = true ∧ (Builtin.Range.rangeSize 2 ((N.1 : Int) - 3) 4).toNat ≤ 15 ∧ ∀ i : Fin 16, i.1 < (Builtin.Range.rangeSize 2 ((N.1 : Int) - 3) 4).toNat → 2 + i.1 * 4 + 3 < N.1 := by decide
  obtain ⟨h1, h2, h3⟩ := this ⟨n, by omega⟩
  refine ⟨_, h2, fun i hi => ?_, ?_⟩
  · have h2 : (Builtin.Range.rangeSize 2 ((n : Int) - 3) 4).toNat ≤ 15 := h2
    exact h3 ⟨i, by omega⟩ hi
  · have h1 : okRgC 2 ((n : Int) - 3) 4 = true := h1
    simp only [rng3O, h1, if_true]
end
end K09


set_option Elab.async false
set_option linter.all false
set_option maxRecDepth 100000
set_option maxHeartbeats 4000000
namespace K09
open PySem PySem.Spec PyProof.Rows L2 LL
section
variable {S : Sto} {H : List LV} {Q : Bool → List Qt} {tvs : Bool → List (List Key × LV)} {m : Nat}
theorem end_turn (h : St S H Q tvs m) (hm : m ≤ 31) {cs : List Str} (hc : cs.length ≤ 100) (day : Int) (b : Bool) (U : Sto) (x4 : Option LV) :
    ∃ X, turn (gNm 4) b__law_end_good_1 (.int (sI b)) [some RS, some (.ref 6), some (.lst (cs.map .str)), some (.int day), x4] (S ++ U) =
      .nx [some RS, some (.ref 6), some (.lst (cs.map .str)), some (.int day), some (.int (sI b))] (S ++ (U ++ [X])) := by
  have two := (h.two hm b).more (U := U)
  have g1 := all_good_e two cs (by omega) day
  have two2 := two.more (U := [.lst []])
  have hh : ((S ++ U) ++ [LO.lst []])[(S ++ U).length]? = some (.lst []) := by rw [get_app0]; rfl
  obtain ⟨w1, w2, g2⟩ := listed_e two2.rts two2.len two2.ok two2.told hh (by simp) rfl (day + sI b)
  have st : ∀ o : LO, ((S ++ U) ++ [LO.lst []]).set (S ++ U).length o = S ++ (U ++ [o]) := fun o => by rw [set_app0, List.append_assoc]; rfl
  rw [st] at g2
  refine ⟨LO.lst ([] ++ [.lst (listW w1 (Q b)), .lst (listW w2 (Q b))]), ?_⟩
  have i1 := ixRS b
  have nr : isX RS = false := rfl
  have i6 : ixL (.ref 6) (.int (sI b)) (S ++ U) = .ok (.ref (lN b)) (S ++ U) := ix6 (get_more h.all) b
  have i62 : ixL (.ref 6) (.int (sI b)) ((S ++ U) ++ [LO.lst []]) = .ok (.ref (lN b)) ((S ++ U) ++ [LO.lst []]) := ix6 (get_more (get_more h.all)) b
  generalize hX : LO.lst ([] ++ [.lst (listW w1 (Q b)), .lst (listW w2 (Q b))]) = X at *
  generalize hS3 : S ++ (U ++ [X]) = S3 at *
  generalize RS = R at *
  generalize cs.map LV.str = CV at *
  generalize hT : S ++ U = T at *
  simp [turn, gNm, b__law_end_good_1, i1, nr, i6, g1, g2]
theorem end_good_e (h : St S H Q tvs m) (hm : m ≤ 31) {cs : List Str} (hc : cs.length ≤ 100) (day : Int) : f__law_end_good [RS, .ref 6, .lst (cs.map .str), .int day] S = .ok (.bl true) S := by
  obtain ⟨X, t1⟩ := end_turn h hm hc day false [] none
  obtain ⟨Y, t2⟩ := end_turn h hm hc day true ([] ++ [X]) (some (.int (sI false)))
  have e : rng 0 2 = [.int (sI false), .int (sI true)] := rfl
  have rg : ∀ S, rng1O [.int 2] S = .ok (itOf (rng 0 2)) S := fun S => rng1_e (by decide) (by decide)
  rw [List.append_nil] at t1
  have loop : forS (gNm 4) b__law_end_good_1 [some RS, some (.ref 6), some (.lst (cs.map .str)), some (.int day), none] (.ok (itOf (rng 0 2)) S) = .nx [some RS, some (.ref 6), some (.lst (cs.map .str)), some (.int day), some (.int (sI true))] (S ++ ([] ++ [X] ++ [Y])) := by
    rw [forS_of, e, forL_cons t1, forL_cons t2]
    rfl
  have nr : isX RS = false := rfl
  have gc : gcF S (.ok (.bl true) (S ++ ([] ++ [X] ++ [Y]))) = .ok (.bl true) S := gc_low rfl
  generalize RS = R at *
  generalize cs.map LV.str = CV at *
  generalize S ++ ([] ++ [X] ++ [Y]) = S3 at *
  simp [f__law_end_good, e_fn, g__law_end_good, rg, loop, gc]
theorem St.eq (h : St S H Q tvs m) : eqL (.ref 7) (.lst H) S = .ok (.bl true) S := by
  rw [eq_refL h.held]
  refine eq_same ?_
  rw [fz_lst, List.all_eq_true]
  intro v hv
  obtain ⟨V, rfl, hV⟩ := h.hk v hv
  rw [fz_lst]
  exact fzs_mono (by decide) hV
end
def S0 : Sto := [.ins 100 [.ref 1], .dcT [], .ins 100 [.ref 3], .dcT [], .lst [], .lst [], .lst [.ref 4, .ref 5], .lst []]
theorem st0 : St S0 [] (fun _ => []) (fun _ => []) 0 where
  rts := fun b => by
    cases b with
    | false => exact (rates_new []).more (U := [.ins 100 [.ref 3], .dcT [], .lst [], .lst [], .lst [.ref 4, .ref 5], .lst []])
    | true => exact (rates_new [.ins 100 [.ref 1], .dcT []]).more (U := [.lst [], .lst [], .lst [.ref 4, .ref 5], .lst []])
  told := fun b => by cases b <;> rfl
  all := rfl
  held := rfl
  hk := fun v hv => by cases hv
  hl := Nat.le_refl _
  ok := fun b x hx => by cases hx
  len := fun b => Nat.le_refl _
  far := fun b ks n g => by cases g
  dis := fun ks ks' n g => by cases g
theorem law_true (ns : List Int) (h : ns.length ≤ 63) : ∃ S, f_law [.scr ns] [] = .ok (.bl true) S := by
  have ce : ∀ k : Int, 0 ≤ k → ∀ S, f__law_cell_at [.scr ns, .int k] S = .ok (.int (cell ns k)) S := fun k hk S => cell_at_e ns k hk S
  have ce0 := ce 0 (by decide)
  have ce1 := ce 1 (by decide)
  obtain ⟨c0, hc0⟩ : ∃ c0, c0 = cell ns 0 := ⟨_, rfl⟩
  obtain ⟨base, hb, b0, b1⟩ : ∃ base : Int, base = cell ns 1 % 146097 ∧ 0 ≤ base ∧ base < 146097 := ⟨_, rfl, by omega, by omega⟩
  have rg6 : ∀ S, rng1O [.int 6] S = .ok (itOf (rng 0 6)) S := fun S => rng1_e (by decide) (by decide)
  obtain ⟨cs, hcs, l6, hcur⟩ : ∃ cs : List Str, cs = (List.range 6).map (fun k : Nat => curB c0 (0 + (k : Int))) ∧ cs.length = 6 ∧ ∀ c ∈ cs, isCur (tl c) = true := ⟨_, rfl, by simp, fun c hc => by
    obtain ⟨k, _, rfl⟩ := List.mem_map.mp hc
    exact curB_cur _ _⟩
  have body := lcR_all (t := false) (lg := gNm 8) (fe := e_law_1) (ds := [some (.scr ns), none, none, none, none, none, none, none, none, none, none, none, none, none, none, none, none, none, none]) (S := []) (l := itOf (rng 0 6)) (ws := List.range 6) (g := fun k : Nat => .int (0 + (k : Int))) (fun k : Nat => .str (curB c0 (0 + (k : Int)))) .of (by simp) (fun k hk acc => ⟨_, rfl, by
    have e := currency_by_e c0 (0 + (k : Int))
    generalize (0 : Int) + (k : Int) = kk at *
    simp [e_law_1, gNm, ce0, ← hc0, e]⟩) (fun _ _ => rfl)
  have body : lcR false (gNm 8) lYes e_law_1 [some (.scr ns), none, none, none, none, none, none, none, none, none, none, none, none, none, none, none, none, none, none] (.ok (itOf (rng 0 6)) []) = .ok (.lst (cs.map .str)) [] := by
    rw [hcs, List.map_map]
    exact body
  have mk1 : mkO 100 f_Rates___init__ [] [] = .ok (.ref 0) [.ins 100 [.ref 1], .dcT []] := rates_make []
  have mk2 : mkO 100 f_Rates___init__ [] [.ins 100 [.ref 1], .dcT []] = .ok (.ref 2) [.ins 100 [.ref 1], .dcT [], .ins 100 [.ref 3], .dcT []] := rates_make [.ins 100 [.ref 1], .dcT []]
  obtain ⟨n, n15, nk, hr⟩ := rng4 ns.length h S0
  obtain ⟨⟨S1, H1, day1⟩, ⟨Q1, tvs1, I1⟩, j', loop⟩ := for_rel (α := Sto × List LV × Int) (β := Nat) (J := Option LV × Option LV × Option LV × Option LV × Option LV × Option LV × Option LV × Option LV × Option LV × Option LV × Option LV) (lg := gNm 8) (fb := b_law_2) (l := itOf (rngC 2 4 n)) (ws := List.range n) (g := fun i : Nat => .int (2 + (i : Int) * 4))
    (fun a j => [some (.scr ns), some (.lst (cs.map .str)), some (.int base), some RS, some (.ref 6), some (.ref 7), some (.lst a.2.1), some (.int a.2.2), j.1, j.2.1, j.2.2.1, j.2.2.2.1, j.2.2.2.2.1, j.2.2.2.2.2.1, j.2.2.2.2.2.2.1, j.2.2.2.2.2.2.2.1, j.2.2.2.2.2.2.2.2.1, j.2.2.2.2.2.2.2.2.2.1, j.2.2.2.2.2.2.2.2.2.2]) (fun a => a.1) (fun i a => ∃ Q tvs, St a.1 a.2.1 Q tvs (2 * i)) (fun _ _ _ => .of) (fun i b hb a j ⟨Q, tvs, I⟩ => by
      have hi := (List.getElem?_eq_some_iff.mp hb).1
      rw [List.length_range] at hi
      have bi : b = i := by
        rw [List.getElem?_range (by omega)] at hb
        exact (Option.some.inj hb).symm
      subst bi
      have := nk b hi
      obtain ⟨S', H', Q', tvs', day', y8, y9, y10, y11, y12, y13, y14, y15, y16, y17, y18, _, _, t, I'⟩ := turn_e I (by omega) (ns := ns) l6 hcur b0 (k := 2 + (b : Int) * 4) (by omega) (by omega) a.2.2 j.1 j.2.1 j.2.2.1 j.2.2.2.1 j.2.2.2.2.1 j.2.2.2.2.2.1 j.2.2.2.2.2.2.1 j.2.2.2.2.2.2.2.1 j.2.2.2.2.2.2.2.2.1 j.2.2.2.2.2.2.2.2.2.1 j.2.2.2.2.2.2.2.2.2.2
      exact ⟨(S', H', day'), ⟨Q', tvs', I'⟩, (y8, y9, y10, y11, y12, y13, y14, y15, y16, y17, y18), t⟩) (S0, [], base) (none, none, none, none, none, none, none, none, none, none, none) ⟨_, _, st0⟩
  rw [List.length_range] at I1
  have I1 : St S1 H1 Q1 tvs1 (2 * n) := I1
  have loop : forS (gNm 8) b_law_2 [some (.scr ns), some (.lst (cs.map .str)), some (.int base), some RS, some (.ref 6), some (.ref 7), some (.lst []), some (.int base), none, none, none, none, none, none, none, none, none, none, none] (.ok (itOf (rngC 2 4 n)) S0) = .nx [some (.scr ns), some (.lst (cs.map .str)), some (.int base), some RS, some (.ref 6), some (.ref 7), some (.lst H1), some (.int day1), j'.1, j'.2.1, j'.2.2.1, j'.2.2.2.1, j'.2.2.2.2.1, j'.2.2.2.2.2.1, j'.2.2.2.2.2.2.1, j'.2.2.2.2.2.2.2.1, j'.2.2.2.2.2.2.2.2.1, j'.2.2.2.2.2.2.2.2.2.1, j'.2.2.2.2.2.2.2.2.2.2] S1 := loop
  have eg := end_good_e I1 (by omega) (cs := cs) (by omega) day1
  have eq := I1.eq
  have nr : isX RS = false := rfl
  have sb : ∀ S, subL (.int (ns.length : Int)) (.int 3) S = .ok (.int ((ns.length : Int) - 3)) S := fun S => sub_ii
  have hS0 : S0 = [.ins 100 [.ref 1], .dcT [], .ins 100 [.ref 3], .dcT [], .lst [], .lst [], .lst [.ref 4, .ref 5], .lst []] := rfl
  have hRS : RS = .lst [.ref 0, .ref 2] := rfl
  generalize (ns.length : Int) - 3 = L3 at *
  generalize cs.map LV.str = CV at *
  obtain ⟨⟩ := j'
  simp only [hS0] at hr loop
  rw [hRS] at loop eg
  simp [-sub_ii, f_law, e_fn, g_law, c_law_1, wipeL, ce0, ce1, mod_ii, rg6, body, ← hb, mk1, mk2, sb, hr, loop, eg, eq]
  exact gc_bl
end K09


set_option Elab.async false
set_option linter.all false
set_option maxRecDepth 100000
set_option maxHeartbeats 4000000

namespace K09
open PySem PySem.Spec PyProof.Rows L2 LL
theorem all_mk {l : PySem.W.OpenLaw} {w : World} {K : PySem.W.Frag} {h : Heap} {mg : Str → Option Value} {fa : Addr} (X : K.In h) (G : h.Ns mainGlobals mg) (hfa : mg "law" = some (.ref fa))
    {kC_Rates : Addr} (kg_Rates : PySem.W.nsIn K mainGlobals "Rates" = some (some (.ref kC_Rates))) (kp_Rates : PySem.W.plainGet K kC_Rates Str.empty = true) (kh_Rates : PySem.W.hasDictIn K kC_Rates = true) (ko_Rates : PySem.W.plainOver K kC_Rates = true) (ks_Rates : PySem.W.findIn K (.ref kC_Rates) "__setattr__" = some (some (.builtin "object.__setattr__")))
    (kn_Rates_quoted : PySem.W.findIn K (.ref kC_Rates) "quoted" = some none)
    (km_Rates : PySem.W.makesIn K kC_Rates = true) (kk_Rates : PySem.W.keepIn K (.ref kC_Rates) = true)
    {f0 : Addr} {od0 an0 : Option Addr} {sl0 : Array (Option Value)} {oc0 kV0 dc0 pm0 cd0 ct0 : Value}
    (a0 : PySem.W.nsIn K mainGlobals "is_whole" = some (some (.ref f0)))
    (l0 : K.lookup f0 = some ⟨oc0, od0, .func (PySem.W.fnOf "is_whole" "is_whole" (defArgs s_is_whole) (defBody s_is_whole) (defScope s_is_whole) .none kV0 dc0 pm0 an0 cd0 ct0), sl0⟩) (c0 : PySem.W.codeIn K cd0 "is_whole" = true) (k0 : PySem.W.keepIn K (.ref f0) = true)
    {f1 : Addr} {od1 an1 : Option Addr} {sl1 : Array (Option Value)} {oc1 kV1 dc1 pm1 cd1 ct1 : Value}
    (a1 : PySem.W.nsIn K mainGlobals "is_among" = some (some (.ref f1)))
    (l1 : K.lookup f1 = some ⟨oc1, od1, .func (PySem.W.fnOf "is_among" "is_among" (defArgs s_is_among) (defBody s_is_among) (defScope s_is_among) .none kV1 dc1 pm1 an1 cd1 ct1), sl1⟩) (c1 : PySem.W.codeIn K cd1 "is_among" = true) (k1 : PySem.W.keepIn K (.ref f1) = true)
    {f2 : Addr} {od2 an2 : Option Addr} {sl2 : Array (Option Value)} {oc2 kV2 dc2 pm2 cd2 ct2 : Value}
    (a2 : PySem.W.nsIn K mainGlobals "is_made_of" = some (some (.ref f2)))
    (l2 : K.lookup f2 = some ⟨oc2, od2, .func (PySem.W.fnOf "is_made_of" "is_made_of" (defArgs s_is_made_of) (defBody s_is_made_of) (defScope s_is_made_of) .none kV2 dc2 pm2 an2 cd2 ct2), sl2⟩) (c2 : PySem.W.codeIn K cd2 "is_made_of" = true) (k2 : PySem.W.keepIn K (.ref f2) = true)
    {f3 : Addr} {od3 an3 : Option Addr} {sl3 : Array (Option Value)} {oc3 kV3 dc3 pm3 cd3 ct3 : Value}
    (a3 : PySem.W.nsIn K mainGlobals "is_day" = some (some (.ref f3)))
    (l3 : K.lookup f3 = some ⟨oc3, od3, .func (PySem.W.fnOf "is_day" "is_day" (defArgs s_is_day) (defBody s_is_day) (defScope s_is_day) .none kV3 dc3 pm3 an3 cd3 ct3), sl3⟩) (c3 : PySem.W.codeIn K cd3 "is_day" = true) (k3 : PySem.W.keepIn K (.ref f3) = true)
    {f4 : Addr} {od4 an4 : Option Addr} {sl4 : Array (Option Value)} {oc4 kV4 dc4 pm4 cd4 ct4 : Value}
    (a4 : PySem.W.nsIn K mainGlobals "is_currency" = some (some (.ref f4)))
    (l4 : K.lookup f4 = some ⟨oc4, od4, .func (PySem.W.fnOf "is_currency" "is_currency" (defArgs s_is_currency) (defBody s_is_currency) (defScope s_is_currency) .none kV4 dc4 pm4 an4 cd4 ct4), sl4⟩) (c4 : PySem.W.codeIn K cd4 "is_currency" = true) (k4 : PySem.W.keepIn K (.ref f4) = true)
    {f5 : Addr} {od5 an5 : Option Addr} {sl5 : Array (Option Value)} {oc5 kV5 dc5 pm5 cd5 ct5 : Value}
    (a5 : PySem.W.findIn K (.ref kC_Rates) "__init__" = some (some (.ref f5))) (i5 : PySem.W.isFn K (.ref f5) = true)
    (l5 : K.lookup f5 = some ⟨oc5, od5, .func (PySem.W.fnOf "__init__" "Rates.__init__" (defArgs s_Rates___init__) (defBody s_Rates___init__) (defScope s_Rates___init__) .none kV5 dc5 pm5 an5 cd5 ct5), sl5⟩) (c5 : PySem.W.codeIn K cd5 "Rates.__init__" = true) (k5 : PySem.W.keepIn K (.ref f5) = true)
    {f6 : Addr} {od6 an6 : Option Addr} {sl6 : Array (Option Value)} {oc6 kV6 dc6 pm6 cd6 ct6 : Value}
    (a6 : PySem.W.findIn K (.ref kC_Rates) "quote" = some (some (.ref f6))) (i6 : PySem.W.isFn K (.ref f6) = true)
    (l6 : K.lookup f6 = some ⟨oc6, od6, .func (PySem.W.fnOf "quote" "Rates.quote" (defArgs s_Rates_quote) (defBody s_Rates_quote) (defScope s_Rates_quote) .none kV6 dc6 pm6 an6 cd6 ct6), sl6⟩) (c6 : PySem.W.codeIn K cd6 "Rates.quote" = true) (k6 : PySem.W.keepIn K (.ref f6) = true)
    {f7 : Addr} {od7 an7 : Option Addr} {sl7 : Array (Option Value)} {oc7 kV7 dc7 pm7 cd7 ct7 : Value}
    (a7 : PySem.W.findIn K (.ref kC_Rates) "newest" = some (some (.ref f7))) (i7 : PySem.W.isFn K (.ref f7) = true)
    (l7 : K.lookup f7 = some ⟨oc7, od7, .func (PySem.W.fnOf "newest" "Rates.newest" (defArgs s_Rates_newest) (defBody s_Rates_newest) (defScope s_Rates_newest) .none kV7 dc7 pm7 an7 cd7 ct7), sl7⟩) (c7 : PySem.W.codeIn K cd7 "Rates.newest" = true) (k7 : PySem.W.keepIn K (.ref f7) = true)
    {f8 : Addr} {od8 an8 : Option Addr} {sl8 : Array (Option Value)} {oc8 kV8 dc8 pm8 cd8 ct8 : Value}
    (a8 : PySem.W.findIn K (.ref kC_Rates) "currencies" = some (some (.ref f8))) (i8 : PySem.W.isFn K (.ref f8) = true)
    (l8 : K.lookup f8 = some ⟨oc8, od8, .func (PySem.W.fnOf "currencies" "Rates.currencies" (defArgs s_Rates_currencies) (defBody s_Rates_currencies) (defScope s_Rates_currencies) .none kV8 dc8 pm8 an8 cd8 ct8), sl8⟩) (c8 : PySem.W.codeIn K cd8 "Rates.currencies" = true) (k8 : PySem.W.keepIn K (.ref f8) = true)
    {f9 : Addr} {od9 an9 : Option Addr} {sl9 : Array (Option Value)} {oc9 kV9 dc9 pm9 cd9 ct9 : Value}
    (a9 : PySem.W.findIn K (.ref kC_Rates) "quotes" = some (some (.ref f9))) (i9 : PySem.W.isFn K (.ref f9) = true)
    (l9 : K.lookup f9 = some ⟨oc9, od9, .func (PySem.W.fnOf "quotes" "Rates.quotes" (defArgs s_Rates_quotes) (defBody s_Rates_quotes) (defScope s_Rates_quotes) .none kV9 dc9 pm9 an9 cd9 ct9), sl9⟩) (c9 : PySem.W.codeIn K cd9 "Rates.quotes" = true) (k9 : PySem.W.keepIn K (.ref f9) = true)
    {f10 : Addr} {od10 an10 : Option Addr} {sl10 : Array (Option Value)} {oc10 kV10 dc10 pm10 cd10 ct10 : Value}
    (a10 : PySem.W.nsIn K mainGlobals "_law_cell_at" = some (some (.ref f10)))
    (l10 : K.lookup f10 = some ⟨oc10, od10, .func (PySem.W.fnOf "_law_cell_at" "_law_cell_at" (defArgs s__law_cell_at) (defBody s__law_cell_at) (defScope s__law_cell_at) .none kV10 dc10 pm10 an10 cd10 ct10), sl10⟩) (c10 : PySem.W.codeIn K cd10 "_law_cell_at" = true) (k10 : PySem.W.keepIn K (.ref f10) = true)
    {f11 : Addr} {od11 an11 : Option Addr} {sl11 : Array (Option Value)} {oc11 kV11 dc11 pm11 cd11 ct11 : Value}
    (a11 : PySem.W.nsIn K mainGlobals "_law_currency_by" = some (some (.ref f11)))
    (l11 : K.lookup f11 = some ⟨oc11, od11, .func (PySem.W.fnOf "_law_currency_by" "_law_currency_by" (defArgs s__law_currency_by) (defBody s__law_currency_by) (defScope s__law_currency_by) .none kV11 dc11 pm11 an11 cd11 ct11), sl11⟩) (c11 : PySem.W.codeIn K cd11 "_law_currency_by" = true) (k11 : PySem.W.keepIn K (.ref f11) = true)
    {f12 : Addr} {od12 an12 : Option Addr} {sl12 : Array (Option Value)} {oc12 kV12 dc12 pm12 cd12 ct12 : Value}
    (a12 : PySem.W.nsIn K mainGlobals "_law_newest" = some (some (.ref f12)))
    (l12 : K.lookup f12 = some ⟨oc12, od12, .func (PySem.W.fnOf "_law_newest" "_law_newest" (defArgs s__law_newest) (defBody s__law_newest) (defScope s__law_newest) .none kV12 dc12 pm12 an12 cd12 ct12), sl12⟩) (c12 : PySem.W.codeIn K cd12 "_law_newest" = true) (k12 : PySem.W.keepIn K (.ref f12) = true)
    {f13 : Addr} {od13 an13 : Option Addr} {sl13 : Array (Option Value)} {oc13 kV13 dc13 pm13 cd13 ct13 : Value}
    (a13 : PySem.W.nsIn K mainGlobals "_law_is_whole" = some (some (.ref f13)))
    (l13 : K.lookup f13 = some ⟨oc13, od13, .func (PySem.W.fnOf "_law_is_whole" "_law_is_whole" (defArgs s__law_is_whole) (defBody s__law_is_whole) (defScope s__law_is_whole) .none kV13 dc13 pm13 an13 cd13 ct13), sl13⟩) (c13 : PySem.W.codeIn K cd13 "_law_is_whole" = true) (k13 : PySem.W.keepIn K (.ref f13) = true)
    {f14 : Addr} {od14 an14 : Option Addr} {sl14 : Array (Option Value)} {oc14 kV14 dc14 pm14 cd14 ct14 : Value}
    (a14 : PySem.W.nsIn K mainGlobals "_law_is_currency" = some (some (.ref f14)))
    (l14 : K.lookup f14 = some ⟨oc14, od14, .func (PySem.W.fnOf "_law_is_currency" "_law_is_currency" (defArgs s__law_is_currency) (defBody s__law_is_currency) (defScope s__law_is_currency) .none kV14 dc14 pm14 an14 cd14 ct14), sl14⟩) (c14 : PySem.W.codeIn K cd14 "_law_is_currency" = true) (k14 : PySem.W.keepIn K (.ref f14) = true)
    {f15 : Addr} {od15 an15 : Option Addr} {sl15 : Array (Option Value)} {oc15 kV15 dc15 pm15 cd15 ct15 : Value}
    (a15 : PySem.W.nsIn K mainGlobals "_law_due" = some (some (.ref f15)))
    (l15 : K.lookup f15 = some ⟨oc15, od15, .func (PySem.W.fnOf "_law_due" "_law_due" (defArgs s__law_due) (defBody s__law_due) (defScope s__law_due) .none kV15 dc15 pm15 an15 cd15 ct15), sl15⟩) (c15 : PySem.W.codeIn K cd15 "_law_due" = true) (k15 : PySem.W.keepIn K (.ref f15) = true)
    {f16 : Addr} {od16 an16 : Option Addr} {sl16 : Array (Option Value)} {oc16 kV16 dc16 pm16 cd16 ct16 : Value}
    (a16 : PySem.W.nsIn K mainGlobals "_law_spoilt" = some (some (.ref f16)))
    (l16 : K.lookup f16 = some ⟨oc16, od16, .func (PySem.W.fnOf "_law_spoilt" "_law_spoilt" (defArgs s__law_spoilt) (defBody s__law_spoilt) (defScope s__law_spoilt) .none kV16 dc16 pm16 an16 cd16 ct16), sl16⟩) (c16 : PySem.W.codeIn K cd16 "_law_spoilt" = true) (k16 : PySem.W.keepIn K (.ref f16) = true)
    {f17 : Addr} {od17 an17 : Option Addr} {sl17 : Array (Option Value)} {oc17 kV17 dc17 pm17 cd17 ct17 : Value}
    (a17 : PySem.W.nsIn K mainGlobals "_law_word" = some (some (.ref f17)))
    (l17 : K.lookup f17 = some ⟨oc17, od17, .func (PySem.W.fnOf "_law_word" "_law_word" (defArgs s__law_word) (defBody s__law_word) (defScope s__law_word) .none kV17 dc17 pm17 an17 cd17 ct17), sl17⟩) (c17 : PySem.W.codeIn K cd17 "_law_word" = true) (k17 : PySem.W.keepIn K (.ref f17) = true)
    {f18 : Addr} {od18 an18 : Option Addr} {sl18 : Array (Option Value)} {oc18 kV18 dc18 pm18 cd18 ct18 : Value}
    (a18 : PySem.W.nsIn K mainGlobals "_law_told" = some (some (.ref f18)))
    (l18 : K.lookup f18 = some ⟨oc18, od18, .func (PySem.W.fnOf "_law_told" "_law_told" (defArgs s__law_told) (defBody s__law_told) (defScope s__law_told) .none kV18 dc18 pm18 an18 cd18 ct18), sl18⟩) (c18 : PySem.W.codeIn K cd18 "_law_told" = true) (k18 : PySem.W.keepIn K (.ref f18) = true)
    {f19 : Addr} {od19 an19 : Option Addr} {sl19 : Array (Option Value)} {oc19 kV19 dc19 pm19 cd19 ct19 : Value}
    (a19 : PySem.W.nsIn K mainGlobals "_law_newest_good" = some (some (.ref f19)))
    (l19 : K.lookup f19 = some ⟨oc19, od19, .func (PySem.W.fnOf "_law_newest_good" "_law_newest_good" (defArgs s__law_newest_good) (defBody s__law_newest_good) (defScope s__law_newest_good) .none kV19 dc19 pm19 an19 cd19 ct19), sl19⟩) (c19 : PySem.W.codeIn K cd19 "_law_newest_good" = true) (k19 : PySem.W.keepIn K (.ref f19) = true)
    {f20 : Addr} {od20 an20 : Option Addr} {sl20 : Array (Option Value)} {oc20 kV20 dc20 pm20 cd20 ct20 : Value}
    (a20 : PySem.W.nsIn K mainGlobals "_law_pair_good" = some (some (.ref f20)))
    (l20 : K.lookup f20 = some ⟨oc20, od20, .func (PySem.W.fnOf "_law_pair_good" "_law_pair_good" (defArgs s__law_pair_good) (defBody s__law_pair_good) (defScope s__law_pair_good) .none kV20 dc20 pm20 an20 cd20 ct20), sl20⟩) (c20 : PySem.W.codeIn K cd20 "_law_pair_good" = true) (k20 : PySem.W.keepIn K (.ref f20) = true)
    {f21 : Addr} {od21 an21 : Option Addr} {sl21 : Array (Option Value)} {oc21 kV21 dc21 pm21 cd21 ct21 : Value}
    (a21 : PySem.W.nsIn K mainGlobals "_law_lists" = some (some (.ref f21)))
    (l21 : K.lookup f21 = some ⟨oc21, od21, .func (PySem.W.fnOf "_law_lists" "_law_lists" (defArgs s__law_lists) (defBody s__law_lists) (defScope s__law_lists) .none kV21 dc21 pm21 an21 cd21 ct21), sl21⟩) (c21 : PySem.W.codeIn K cd21 "_law_lists" = true) (k21 : PySem.W.keepIn K (.ref f21) = true)
    {f22 : Addr} {od22 an22 : Option Addr} {sl22 : Array (Option Value)} {oc22 kV22 dc22 pm22 cd22 ct22 : Value}
    (a22 : PySem.W.nsIn K mainGlobals "_law_list" = some (some (.ref f22)))
    (l22 : K.lookup f22 = some ⟨oc22, od22, .func (PySem.W.fnOf "_law_list" "_law_list" (defArgs s__law_list) (defBody s__law_list) (defScope s__law_list) .none kV22 dc22 pm22 an22 cd22 ct22), sl22⟩) (c22 : PySem.W.codeIn K cd22 "_law_list" = true) (k22 : PySem.W.keepIn K (.ref f22) = true)
    {f23 : Addr} {od23 an23 : Option Addr} {sl23 : Array (Option Value)} {oc23 kV23 dc23 pm23 cd23 ct23 : Value}
    (a23 : PySem.W.nsIn K mainGlobals "_law_listed" = some (some (.ref f23)))
    (l23 : K.lookup f23 = some ⟨oc23, od23, .func (PySem.W.fnOf "_law_listed" "_law_listed" (defArgs s__law_listed) (defBody s__law_listed) (defScope s__law_listed) .none kV23 dc23 pm23 an23 cd23 ct23), sl23⟩) (c23 : PySem.W.codeIn K cd23 "_law_listed" = true) (k23 : PySem.W.keepIn K (.ref f23) = true)
    {f24 : Addr} {od24 an24 : Option Addr} {sl24 : Array (Option Value)} {oc24 kV24 dc24 pm24 cd24 ct24 : Value}
    (a24 : PySem.W.nsIn K mainGlobals "_law_all_good" = some (some (.ref f24)))
    (l24 : K.lookup f24 = some ⟨oc24, od24, .func (PySem.W.fnOf "_law_all_good" "_law_all_good" (defArgs s__law_all_good) (defBody s__law_all_good) (defScope s__law_all_good) .none kV24 dc24 pm24 an24 cd24 ct24), sl24⟩) (c24 : PySem.W.codeIn K cd24 "_law_all_good" = true) (k24 : PySem.W.keepIn K (.ref f24) = true)
    {f25 : Addr} {od25 an25 : Option Addr} {sl25 : Array (Option Value)} {oc25 kV25 dc25 pm25 cd25 ct25 : Value}
    (a25 : PySem.W.nsIn K mainGlobals "_law_end_good" = some (some (.ref f25)))
    (l25 : K.lookup f25 = some ⟨oc25, od25, .func (PySem.W.fnOf "_law_end_good" "_law_end_good" (defArgs s__law_end_good) (defBody s__law_end_good) (defScope s__law_end_good) .none kV25 dc25 pm25 an25 cd25 ct25), sl25⟩) (c25 : PySem.W.codeIn K cd25 "_law_end_good" = true) (k25 : PySem.W.keepIn K (.ref f25) = true)
    {f26 : Addr} {od26 an26 : Option Addr} {sl26 : Array (Option Value)} {oc26 kV26 dc26 pm26 cd26 ct26 : Value}
    (a26 : PySem.W.nsIn K mainGlobals "law" = some (some (.ref f26)))
    (l26 : K.lookup f26 = some ⟨oc26, od26, .func (PySem.W.fnOf "law" "law" (defArgs s_law) (defBody s_law) (defScope s_law) .none kV26 dc26 pm26 an26 cd26 ct26), sl26⟩) (c26 : PySem.W.codeIn K cd26 "law" = true) (k26 : PySem.W.keepIn K (.ref f26) = true)
    (hn : PySem.W.specialIn K (.builtin "object.__class__") "__get__" = some (some (.builtin "getset_descriptor.__get__"))) (ht : PySem.W.takesIn K (.builtin "object.__class__") = some true)
    {e_BadCurrency : Addr} (xa_BadCurrency : PySem.W.nsIn K mainGlobals "BadCurrency" = some (some (.ref e_BadCurrency))) (xq_BadCurrency : PySem.W.excIn K e_BadCurrency [.type "ValueError", .type "Exception", .type "BaseException", .type "object"] "ValueError.__new__" = true) (xk_BadCurrency : PySem.W.keepIn K (.ref e_BadCurrency) = true) (xs_BadCurrency : PySem.W.subIn K (.ref e_BadCurrency) (.type "BaseException") = some true) (xt_BadCurrency : PySem.W.typeIn K (.ref e_BadCurrency) = some (.type "type")) (xv_BadCurrency : PySem.W.subIn K (.ref e_BadCurrency) (.type "ValueError") = some true) (xr_BadCurrency : PySem.W.subIn K (.ref e_BadCurrency) (.ref e_BadCurrency) = some true)
    (xg_BadCurrency : PySem.W.findIn K (.ref e_BadCurrency) "__getattribute__" = some (some (.builtin "BaseException.__getattribute__"))) (xh_BadCurrency : PySem.W.findIn K (.ref e_BadCurrency) "__getattr__" = some none) (xd_BadCurrency : PySem.W.hasDictIn K e_BadCurrency = true) (xc_BadCurrency : PySem.W.findIn K (.ref e_BadCurrency) "__class__" = some (some (.builtin "object.__class__"))) (xm_BadCurrency : PySem.W.mroIn K e_BadCurrency (.type "object") = some true)
    {e_BadDay : Addr} (xa_BadDay : PySem.W.nsIn K mainGlobals "BadDay" = some (some (.ref e_BadDay))) (xq_BadDay : PySem.W.excIn K e_BadDay [.type "ValueError", .type "Exception", .type "BaseException", .type "object"] "ValueError.__new__" = true) (xk_BadDay : PySem.W.keepIn K (.ref e_BadDay) = true) (xs_BadDay : PySem.W.subIn K (.ref e_BadDay) (.type "BaseException") = some true) (xt_BadDay : PySem.W.typeIn K (.ref e_BadDay) = some (.type "type")) (xv_BadDay : PySem.W.subIn K (.ref e_BadDay) (.type "ValueError") = some true) (xr_BadDay : PySem.W.subIn K (.ref e_BadDay) (.ref e_BadDay) = some true)
    (xg_BadDay : PySem.W.findIn K (.ref e_BadDay) "__getattribute__" = some (some (.builtin "BaseException.__getattribute__"))) (xh_BadDay : PySem.W.findIn K (.ref e_BadDay) "__getattr__" = some none) (xd_BadDay : PySem.W.hasDictIn K e_BadDay = true) (xc_BadDay : PySem.W.findIn K (.ref e_BadDay) "__class__" = some (some (.builtin "object.__class__"))) (xm_BadDay : PySem.W.mroIn K e_BadDay (.type "object") = some true)
    {e_BadRate : Addr} (xa_BadRate : PySem.W.nsIn K mainGlobals "BadRate" = some (some (.ref e_BadRate))) (xq_BadRate : PySem.W.excIn K e_BadRate [.type "ValueError", .type "Exception", .type "BaseException", .type "object"] "ValueError.__new__" = true) (xk_BadRate : PySem.W.keepIn K (.ref e_BadRate) = true) (xs_BadRate : PySem.W.subIn K (.ref e_BadRate) (.type "BaseException") = some true) (xt_BadRate : PySem.W.typeIn K (.ref e_BadRate) = some (.type "type")) (xv_BadRate : PySem.W.subIn K (.ref e_BadRate) (.type "ValueError") = some true) (xr_BadRate : PySem.W.subIn K (.ref e_BadRate) (.ref e_BadRate) = some true)
    (xg_BadRate : PySem.W.findIn K (.ref e_BadRate) "__getattribute__" = some (some (.builtin "BaseException.__getattribute__"))) (xh_BadRate : PySem.W.findIn K (.ref e_BadRate) "__getattr__" = some none) (xd_BadRate : PySem.W.hasDictIn K e_BadRate = true) (xc_BadRate : PySem.W.findIn K (.ref e_BadRate) "__class__" = some (some (.builtin "object.__class__"))) (xm_BadRate : PySem.W.mroIn K e_BadRate (.type "object") = some true)
    {e_HouseError : Addr} (xa_HouseError : PySem.W.nsIn K mainGlobals "HouseError" = some (some (.ref e_HouseError))) (xq_HouseError : PySem.W.excIn K e_HouseError [.type "ValueError", .type "Exception", .type "BaseException", .type "object"] "ValueError.__new__" = true) (xk_HouseError : PySem.W.keepIn K (.ref e_HouseError) = true) (xs_HouseError : PySem.W.subIn K (.ref e_HouseError) (.type "BaseException") = some true) (xt_HouseError : PySem.W.typeIn K (.ref e_HouseError) = some (.type "type")) (xv_HouseError : PySem.W.subIn K (.ref e_HouseError) (.type "ValueError") = some true) (xr_HouseError : PySem.W.subIn K (.ref e_HouseError) (.ref e_HouseError) = some true)
    (xg_HouseError : PySem.W.findIn K (.ref e_HouseError) "__getattribute__" = some (some (.builtin "BaseException.__getattribute__"))) (xh_HouseError : PySem.W.findIn K (.ref e_HouseError) "__getattr__" = some none) (xd_HouseError : PySem.W.hasDictIn K e_HouseError = true) (xc_HouseError : PySem.W.findIn K (.ref e_HouseError) "__class__" = some (some (.builtin "object.__class__"))) (xm_HouseError : PySem.W.mroIn K e_HouseError (.type "object") = some true)
    {e_NoRate : Addr} (xa_NoRate : PySem.W.nsIn K mainGlobals "NoRate" = some (some (.ref e_NoRate))) (xq_NoRate : PySem.W.excIn K e_NoRate [.type "ValueError", .type "Exception", .type "BaseException", .type "object"] "ValueError.__new__" = true) (xk_NoRate : PySem.W.keepIn K (.ref e_NoRate) = true) (xs_NoRate : PySem.W.subIn K (.ref e_NoRate) (.type "BaseException") = some true) (xt_NoRate : PySem.W.typeIn K (.ref e_NoRate) = some (.type "type")) (xv_NoRate : PySem.W.subIn K (.ref e_NoRate) (.type "ValueError") = some true) (xr_NoRate : PySem.W.subIn K (.ref e_NoRate) (.ref e_NoRate) = some true)
    (xg_NoRate : PySem.W.findIn K (.ref e_NoRate) "__getattribute__" = some (some (.builtin "BaseException.__getattribute__"))) (xh_NoRate : PySem.W.findIn K (.ref e_NoRate) "__getattr__" = some none) (xd_NoRate : PySem.W.hasDictIn K e_NoRate = true) (xc_NoRate : PySem.W.findIn K (.ref e_NoRate) "__class__" = some (some (.builtin "object.__class__"))) (xm_NoRate : PySem.W.mroIn K e_NoRate (.type "object") = some true)
    (xp_BadCurrency_BadDay : PySem.W.subIn K (.ref e_BadCurrency) (.ref e_BadDay) = some false)
    (xp_BadCurrency_BadRate : PySem.W.subIn K (.ref e_BadCurrency) (.ref e_BadRate) = some false)
    (xp_BadCurrency_HouseError : PySem.W.subIn K (.ref e_BadCurrency) (.ref e_HouseError) = some true)
    (xp_BadCurrency_NoRate : PySem.W.subIn K (.ref e_BadCurrency) (.ref e_NoRate) = some false)
    (xp_BadDay_BadCurrency : PySem.W.subIn K (.ref e_BadDay) (.ref e_BadCurrency) = some false)
    (xp_BadDay_BadRate : PySem.W.subIn K (.ref e_BadDay) (.ref e_BadRate) = some false)
    (xp_BadDay_HouseError : PySem.W.subIn K (.ref e_BadDay) (.ref e_HouseError) = some true)
    (xp_BadDay_NoRate : PySem.W.subIn K (.ref e_BadDay) (.ref e_NoRate) = some false)
    (xp_BadRate_BadCurrency : PySem.W.subIn K (.ref e_BadRate) (.ref e_BadCurrency) = some false)
    (xp_BadRate_BadDay : PySem.W.subIn K (.ref e_BadRate) (.ref e_BadDay) = some false)
    (xp_BadRate_HouseError : PySem.W.subIn K (.ref e_BadRate) (.ref e_HouseError) = some true)
    (xp_BadRate_NoRate : PySem.W.subIn K (.ref e_BadRate) (.ref e_NoRate) = some false)
    (zb_ValueError : PySem.W.nsIn K mainGlobals "ValueError" = some none)
    (zb_abs : PySem.W.nsIn K mainGlobals "abs" = some none)
    (zb_bool : PySem.W.nsIn K mainGlobals "bool" = some none)
    (zb_int : PySem.W.nsIn K mainGlobals "int" = some none)
    (zb_isinstance : PySem.W.nsIn K mainGlobals "isinstance" = some none)
    (zb_len : PySem.W.nsIn K mainGlobals "len" = some none)
    (zb_list : PySem.W.nsIn K mainGlobals "list" = some none)
    (zb_max : PySem.W.nsIn K mainGlobals "max" = some none)
    (zb_min : PySem.W.nsIn K mainGlobals "min" = some none)
    (zb_range : PySem.W.nsIn K mainGlobals "range" = some none)
    (zb_sorted : PySem.W.nsIn K mainGlobals "sorted" = some none)
    (zb_str : PySem.W.nsIn K mainGlobals "str" = some none)
    (zb_tuple : PySem.W.nsIn K mainGlobals "tuple" = some none)
    {tt_GREAT : Tok} (vc_GREAT : PySem.W.nsIn K mainGlobals "GREAT" = some (some (.str "ABCDEFGHIJKLMNOPQRSTUVWXYZ" tt_GREAT)))
    {tt_LAST_DAY : Tok} (vc_LAST_DAY : PySem.W.nsIn K mainGlobals "LAST_DAY" = some (some (.int 146096 tt_LAST_DAY)))
    {tt_MOST_COINS : Tok} (vc_MOST_COINS : PySem.W.nsIn K mainGlobals "MOST_COINS" = some (some (.int 1000000000 tt_MOST_COINS)))
    : ∃ fd : FuncData, (∀ (s : Shared) (v : Value), BindsTo s fd ⟨[v], []⟩ [("_law_script", v)]) ∧ ∀ base : Heap, K.In base → base.Ns mainGlobals mg → FnOk l.prog w K mg base (L2N.CX l.prog w) 12 fa fd ["_law_script"] (spTop K) := by
  have e : f26 = fa := by
    have q := (PySem.W.mg_of X G a26).symm.trans hfa
    injection q with q
    injection q
  subst e
  let t : Txt K mg := {
    C_Rates := kC_Rates,
    L_Rates := ⟨kp_Rates, kh_Rates, ko_Rates, ks_Rates⟩,
    G_Rates := PySem.W.mg_of X G kg_Rates,
    A_Rates_quoted := kn_Rates_quoted,
    a_is_whole := f0,
    d_is_whole := _,
    F_is_whole := fun_mk (st := s_is_whole) l0 c0 k0,
    b_is_whole := (fun_mk (st := s_is_whole) l0 c0 k0).binds (ps := ["thing"]) fun _ _ _ _ _ _ us hl => match us, hl with | [_], _ => rfl,
    m_is_whole := PySem.W.mg_of X G a0,
    a_is_among := f1,
    d_is_among := _,
    F_is_among := fun_mk (st := s_is_among) l1 c1 k1,
    b_is_among := (fun_mk (st := s_is_among) l1 c1 k1).binds (ps := ["thing", "least", "most"]) fun _ _ _ _ _ _ us hl => match us, hl with | [_, _, _], _ => rfl,
    m_is_among := PySem.W.mg_of X G a1,
    a_is_made_of := f2,
    d_is_made_of := _,
    F_is_made_of := fun_mk (st := s_is_made_of) l2 c2 k2,
    b_is_made_of := (fun_mk (st := s_is_made_of) l2 c2 k2).binds (ps := ["thing", "signs", "most"]) fun _ _ _ _ _ _ us hl => match us, hl with | [_, _, _], _ => rfl,
    m_is_made_of := PySem.W.mg_of X G a2,
    a_is_day := f3,
    d_is_day := _,
    F_is_day := fun_mk (st := s_is_day) l3 c3 k3,
    b_is_day := (fun_mk (st := s_is_day) l3 c3 k3).binds (ps := ["thing"]) fun _ _ _ _ _ _ us hl => match us, hl with | [_], _ => rfl,
    m_is_day := PySem.W.mg_of X G a3,
    a_is_currency := f4,
    d_is_currency := _,
    F_is_currency := fun_mk (st := s_is_currency) l4 c4 k4,
    b_is_currency := (fun_mk (st := s_is_currency) l4 c4 k4).binds (ps := ["thing"]) fun _ _ _ _ _ _ us hl => match us, hl with | [_], _ => rfl,
    m_is_currency := PySem.W.mg_of X G a4,
    Mk_Rates := ⟨km_Rates, a5, i5, kk_Rates⟩,
    a_Rates___init__ := f5,
    d_Rates___init__ := _,
    F_Rates___init__ := fun_mk (st := s_Rates___init__) l5 c5 k5,
    b_Rates___init__ := (fun_mk (st := s_Rates___init__) l5 c5 k5).binds (ps := ["self"]) fun _ _ _ _ _ _ us hl => match us, hl with | [_], _ => rfl,
    E_Rates_quote := ⟨a6, i6, k6⟩,
    a_Rates_quote := f6,
    d_Rates_quote := _,
    F_Rates_quote := fun_mk (st := s_Rates_quote) l6 c6 k6,
    b_Rates_quote := (fun_mk (st := s_Rates_quote) l6 c6 k6).binds (ps := ["self", "day", "one", "p", "other", "q"]) fun _ _ _ _ _ _ us hl => match us, hl with | [_, _, _, _, _, _], _ => rfl,
    E_Rates_newest := ⟨a7, i7, k7⟩,
    a_Rates_newest := f7,
    d_Rates_newest := _,
    F_Rates_newest := fun_mk (st := s_Rates_newest) l7 c7 k7,
    b_Rates_newest := (fun_mk (st := s_Rates_newest) l7 c7 k7).binds (ps := ["self", "one", "other", "day"]) fun _ _ _ _ _ _ us hl => match us, hl with | [_, _, _, _], _ => rfl,
    E_Rates_currencies := ⟨a8, i8, k8⟩,
    a_Rates_currencies := f8,
    d_Rates_currencies := _,
    F_Rates_currencies := fun_mk (st := s_Rates_currencies) l8 c8 k8,
    b_Rates_currencies := (fun_mk (st := s_Rates_currencies) l8 c8 k8).binds (ps := ["self"]) fun _ _ _ _ _ _ us hl => match us, hl with | [_], _ => rfl,
    E_Rates_quotes := ⟨a9, i9, k9⟩,
    a_Rates_quotes := f9,
    d_Rates_quotes := _,
    F_Rates_quotes := fun_mk (st := s_Rates_quotes) l9 c9 k9,
    b_Rates_quotes := (fun_mk (st := s_Rates_quotes) l9 c9 k9).binds (ps := ["self"]) fun _ _ _ _ _ _ us hl => match us, hl with | [_], _ => rfl,
    a__law_cell_at := f10,
    d__law_cell_at := _,
    F__law_cell_at := fun_mk (st := s__law_cell_at) l10 c10 k10,
    b__law_cell_at := (fun_mk (st := s__law_cell_at) l10 c10 k10).binds (ps := ["_law_script", "_law_k"]) fun _ _ _ _ _ _ us hl => match us, hl with | [_, _], _ => rfl,
    m__law_cell_at := PySem.W.mg_of X G a10,
    a__law_currency_by := f11,
    d__law_currency_by := _,
    F__law_currency_by := fun_mk (st := s__law_currency_by) l11 c11 k11,
    b__law_currency_by := (fun_mk (st := s__law_currency_by) l11 c11 k11).binds (ps := ["_law_cell", "_law_k"]) fun _ _ _ _ _ _ us hl => match us, hl with | [_, _], _ => rfl,
    m__law_currency_by := PySem.W.mg_of X G a11,
    a__law_newest := f12,
    d__law_newest := _,
    F__law_newest := fun_mk (st := s__law_newest) l12 c12 k12,
    b__law_newest := (fun_mk (st := s__law_newest) l12 c12 k12).binds (ps := ["_law_told_here", "_law_one", "_law_other", "_law_day"]) fun _ _ _ _ _ _ us hl => match us, hl with | [_, _, _, _], _ => rfl,
    m__law_newest := PySem.W.mg_of X G a12,
    a__law_is_whole := f13,
    d__law_is_whole := _,
    F__law_is_whole := fun_mk (st := s__law_is_whole) l13 c13 k13,
    b__law_is_whole := (fun_mk (st := s__law_is_whole) l13 c13 k13).binds (ps := ["_law_thing", "_law_least", "_law_most"]) fun _ _ _ _ _ _ us hl => match us, hl with | [_, _, _], _ => rfl,
    m__law_is_whole := PySem.W.mg_of X G a13,
    a__law_is_currency := f14,
    d__law_is_currency := _,
    F__law_is_currency := fun_mk (st := s__law_is_currency) l14 c14 k14,
    b__law_is_currency := (fun_mk (st := s__law_is_currency) l14 c14 k14).binds (ps := ["_law_thing"]) fun _ _ _ _ _ _ us hl => match us, hl with | [_], _ => rfl,
    m__law_is_currency := PySem.W.mg_of X G a14,
    a__law_due := f15,
    d__law_due := _,
    F__law_due := fun_mk (st := s__law_due) l15 c15 k15,
    b__law_due := (fun_mk (st := s__law_due) l15 c15 k15).binds (ps := ["_law_row"]) fun _ _ _ _ _ _ us hl => match us, hl with | [_], _ => rfl,
    m__law_due := PySem.W.mg_of X G a15,
    a__law_spoilt := f16,
    d__law_spoilt := _,
    F__law_spoilt := fun_mk (st := s__law_spoilt) l16 c16 k16,
    b__law_spoilt := (fun_mk (st := s__law_spoilt) l16 c16 k16).binds (ps := ["_law_row", "_law_cell", "_law_more"]) fun _ _ _ _ _ _ us hl => match us, hl with | [_, _, _], _ => rfl,
    m__law_spoilt := PySem.W.mg_of X G a16,
    a__law_word := f17,
    d__law_word := _,
    F__law_word := fun_mk (st := s__law_word) l17 c17 k17,
    b__law_word := (fun_mk (st := s__law_word) l17 c17 k17).binds (ps := ["_law_e"]) fun _ _ _ _ _ _ us hl => match us, hl with | [_], _ => rfl,
    m__law_word := PySem.W.mg_of X G a17,
    a__law_told := f18,
    d__law_told := _,
    F__law_told := fun_mk (st := s__law_told) l18 c18 k18,
    b__law_told := (fun_mk (st := s__law_told) l18 c18 k18).binds (ps := ["_law_rates", "_law_row"]) fun _ _ _ _ _ _ us hl => match us, hl with | [_, _], _ => rfl,
    m__law_told := PySem.W.mg_of X G a18,
    a__law_newest_good := f19,
    d__law_newest_good := _,
    F__law_newest_good := fun_mk (st := s__law_newest_good) l19 c19 k19,
    b__law_newest_good := (fun_mk (st := s__law_newest_good) l19 c19 k19).binds (ps := ["_law_rates", "_law_told_here", "_law_one", "_law_other", "_law_day"]) fun _ _ _ _ _ _ us hl => match us, hl with | [_, _, _, _, _], _ => rfl,
    m__law_newest_good := PySem.W.mg_of X G a19,
    a__law_pair_good := f20,
    d__law_pair_good := _,
    F__law_pair_good := fun_mk (st := s__law_pair_good) l20 c20 k20,
    b__law_pair_good := (fun_mk (st := s__law_pair_good) l20 c20 k20).binds (ps := ["_law_rates", "_law_told_here", "_law_one", "_law_other", "_law_day"]) fun _ _ _ _ _ _ us hl => match us, hl with | [_, _, _, _, _], _ => rfl,
    m__law_pair_good := PySem.W.mg_of X G a20,
    a__law_lists := f21,
    d__law_lists := _,
    F__law_lists := fun_mk (st := s__law_lists) l21 c21 k21,
    b__law_lists := (fun_mk (st := s__law_lists) l21 c21 k21).binds (ps := ["_law_told_here"]) fun _ _ _ _ _ _ us hl => match us, hl with | [_], _ => rfl,
    m__law_lists := PySem.W.mg_of X G a21,
    a__law_list := f22,
    d__law_list := _,
    F__law_list := fun_mk (st := s__law_list) l22 c22 k22,
    b__law_list := (fun_mk (st := s__law_list) l22 c22 k22).binds (ps := ["_law_rates", "_law_which"]) fun _ _ _ _ _ _ us hl => match us, hl with | [_, _], _ => rfl,
    m__law_list := PySem.W.mg_of X G a22,
    a__law_listed := f23,
    d__law_listed := _,
    F__law_listed := fun_mk (st := s__law_listed) l23 c23 k23,
    b__law_listed := (fun_mk (st := s__law_listed) l23 c23 k23).binds (ps := ["_law_rates", "_law_told_here", "_law_held", "_law_turn"]) fun _ _ _ _ _ _ us hl => match us, hl with | [_, _, _, _], _ => rfl,
    m__law_listed := PySem.W.mg_of X G a23,
    a__law_all_good := f24,
    d__law_all_good := _,
    F__law_all_good := fun_mk (st := s__law_all_good) l24 c24 k24,
    b__law_all_good := (fun_mk (st := s__law_all_good) l24 c24 k24).binds (ps := ["_law_rates", "_law_told_here", "_law_coins", "_law_day"]) fun _ _ _ _ _ _ us hl => match us, hl with | [_, _, _, _], _ => rfl,
    m__law_all_good := PySem.W.mg_of X G a24,
    a__law_end_good := f25,
    d__law_end_good := _,
    F__law_end_good := fun_mk (st := s__law_end_good) l25 c25 k25,
    b__law_end_good := (fun_mk (st := s__law_end_good) l25 c25 k25).binds (ps := ["_law_both", "_law_told_here", "_law_coins", "_law_day"]) fun _ _ _ _ _ _ us hl => match us, hl with | [_, _, _, _], _ => rfl,
    m__law_end_good := PySem.W.mg_of X G a25,
    a_law := f26,
    d_law := _,
    F_law := fun_mk (st := s_law) l26 c26 k26,
    b_law := (fun_mk (st := s_law) l26 c26 k26).binds (ps := ["_law_script"]) fun _ _ _ _ _ _ us hl => match us, hl with | [_], _ => rfl,
    m_law := PySem.W.mg_of X G a26,
    e_BadCurrency := e_BadCurrency,
    X_BadCurrency := ⟨PySem.W.mg_of X G xa_BadCurrency, xq_BadCurrency, xk_BadCurrency, xs_BadCurrency, xt_BadCurrency, ⟨xg_BadCurrency, xh_BadCurrency, xs_BadCurrency, xd_BadCurrency, xc_BadCurrency, hn, ht, xm_BadCurrency⟩, xv_BadCurrency, xr_BadCurrency⟩,
    e_BadDay := e_BadDay,
    X_BadDay := ⟨PySem.W.mg_of X G xa_BadDay, xq_BadDay, xk_BadDay, xs_BadDay, xt_BadDay, ⟨xg_BadDay, xh_BadDay, xs_BadDay, xd_BadDay, xc_BadDay, hn, ht, xm_BadDay⟩, xv_BadDay, xr_BadDay⟩,
    e_BadRate := e_BadRate,
    X_BadRate := ⟨PySem.W.mg_of X G xa_BadRate, xq_BadRate, xk_BadRate, xs_BadRate, xt_BadRate, ⟨xg_BadRate, xh_BadRate, xs_BadRate, xd_BadRate, xc_BadRate, hn, ht, xm_BadRate⟩, xv_BadRate, xr_BadRate⟩,
    e_HouseError := e_HouseError,
    X_HouseError := ⟨PySem.W.mg_of X G xa_HouseError, xq_HouseError, xk_HouseError, xs_HouseError, xt_HouseError, ⟨xg_HouseError, xh_HouseError, xs_HouseError, xd_HouseError, xc_HouseError, hn, ht, xm_HouseError⟩, xv_HouseError, xr_HouseError⟩,
    e_NoRate := e_NoRate,
    X_NoRate := ⟨PySem.W.mg_of X G xa_NoRate, xq_NoRate, xk_NoRate, xs_NoRate, xt_NoRate, ⟨xg_NoRate, xh_NoRate, xs_NoRate, xd_NoRate, xc_NoRate, hn, ht, xm_NoRate⟩, xv_NoRate, xr_NoRate⟩,
    p_BadCurrency_BadDay := xp_BadCurrency_BadDay,
    p_BadCurrency_BadRate := xp_BadCurrency_BadRate,
    p_BadCurrency_HouseError := xp_BadCurrency_HouseError,
    p_BadCurrency_NoRate := xp_BadCurrency_NoRate,
    p_BadDay_BadCurrency := xp_BadDay_BadCurrency,
    p_BadDay_BadRate := xp_BadDay_BadRate,
    p_BadDay_HouseError := xp_BadDay_HouseError,
    p_BadDay_NoRate := xp_BadDay_NoRate,
    p_BadRate_BadCurrency := xp_BadRate_BadCurrency,
    p_BadRate_BadDay := xp_BadRate_BadDay,
    p_BadRate_HouseError := xp_BadRate_HouseError,
    p_BadRate_NoRate := xp_BadRate_NoRate,
    z_ValueError := PySem.W.mg_none_of X G zb_ValueError,
    z_abs := PySem.W.mg_none_of X G zb_abs,
    z_bool := PySem.W.mg_none_of X G zb_bool,
    z_int := PySem.W.mg_none_of X G zb_int,
    z_isinstance := PySem.W.mg_none_of X G zb_isinstance,
    z_len := PySem.W.mg_none_of X G zb_len,
    z_list := PySem.W.mg_none_of X G zb_list,
    z_max := PySem.W.mg_none_of X G zb_max,
    z_min := PySem.W.mg_none_of X G zb_min,
    z_range := PySem.W.mg_none_of X G zb_range,
    z_sorted := PySem.W.mg_none_of X G zb_sorted,
    z_str := PySem.W.mg_none_of X G zb_str,
    z_tuple := PySem.W.mg_none_of X G zb_tuple,
    c_GREAT := ⟨_, PySem.W.mg_of X G vc_GREAT, ⟨_, rfl⟩⟩,
    c_LAST_DAY := ⟨_, PySem.W.mg_of X G vc_LAST_DAY, ⟨_, rfl⟩⟩,
    c_MOST_COINS := ⟨_, PySem.W.mg_of X G vc_MOST_COINS, ⟨_, rfl⟩⟩ }
  exact ⟨t.d_law, fun s v => .of_eq rfl, fun base _ _ => top_law (ok_law t) fun ns hn => law_true ns hn⟩
end K09
open PySem PySem.W PyProof.Rows
set_option maxHeartbeats 0 in
theorem PySem.Challenge.cw_evenhall_k09_quotes_by_plain_rows_holds : PySem.Challenge.rw_evenhall_k09_quotes_by_plain_rows.Holds := by
  w_on; o_law; k_head; (case hw => w_witness2)
  k_fill
  refine L2.walk_of (l := PySem.Challenge.rw_evenhall_k09_quotes_by_plain_rows) (n := 63) (k := 12) (x := "_law_script") (CX := fun w => L2N.CX PySem.Challenge.pw_evenhall_k09_quotes_by_plain_rows w) (sp := fun w => LL.spTop _) rfl (by decide) rfl ⟨rfl, by decide, by decide⟩ (fun w h Y => PySem.W.kIn_of Y) ?F (fun _ _ a ns hl hO hS => LL.top_sp hl hO hS) (fun _ _ _ _ _ h => LL.top_no h)
  case F =>
    intro w mg fa h KX G hmg
    refine' K09.all_mk KX G hmg ?kg_Rates ?kp_Rates ?kh_Rates ?ko_Rates ?ks_Rates ?kn_Rates_quoted ?km_Rates ?kk_Rates ?a0 ?l0 ?c0 ?k0 ?a1 ?l1 ?c1 ?k1 ?a2 ?l2 ?c2 ?k2 ?a3 ?l3 ?c3 ?k3 ?a4 ?l4 ?c4 ?k4 ?a5 ?i5 ?l5 ?c5 ?k5 ?a6 ?i6 ?l6 ?c6 ?k6 ?a7 ?i7 ?l7 ?c7 ?k7 ?a8 ?i8 ?l8 ?c8 ?k8 ?a9 ?i9 ?l9 ?c9 ?k9 ?a10 ?l10 ?c10 ?k10 ?a11 ?l11 ?c11 ?k11 ?a12 ?l12 ?c12 ?k12 ?a13 ?l13 ?c13 ?k13 ?a14 ?l14 ?c14 ?k14 ?a15 ?l15 ?c15 ?k15 ?a16 ?l16 ?c16 ?k16 ?a17 ?l17 ?c17 ?k17 ?a18 ?l18 ?c18 ?k18 ?a19 ?l19 ?c19 ?k19 ?a20 ?l20 ?c20 ?k20 ?a21 ?l21 ?c21 ?k21 ?a22 ?l22 ?c22 ?k22 ?a23 ?l23 ?c23 ?k23 ?a24 ?l24 ?c24 ?k24 ?a25 ?l25 ?c25 ?k25 ?a26 ?l26 ?c26 ?k26 ?hn ?ht ?xa_BadCurrency ?xq_BadCurrency ?xk_BadCurrency ?xs_BadCurrency ?xt_BadCurrency ?xv_BadCurrency ?xr_BadCurrency ?xg_BadCurrency ?xh_BadCurrency ?xd_BadCurrency ?xc_BadCurrency ?xm_BadCurrency ?xa_BadDay ?xq_BadDay ?xk_BadDay ?xs_BadDay ?xt_BadDay ?xv_BadDay ?xr_BadDay ?xg_BadDay ?xh_BadDay ?xd_BadDay ?xc_BadDay ?xm_BadDay ?xa_BadRate ?xq_BadRate ?xk_BadRate ?xs_BadRate ?xt_BadRate ?xv_BadRate ?xr_BadRate ?xg_BadRate ?xh_BadRate ?xd_BadRate ?xc_BadRate ?xm_BadRate ?xa_HouseError ?xq_HouseError ?xk_HouseError ?xs_HouseError ?xt_HouseError ?xv_HouseError ?xr_HouseError ?xg_HouseError ?xh_HouseError ?xd_HouseError ?xc_HouseError ?xm_HouseError ?xa_NoRate ?xq_NoRate ?xk_NoRate ?xs_NoRate ?xt_NoRate ?xv_NoRate ?xr_NoRate ?xg_NoRate ?xh_NoRate ?xd_NoRate ?xc_NoRate ?xm_NoRate ?xp_BadCurrency_BadDay ?xp_BadCurrency_BadRate ?xp_BadCurrency_HouseError ?xp_BadCurrency_NoRate ?xp_BadDay_BadCurrency ?xp_BadDay_BadRate ?xp_BadDay_HouseError ?xp_BadDay_NoRate ?xp_BadRate_BadCurrency ?xp_BadRate_BadDay ?xp_BadRate_HouseError ?xp_BadRate_NoRate ?zb_ValueError ?zb_abs ?zb_bool ?zb_int ?zb_isinstance ?zb_len ?zb_list ?zb_max ?zb_min ?zb_range ?zb_sorted ?zb_str ?zb_tuple ?vc_GREAT ?vc_LAST_DAY ?vc_MOST_COINS
    (case kg_Rates => k_is); (case kp_Rates => k_is); (case kh_Rates => k_is); (case ko_Rates => k_is); (case ks_Rates => k_is); (case kn_Rates_quoted => k_is); (case km_Rates => k_is); (case kk_Rates => k_is); (case a0 => k_is); (case l0 => k_is); (case c0 => k_is); (case k0 => k_is); (case a1 => k_is); (case l1 => k_is); (case c1 => k_is); (case k1 => k_is); (case a2 => k_is); (case l2 => k_is); (case c2 => k_is); (case k2 => k_is); (case a3 => k_is); (case l3 => k_is); (case c3 => k_is); (case k3 => k_is); (case a4 => k_is); (case l4 => k_is); (case c4 => k_is); (case k4 => k_is); (case a5 => k_is); (case i5 => k_is); (case l5 => k_is); (case c5 => k_is); (case k5 => k_is); (case a6 => k_is); (case i6 => k_is); (case l6 => k_is); (case c6 => k_is); (case k6 => k_is); (case a7 => k_is); (case i7 => k_is); (case l7 => k_is); (case c7 => k_is); (case k7 => k_is); (case a8 => k_is); (case i8 => k_is); (case l8 => k_is); (case c8 => k_is); (case k8 => k_is); (case a9 => k_is); (case i9 => k_is); (case l9 => k_is); (case c9 => k_is); (case k9 => k_is); (case a10 => k_is); (case l10 => k_is); (case c10 => k_is); (case k10 => k_is); (case a11 => k_is); (case l11 => k_is); (case c11 => k_is); (case k11 => k_is); (case a12 => k_is); (case l12 => k_is); (case c12 => k_is); (case k12 => k_is); (case a13 => k_is); (case l13 => k_is); (case c13 => k_is); (case k13 => k_is); (case a14 => k_is); (case l14 => k_is); (case c14 => k_is); (case k14 => k_is); (case a15 => k_is); (case l15 => k_is); (case c15 => k_is); (case k15 => k_is); (case a16 => k_is); (case l16 => k_is); (case c16 => k_is); (case k16 => k_is); (case a17 => k_is); (case l17 => k_is); (case c17 => k_is); (case k17 => k_is); (case a18 => k_is); (case l18 => k_is); (case c18 => k_is); (case k18 => k_is); (case a19 => k_is); (case l19 => k_is); (case c19 => k_is); (case k19 => k_is); (case a20 => k_is); (case l20 => k_is); (case c20 => k_is); (case k20 => k_is); (case a21 => k_is); (case l21 => k_is); (case c21 => k_is); (case k21 => k_is); (case a22 => k_is); (case l22 => k_is); (case c22 => k_is); (case k22 => k_is); (case a23 => k_is); (case l23 => k_is); (case c23 => k_is); (case k23 => k_is); (case a24 => k_is); (case l24 => k_is); (case c24 => k_is); (case k24 => k_is); (case a25 => k_is); (case l25 => k_is); (case c25 => k_is); (case k25 => k_is); (case a26 => k_is); (case l26 => k_is); (case c26 => k_is); (case k26 => k_is); (case hn => k_is); (case ht => k_is); (case xa_BadCurrency => k_is); (case xq_BadCurrency => k_exc); (case xk_BadCurrency => k_is); (case xs_BadCurrency => k_is); (case xt_BadCurrency => k_is); (case xv_BadCurrency => k_is); (case xr_BadCurrency => k_is); (case xg_BadCurrency => k_is); (case xh_BadCurrency => k_is); (case xd_BadCurrency => k_is); (case xc_BadCurrency => k_is); (case xm_BadCurrency => k_is); (case xa_BadDay => k_is); (case xq_BadDay => k_exc); (case xk_BadDay => k_is); (case xs_BadDay => k_is); (case xt_BadDay => k_is); (case xv_BadDay => k_is); (case xr_BadDay => k_is); (case xg_BadDay => k_is); (case xh_BadDay => k_is); (case xd_BadDay => k_is); (case xc_BadDay => k_is); (case xm_BadDay => k_is); (case xa_BadRate => k_is); (case xq_BadRate => k_exc); (case xk_BadRate => k_is); (case xs_BadRate => k_is); (case xt_BadRate => k_is); (case xv_BadRate => k_is); (case xr_BadRate => k_is); (case xg_BadRate => k_is); (case xh_BadRate => k_is); (case xd_BadRate => k_is); (case xc_BadRate => k_is); (case xm_BadRate => k_is); (case xa_HouseError => k_is); (case xq_HouseError => k_exc); (case xk_HouseError => k_is); (case xs_HouseError => k_is); (case xt_HouseError => k_is); (case xv_HouseError => k_is); (case xr_HouseError => k_is); (case xg_HouseError => k_is); (case xh_HouseError => k_is); (case xd_HouseError => k_is); (case xc_HouseError => k_is); (case xm_HouseError => k_is); (case xa_NoRate => k_is); (case xq_NoRate => k_exc); (case xk_NoRate => k_is); (case xs_NoRate => k_is); (case xt_NoRate => k_is); (case xv_NoRate => k_is); (case xr_NoRate => k_is); (case xg_NoRate => k_is); (case xh_NoRate => k_is); (case xd_NoRate => k_is); (case xc_NoRate => k_is); (case xm_NoRate => k_is); (case xp_BadCurrency_BadDay => k_is); (case xp_BadCurrency_BadRate => k_is); (case xp_BadCurrency_HouseError => k_is); (case xp_BadCurrency_NoRate => k_is); (case xp_BadDay_BadCurrency => k_is); (case xp_BadDay_BadRate => k_is); (case xp_BadDay_HouseError => k_is); (case xp_BadDay_NoRate => k_is); (case xp_BadRate_BadCurrency => k_is); (case xp_BadRate_BadDay => k_is); (case xp_BadRate_HouseError => k_is); (case xp_BadRate_NoRate => k_is); (case zb_ValueError => k_is); (case zb_abs => k_is); (case zb_bool => k_is); (case zb_int => k_is); (case zb_isinstance => k_is); (case zb_len => k_is); (case zb_list => k_is); (case zb_max => k_is); (case zb_min => k_is); (case zb_range => k_is); (case zb_sorted => k_is); (case zb_str => k_is); (case zb_tuple => k_is); (case vc_GREAT => k_is); (case vc_LAST_DAY => k_is); (case vc_MOST_COINS => k_is)

