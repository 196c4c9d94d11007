import PyProof.Rows.All
import Wide.All
import OpenK.AllK
import Wide.FinOn
import HandS.ForMost
import HandS.IsInst
import HandS.Walk
import HandS.WordsExc
import HandS.ExcIs
import HandS.Style
import HandS.TupAny
import HandS.Evl
import HandS.Wide
import PyProof.StrBlock2
import HandS.Replace
import HandS.ExcCtx
import HandS.NoneIn
import HandS.Codes
import HandS.TryOnly
import HandS.Small
import HandS.TupMul
import HandS.Iter
import HandS.SetKeys
import HandS.More
import HandS.SortInts
import KE.GoesMore
import PyProof.Draws
import PyProof.EnumMake
import HandS.HotCalls
import KE.SortData
import KE.DataCmp
import PyProof.WalkInts
import HandS.DictComp
import HandS.Conv
import HandS.Text
import KE.KRevIter
import HandS.Rev
import HandS.SortKw
import HandS.SetFor
import HandS.DictTup
import HandS.StrMore
import PyProof.DictMoreH
import PyProof.MeetsStr3
import HandS.EndBits
import HandS.Deep
import PyProof.StrLawsLast
import PyProof.Rows.StrNews2
import PyProof.MaxThree
import HandS.ExcInit
import HandS.ExcField
import PySem.Challenge.RW_evenhall_k16_sums_by_months
set_option Elab.async false
set_option linter.all false
set_option maxRecDepth 100000
set_option maxHeartbeats 2000000
/-! The logical layer: values as trees, mutable objects by number, each construct by one deterministic function. -/
namespace LL
open PySem PySem.Spec PyProof.Rows L2

/-- a value: tuples and lists that nobody changes by what they hold, other lists, dicts and instances by their number -/
inductive LV where
  | non | bl (b : Bool) | int (i : Int) | str (s : Str) | ty (n : String)
  | tup (xs : List LV) | ktp (xs : List LV) | ref (n : Nat) | scr (ns : List Int) | cls (a : Addr)
  | exc (c : Nat) (fs : List LV)
  | lst (xs : List LV)
/-- what stands at a number -/
inductive LO where
  | lst (xs : List LV)
  | dct (kvs : List (Key × LV))
  | dcT (kvs : List (List Key × LV))
  | dck (kvs : List (Key × LV))
  | dcl (kvs : List (List Key × LV))
  | ins (c : Nat) (fs : List LV)
abbrev Sto := List LO
abbrev Sl := List (Option LV)

inductive R where
  | ok (v : LV) (S : Sto)
  | ex (c : Nat) (fs : List LV) (S : Sto)
  | no
@[simp] def R.bind : R → (LV → Sto → R) → R
  | .ok v S, k => k v S
  | .ex c fs S, _ => .ex c fs S
  | .no, _ => .no
/-- several values -/
inductive RL where
  | ok (vs : List LV) (S : Sto)
  | ex (c : Nat) (fs : List LV) (S : Sto)
  | no
@[simp] def RL.bind : RL → (List LV → Sto → R) → R
  | .ok v S, k => k v S
  | .ex c fs S, _ => .ex c fs S
  | .no, _ => .no
/-- a statement -/
inductive RS where
  | nx (ds : Sl) (S : Sto)
  | rt (v : LV) (S : Sto)
  | bk (ds : Sl) (S : Sto)
  | ct (ds : Sl) (S : Sto)
  | ex (c : Nat) (fs : List LV) (ds : Sl) (S : Sto)
  | no
abbrev LE := Sl → Sto → R
abbrev LA := Sl → Sto → RL
abbrev LS := Sl → Sto → RS
abbrev Fn := List LV → Sto → R

/-! ### what represents what -/
mutual
def RV (K : PySem.W.Frag) (m : List Addr) (H : Hp) : LV → V → Prop
  | .non, x => x = .non
  | .bl b, x => x = .bl b
  | .int i, x => x = .int i
  | .str s, x => x = .str s
  | .ty n, x => x = .ty n
  | .tup xs, x => ∃ a vs, x = .ref a ∧ H a = some (.tup vs) ∧ RVs K m H xs vs
  | .ktp xs, x => ∃ a vs, x = .ref a ∧ (∀ H', SqT K H' a vs) ∧ RVs K m H xs vs
  | .ref n, x => ∃ a, x = .ref a ∧ m[n]? = some a
  | .scr ns, x => ∃ a, x = .ref a ∧ ((∃ o, H a = some (.frz o (.lst (ns.map V.int)))) ∨ ∀ H', SqL K H' a (ns.map V.int))
  | .cls a, x => x = .ref a
  | .exc _ _, _ => False
  | .lst xs, x => ∃ a vs, x = .ref a ∧ a ∉ m ∧ H a = some (.lst vs) ∧ RVs K m H xs vs
def RVs (K : PySem.W.Frag) (m : List Addr) (H : Hp) : List LV → List V → Prop
  | [], vs => vs = []
  | x :: xs, vs => ∃ v r, vs = v :: r ∧ RV K m H x v ∧ RVs K m H xs r
end
/-- instances' classes by their codes -/
structure Env1 where
  ca : Nat → Addr
  fl : Nat → List Str
def RO (K : PySem.W.Frag) (T : Env1) (m : List Addr) (H : Hp) (a : Addr) : LO → Prop
  | .lst xs => ∃ vs, H a = some (.lst vs) ∧ RVs K m H xs vs
  | .dct kvs => ∃ ws, H a = some (.dK ws) ∧ ws.map (·.1) = kvs.map (·.1) ∧ RVs K m H (kvs.map (·.2)) (ws.map (·.2))
  | .dcT kvs => ∃ ws, H a = some (.dT ws) ∧ ws.map (·.1) = kvs.map (·.1) ∧ RVs K m H (kvs.map (·.2)) (ws.map (·.2))
  | .dck kvs => ∃ od ws, H a = some (.frz od (.dK ws)) ∧ ws.map (·.1) = kvs.map (·.1) ∧ RVs K m H (kvs.map (·.2)) (ws.map (·.2))
  | .dcl kvs => ∃ od ws, H a = some (.frz od (.dT ws)) ∧ ws.map (·.1) = kvs.map (·.1) ∧ RVs K m H (kvs.map (·.2)) (ws.map (·.2))
  | .ins c fs => ∃ dx ws, H a = some (.ins (T.ca c) dx ws) ∧ ws.map (·.1) = (T.fl c).take fs.length ∧ RVs K m H fs (ws.map (·.2))
structure RelS (K : PySem.W.Frag) (T : Env1) (m : List Addr) (S : Sto) (H : Hp) : Prop where
  len : m.length = S.length
  nd : m.Nodup
  ob : ∀ (n : Nat) (a : Addr) (o : LO), m[n]? = some a → S[n]? = some o → RO K T m H a o
/-- what a value leans on stands -/
structure Kp (m : List Addr) (H : Hp) (m' : List Addr) (H' : Hp) : Prop where
  get : ∀ (n : Nat) (a : Addr), m[n]? = some a → m'[n]? = some a
  tup : ∀ a vs, H a = some (.tup vs) → H' a = some (.tup vs)
  frz : ∀ a o u, H a = some (.frz o (.lst u)) → H' a = some (.frz o (.lst u))
  lst : ∀ a vs, a ∉ m → H a = some (.lst vs) → a ∉ m' ∧ H' a = some (.lst vs)
  xd : ∀ a fs, a ∉ m → H a = some (.xd fs) → a ∉ m' ∧ H' a = some (.xd fs)
structure Ext (m : List Addr) (H : Hp) (m' : List Addr) (H' : Hp) : Prop where
  pre : ∃ t, m' = m ++ t
  fr : ∀ a o, a ∉ m → H a = some o → H' a = some o
  new : ∀ a, a ∈ m' → a ∉ m → H a = none
  tup : ∀ a vs, H a = some (.tup vs) → H' a = some (.tup vs)
  frz : ∀ a o u, H a = some (.frz o u) → H' a = some (.frz o u)

section
variable {K : PySem.W.Frag} {T : Env1} {m m' m1 m2 : List Addr} {H H' H1 H2 : Hp} {S S' S1 : Sto} {v : LV} {x : V}
theorem Ext.refl : Ext m H m H := ⟨⟨[], by simp⟩, fun _ _ _ h => h, fun a h n => absurd h n, fun _ _ h => h, fun _ _ _ h => h⟩
theorem Ext.mem (E : Ext m H m' H') {a : Addr} (h : a ∈ m) : a ∈ m' := by
  obtain ⟨t, rfl⟩ := E.pre
  exact List.mem_append_left _ h
theorem Ext.get (E : Ext m H m' H') {n : Nat} {a : Addr} (h : m[n]? = some a) : m'[n]? = some a := by
  obtain ⟨t, rfl⟩ := E.pre
  have hl : n < m.length := (List.getElem?_eq_some_iff.mp h).1
  rw [List.getElem?_append_left hl]
  exact h
theorem Ext.out (E : Ext m H m' H') {a : Addr} {o : HO} (h : a ∉ m) (ho : H a = some o) : a ∉ m' := fun z => by
  rw [E.new a z h] at ho
  cases ho
theorem Ext.trans (E : Ext m H m1 H1) (F : Ext m1 H1 m2 H2) : Ext m H m2 H2 where
  pre := by
    obtain ⟨t, rfl⟩ := E.pre
    obtain ⟨u, rfl⟩ := F.pre
    exact ⟨t ++ u, by simp⟩
  fr := fun a o h ho => F.fr a o (E.out h ho) (E.fr a o h ho)
  new := fun a h n => by
    by_cases h1 : a ∈ m1
    · exact E.new a h1 n
    · have h2 := F.new a h h1
      cases q : H a with
      | none => rfl
      | some o =>
        rw [E.fr a o n q] at h2
        cases h2
  tup := fun a vs h => F.tup a vs (E.tup a vs h)
  frz := fun a o u h => F.frz a o u (E.frz a o u h)
theorem Ext.kp (E : Ext m H m' H') : Kp m H m' H' := ⟨fun _ _ h => E.get h, E.tup, fun a o u h => E.frz a o _ h, fun a vs h ho => ⟨E.out h ho, E.fr a _ h ho⟩, fun a vs h ho => ⟨E.out h ho, E.fr a _ h ho⟩⟩
theorem Kp.scr (E : Kp m H m' H') {a : Addr} {vs : List V} (h : (∃ o, H a = some (.frz o (.lst vs))) ∨ ∀ H', SqL K H' a vs) : (∃ o, H' a = some (.frz o (.lst vs))) ∨ ∀ H', SqL K H' a vs := by
  rcases h with ⟨o, h⟩ | h
  · exact .inl ⟨o, E.frz a o _ h⟩
  · exact .inr h
theorem scr_sq {a : Addr} {vs : List V} (h : (∃ o, H a = some (.frz o (.lst vs))) ∨ ∀ H', SqL K H' a vs) : SqL K H a vs := by
  rcases h with ⟨o, h⟩ | h
  · exact .inl (.inr ⟨o, h⟩)
  · exact h H
mutual
theorem RV.kp (E : Kp m H m' H') : ∀ {v : LV} {x : V}, RV K m H v x → RV K m' H' v x
  | .non, _, h => h
  | .bl _, _, h => h
  | .int _, _, h => h
  | .str _, _, h => h
  | .ty _, _, h => h
  | .tup xs, x, h => by
    unfold RV at h ⊢
    obtain ⟨a, vs, e, ht, hs⟩ := h
    exact ⟨a, vs, e, E.tup a vs ht, RVs.kp E hs⟩
  | .ktp xs, x, h => by
    unfold RV at h ⊢
    obtain ⟨a, vs, e, ht, hs⟩ := h
    exact ⟨a, vs, e, ht, RVs.kp E hs⟩
  | .ref n, x, h => by
    unfold RV at h ⊢
    obtain ⟨a, e, hn⟩ := h
    exact ⟨a, e, E.get _ _ hn⟩
  | .scr ns, x, h => by
    unfold RV at h ⊢
    obtain ⟨a, e, h1⟩ := h
    exact ⟨a, e, E.scr h1⟩
  | .cls _, _, h => h
  | .exc _ _, _, h => h
  | .lst xs, x, h => by
    unfold RV at h ⊢
    obtain ⟨a, vs, e, hm, ht, hs⟩ := h
    obtain ⟨h1, h2⟩ := E.lst a vs hm ht
    exact ⟨a, vs, e, h1, h2, RVs.kp E hs⟩
theorem RVs.kp (E : Kp m H m' H') : ∀ {vs : List LV} {xs : List V}, RVs K m H vs xs → RVs K m' H' vs xs
  | [], _, h => h
  | v :: vs, xs, h => by
    unfold RVs at h ⊢
    obtain ⟨y, r, e, h1, h2⟩ := h
    exact ⟨y, r, e, RV.kp E h1, RVs.kp E h2⟩
end
theorem RV.mono (E : Ext m H m' H') (h : RV K m H v x) : RV K m' H' v x := RV.kp E.kp h
theorem RVs.mono {vs : List LV} {xs : List V} (E : Ext m H m' H') (h : RVs K m H vs xs) : RVs K m' H' vs xs := RVs.kp E.kp h
theorem RVs.nil : RVs K m H [] [] := by unfold RVs; rfl
theorem RVs.cons {vs : List LV} {xs : List V} (h : RV K m H v x) (hs : RVs K m H vs xs) : RVs K m H (v :: vs) (x :: xs) := by
  unfold RVs
  exact ⟨x, xs, rfl, h, hs⟩
theorem RVs.len : ∀ {vs : List LV} {xs : List V}, RVs K m H vs xs → vs.length = xs.length
  | [], _, h => by unfold RVs at h; rw [h]; rfl
  | v :: vs, xs, h => by
    unfold RVs at h
    obtain ⟨y, r, rfl, _, h2⟩ := h
    rw [List.length_cons, List.length_cons, RVs.len h2]
theorem RVs.get : ∀ {vs : List LV} {xs : List V} {n : Nat} {v : LV}, RVs K m H vs xs → vs[n]? = some v → ∃ x, xs[n]? = some x ∧ RV K m H v x
  | [], _, _, _, _, e => by simp at e
  | w :: vs, xs, 0, v, h, e => by
    unfold RVs at h
    obtain ⟨y, r, rfl, h1, _⟩ := h
    simp at e
    subst e
    exact ⟨y, rfl, h1⟩
  | w :: vs, xs, n + 1, v, h, e => by
    unfold RVs at h
    obtain ⟨y, r, rfl, _, h2⟩ := h
    obtain ⟨x, q, hx⟩ := RVs.get (n := n) h2 (by simpa using e)
    exact ⟨x, by simpa using q, hx⟩
theorem RVs.getR : ∀ {vs : List LV} {xs : List V} {n : Nat} {x : V}, RVs K m H vs xs → xs[n]? = some x → ∃ v, vs[n]? = some v ∧ RV K m H v x
  | [], _, _, _, h, e => by unfold RVs at h; subst h; simp at e
  | w :: vs, xs, 0, x, h, e => by
    unfold RVs at h
    obtain ⟨y, r, rfl, h1, _⟩ := h
    simp at e
    subst e
    exact ⟨w, rfl, h1⟩
  | w :: vs, xs, n + 1, x, h, e => by
    unfold RVs at h
    obtain ⟨y, r, rfl, _, h2⟩ := h
    obtain ⟨v, q, hv⟩ := RVs.getR (n := n) h2 (by simpa using e)
    exact ⟨v, by simpa using q, hv⟩
theorem RVs.append : ∀ {vs ws : List LV} {xs ys : List V}, RVs K m H vs xs → RVs K m H ws ys → RVs K m H (vs ++ ws) (xs ++ ys)
  | [], _, _, _, h, h' => by unfold RVs at h; subst h; exact h'
  | v :: vs, ws, xs, ys, h, h' => by
    unfold RVs at h
    obtain ⟨y, r, rfl, h1, h2⟩ := h
    exact RVs.cons h1 (RVs.append h2 h')
theorem RVs.drop : ∀ {vs : List LV} {xs : List V} (n : Nat), RVs K m H vs xs → RVs K m H (vs.drop n) (xs.drop n)
  | _, _, 0, h => h
  | [], _, n + 1, h => by unfold RVs at h; subst h; exact RVs.nil
  | v :: vs, xs, n + 1, h => by
    unfold RVs at h
    obtain ⟨y, r, rfl, _, h2⟩ := h
    exact RVs.drop n h2
theorem RVs.take : ∀ {vs : List LV} {xs : List V} (n : Nat), RVs K m H vs xs → RVs K m H (vs.take n) (xs.take n)
  | _, _, 0, h => RVs.nil
  | [], _, n + 1, h => by unfold RVs at h; subst h; exact RVs.nil
  | v :: vs, xs, n + 1, h => by
    unfold RVs at h
    obtain ⟨y, r, rfl, h1, h2⟩ := h
    exact RVs.cons h1 (RVs.take n h2)
theorem RVs.set : ∀ {vs : List LV} {xs : List V} (n : Nat), RVs K m H vs xs → RV K m H v x → RVs K m H (vs.set n v) (xs.set n x)
  | [], _, _, h, _ => by unfold RVs at h; subst h; exact RVs.nil
  | w :: vs, xs, 0, h, hv => by
    unfold RVs at h
    obtain ⟨y, r, rfl, _, h2⟩ := h
    exact RVs.cons hv h2
  | w :: vs, xs, n + 1, h, hv => by
    unfold RVs at h
    obtain ⟨y, r, rfl, h1, h2⟩ := h
    exact RVs.cons h1 (RVs.set n h2 hv)
theorem RO.kp (E : Kp m H m' H') {a : Addr} {o : LO} (e : H' a = H a) (h : RO K T m H a o) : RO K T m' H' a o := by
  cases o with
  | lst xs =>
    obtain ⟨vs, h1, h2⟩ := h
    exact ⟨vs, e.trans h1, h2.kp E⟩
  | dct kvs =>
    obtain ⟨vs, h1, h2, h3⟩ := h
    exact ⟨vs, e.trans h1, h2, h3.kp E⟩
  | dcT kvs =>
    obtain ⟨vs, h1, h2, h3⟩ := h
    exact ⟨vs, e.trans h1, h2, h3.kp E⟩
  | dck kvs =>
    obtain ⟨dx, ws, h1, h2, h3⟩ := h
    exact ⟨dx, ws, e.trans h1, h2, h3.kp E⟩
  | dcl kvs =>
    obtain ⟨dx, ws, h1, h2, h3⟩ := h
    exact ⟨dx, ws, e.trans h1, h2, h3.kp E⟩
  | ins c fs =>
    obtain ⟨dx, ws, h1, h2, h3⟩ := h
    exact ⟨dx, ws, e.trans h1, h2, h3.kp E⟩
theorem RO.mono (E : Ext m H m' H') {a : Addr} {o : LO} (e : H' a = H a) (h : RO K T m H a o) : RO K T m' H' a o := RO.kp E.kp e h
/-- what stands at a tracked number is no tuple -/
theorem RelS.there (r : RelS K T m S H) {a : Addr} (h : a ∈ m) : ∃ o, H a = some o ∧ (∀ xs, o ≠ .tup xs) ∧ (∀ c, o ≠ .own c) := by
  obtain ⟨n, hn⟩ := List.mem_iff_getElem?.mp h
  have hl : n < S.length := by
    rw [← r.len]
    exact (List.getElem?_eq_some_iff.mp hn).1
  have q := r.ob n a S[n] hn (List.getElem?_eq_getElem hl)
  generalize S[n] = o at q
  cases o with
  | lst xs => exact ⟨_, q.choose_spec.1, (fun _ z => nomatch z), (fun _ z => nomatch z)⟩
  | dct xs => exact ⟨_, q.choose_spec.1, (fun _ z => nomatch z), (fun _ z => nomatch z)⟩
  | dcT xs => exact ⟨_, q.choose_spec.1, (fun _ z => nomatch z), (fun _ z => nomatch z)⟩
  | dck fs =>
    obtain ⟨dx, ws, h1, _⟩ := q
    exact ⟨_, h1, (fun _ z => nomatch z), (fun _ z => nomatch z)⟩
  | dcl fs =>
    obtain ⟨dx, ws, h1, _⟩ := q
    exact ⟨_, h1, (fun _ z => nomatch z), (fun _ z => nomatch z)⟩
  | ins c fs =>
    obtain ⟨dx, ws, h1, _⟩ := q
    exact ⟨_, h1, (fun _ z => nomatch z), (fun _ z => nomatch z)⟩
def nfz : HO → Bool
  | .frz _ _ => false
  | _ => true
theorem RelS.out (r : RelS K T m S H) {a : Addr} (h : H a = none) : a ∉ m := fun z => by
  obtain ⟨o, q, _⟩ := r.there z
  rw [h] at q
  cases q
/-- a new object that has no number -/
theorem Ext.side {p : Addr} {o : HO} (hp : H p = none) : Ext m H m (upd H p o) where
  pre := ⟨[], by simp⟩
  fr := fun a u _ ha => by rw [upd_ne (ne_of_none ha hp)]; exact ha
  new := fun a h n => absurd h n
  tup := fun a vs h => by
    rw [upd_ne (ne_of_none h hp)]
    exact h
  frz := fun a b u h => by
    rw [upd_ne (ne_of_none h hp)]
    exact h
theorem RelS.side (r : RelS K T m S H) {p : Addr} {o : HO} (hp : H p = none) : RelS K T m S (upd H p o) where
  len := r.len
  nd := r.nd
  ob := fun n a u hn hu => (r.ob n a u hn hu).mono (Ext.side hp) (by
    have : a ≠ p := fun z => r.out hp (z ▸ List.mem_of_getElem? hn)
    rw [upd_ne this])
/-- a new object with a number -/
theorem Ext.alloc (r : RelS K T m S H) {p : Addr} {o : HO} (hp : H p = none) : Ext m H (m ++ [p]) (upd H p o) where
  pre := ⟨[p], rfl⟩
  fr := fun a u _ ha => by rw [upd_ne (ne_of_none ha hp)]; exact ha
  new := fun a h n => by
    rcases List.mem_append.mp h with h | h
    · exact absurd h n
    · rw [List.mem_singleton.mp h]; exact hp
  tup := fun a vs h => (Ext.side (m := m) (o := o) hp).tup a vs h
  frz := fun a b u h => (Ext.side (m := m) (o := o) hp).frz a b u h
theorem RelS.alloc (r : RelS K T m S H) {p : Addr} {o : HO} {lo : LO} (hp : H p = none) (ho : RO K T (m ++ [p]) (upd H p o) p lo) : RelS K T (m ++ [p]) (S ++ [lo]) (upd H p o) where
  len := by simp [r.len]
  nd := by
    rw [List.nodup_append]
    refine ⟨r.nd, by simp, fun a ha b hb z => ?_⟩
    rw [List.mem_singleton.mp hb] at z
    exact r.out hp (z ▸ ha)
  ob := fun n a u hn hu => by
    by_cases h : n < m.length
    · rw [List.getElem?_append_left h] at hn
      rw [List.getElem?_append_left (by rw [← r.len]; exact h)] at hu
      exact (r.ob n a u hn hu).mono (Ext.alloc r hp) (by
        have : a ≠ p := fun z => r.out hp (z ▸ List.mem_of_getElem? hn)
        rw [upd_ne this])
    · rw [List.getElem?_append_right (by omega)] at hn
      rw [List.getElem?_append_right (by rw [← r.len]; omega)] at hu
      have e : n - m.length = 0 := by
        have := (List.getElem?_eq_some_iff.mp hn).1
        simp at this
        exact this
      rw [e] at hn
      rw [← r.len, e] at hu
      simp at hn hu
      subst hn hu
      exact ho
theorem Ext.write (r : RelS K T m S H) {a : Addr} {o o0 : HO} (ha : a ∈ m) (h0 : H a = some o0) (nf : nfz o0 = true := by rfl) : Ext m H m (upd H a o) where
  pre := ⟨[], by simp⟩
  fr := fun b u n hb => by
    have : b ≠ a := fun z => n (by rw [z]; exact ha)
    rw [upd_ne this]; exact hb
  new := fun b h n => absurd h n
  tup := fun b vs h => by
    obtain ⟨q, hq, n1, _⟩ := r.there ha
    have : b ≠ a := fun z => by
      subst z
      rw [hq] at h
      exact n1 _ (Option.some.inj h)
    rw [upd_ne this]
    exact h
  frz := fun b c u h => by
    have : b ≠ a := fun z => by
      subst z
      rw [h0] at h
      cases h
      cases nf
    rw [upd_ne this]
    exact h
theorem RelS.write (r : RelS K T m S H) {n : Nat} {a : Addr} {o o0 : HO} {lo : LO} (hn : m[n]? = some a) (h0 : H a = some o0) (ho : RO K T m (upd H a o) a lo) (nf : nfz o0 = true := by rfl) : RelS K T m (S.set n lo) (upd H a o) where
  len := by rw [List.length_set, r.len]
  nd := r.nd
  ob := fun k b u hk hu => by
    by_cases e : k = n
    · subst e
      rw [hn] at hk
      cases hk
      have hl : k < S.length := by
        rw [← r.len]
        exact (List.getElem?_eq_some_iff.mp hn).1
      rw [List.getElem?_set_self hl] at hu
      cases hu
      exact ho
    · rw [List.getElem?_set_ne (Ne.symm e)] at hu
      have hb : b ≠ a := fun z => by
        subst z
        obtain ⟨l1, e1⟩ := List.getElem?_eq_some_iff.mp hk
        obtain ⟨l2, e2⟩ := List.getElem?_eq_some_iff.mp hn
        exact e ((List.getElem_inj r.nd).mp (e1.trans e2.symm))
      exact (r.ob k b u hk hu).mono (Ext.write r (List.mem_of_getElem? hn) h0 nf) (upd_ne hb)
theorem RelS.at (r : RelS K T m S H) {n : Nat} {a : Addr} {o : LO} (hn : m[n]? = some a) (hs : S[n]? = some o) : RO K T m H a o := r.ob n a o hn hs
theorem RelS.nil : RelS K T [] [] H := ⟨rfl, List.nodup_nil, fun n a o h => by simp at h⟩
end

/-! ### slots -/
/-- what an exception's name may hold -/
abbrev Xi := Addr → Nat → Option Addr → Prop
/-- an exception's own field, if it has one -/
def XD (K : PySem.W.Frag) (m : List Addr) (H : Hp) (fs : List LV) (d : Option Addr) : Prop :=
  (fs = [] ∧ d = none) ∨ ∃ v x dd, fs = [v] ∧ d = some dd ∧ dd ∉ m ∧ H dd = some (.xd [(("currency" : Str), x)]) ∧ RV K m H v x
theorem XD.kp {K : PySem.W.Frag} {m m' : List Addr} {H H' : Hp} {fs : List LV} {d : Option Addr} (E : Kp m H m' H') (h : XD K m H fs d) : XD K m' H' fs d := by
  rcases h with h | ⟨v, x, dd, h1, h2, h3, h4, h5⟩
  · exact .inl h
  · obtain ⟨q1, q2⟩ := E.xd dd _ h3 h4
    exact .inr ⟨v, x, dd, h1, h2, q1, q2, h5.kp E⟩
theorem XD.mono {K : PySem.W.Frag} {m m' : List Addr} {H H' : Hp} {fs : List LV} {d : Option Addr} (E : Ext m H m' H') (h : XD K m H fs d) : XD K m' H' fs d := h.kp E.kp
def RVx (K : PySem.W.Frag) (ξ : Xi) (m : List Addr) (H : Hp) : LV → V → Prop
  | .exc c fs, x => ∃ a d, x = .ref a ∧ ξ a c d ∧ XD K m H fs d
  | v, x => RV K m H v x
structure RSl (K : PySem.W.Frag) (ξ : Xi) (m : List Addr) (H : Hp) (ds : Sl) (σ : L2.St) : Prop where
  len : ds.length = σ.length
  at_ : ∀ (i : Nat) (v : LV), ds[i]? = some (some v) → ∃ x, σ[i]? = some (some x) ∧ RVx K ξ m H v x
def isX : LV → Bool
  | .exc _ _ => true
  | _ => false
section
variable {K : PySem.W.Frag} {T : Env1} {ξ : Xi} {m m' m1 m2 : List Addr} {H H' H1 H2 : Hp} {S S' S1 : Sto} {v : LV} {x : V} {ds : Sl} {σ : L2.St}
theorem RVx.of (h : RV K m H v x) : RVx K ξ m H v x := by
  cases v with
  | exc c fs => exact h.elim
  | _ => exact h
theorem RVx.un (h : RVx K ξ m H v x) (n : isX v = false) : RV K m H v x := by
  cases v with
  | exc c fs => cases n
  | _ => exact h
theorem RVx.mono (E : Ext m H m' H') (h : RVx K ξ m H v x) : RVx K ξ m' H' v x := by
  cases v with
  | exc c fs =>
    obtain ⟨a, d, h1, h2, h3⟩ := h
    exact ⟨a, d, h1, h2, h3.mono E⟩
  | _ => exact RV.mono E h
theorem RSl.mono (E : Ext m H m' H') (h : RSl K ξ m H ds σ) : RSl K ξ m' H' ds σ := ⟨h.len, fun i v e =>
  let ⟨x, q, r⟩ := h.at_ i v e
  ⟨x, q, r.mono E⟩⟩
theorem RSl.set (h : RSl K ξ m H ds σ) (i : Nat) (r : RVx K ξ m H v x) : RSl K ξ m H (ds.set i (some v)) (σ.set i (some x)) where
  len := by simp [h.len]
  at_ := fun j w e => by
    by_cases hj : j = i
    · subst hj
      by_cases hl : j < ds.length
      · rw [List.getElem?_set_self hl] at e
        cases e
        exact ⟨x, by rw [List.getElem?_set_self (by rw [← h.len]; exact hl)], r⟩
      · rw [List.getElem?_eq_none (by simpa using hl)] at e
        cases e
    · rw [List.getElem?_set_ne (Ne.symm hj)] at e ⊢
      exact h.at_ j w e
theorem RSl.start {vs : List LV} {xs : List V} {N : List Str} (h : RVs K m H vs xs) : RSl K ξ m H (vs.map some ++ List.replicate (N.length - vs.length) none) (L2.start N xs) where
  len := by simp [L2.start, h.len]
  at_ := fun i w e => by
    unfold L2.start
    by_cases hi : i < vs.length
    · rw [List.getElem?_append_left (by simpa using hi), List.getElem?_map] at e
      cases q : vs[i]? with
      | none => rw [q] at e; cases e
      | some u =>
        rw [q] at e
        cases e
        obtain ⟨y, hy, r⟩ := h.get q
        refine ⟨y, ?_, RVx.of r⟩
        rw [List.getElem?_append_left (by rw [List.length_map, ← h.len]; exact hi), List.getElem?_map, hy] <;> rfl
    · rw [List.getElem?_append_right (by simpa using hi), List.getElem?_replicate] at e
      split at e <;> cases e
end

/-! ### what is wanted -/
/-- an exception as the readings have it: its class by its code, its own dict -/
def RX (K : PySem.W.Frag) (T : Env1) (m : List Addr) (H : Hp) (c : Nat) (fs : List LV) (cls : Value) (d : Option Addr) : Prop :=
  cls = .ref (T.ca c) ∧ XD K m H fs d
def PoE (K : PySem.W.Frag) (T : Env1) (m : List Addr) (H : Hp) (r : R) (Q : VK) (W : XK) : Prop :=
  match r with
  | .ok v S => ∀ m' H' x, Ext m H m' H' → RelS K T m' S H' → RV K m' H' v x → Q x H'
  | .ex c fs S => ∀ m' H' cls d, Ext m H m' H' → RelS K T m' S H' → RX K T m' H' c fs cls d → W cls d H'
  | .no => False
def PoA (K : PySem.W.Frag) (T : Env1) (m : List Addr) (H : Hp) (r : RL) (Q : List V → Hp → Prop) (W : XK) : Prop :=
  match r with
  | .ok vs S => ∀ m' H' xs, Ext m H m' H' → RelS K T m' S H' → RVs K m' H' vs xs → Q xs H'
  | .ex c fs S => ∀ m' H' cls d, Ext m H m' H' → RelS K T m' S H' → RX K T m' H' c fs cls d → W cls d H'
  | .no => False
def PoS (K : PySem.W.Frag) (T : Env1) (ξ : Xi) (m : List Addr) (H : Hp) (r : RS) (D : Ends) (W : WX) : Prop :=
  match r with
  | .nx ds S => ∀ m' H' σ', Ext m H m' H' → RelS K T m' S H' → RSl K ξ m' H' ds σ' → D.nx σ' H'
  | .rt v S => ∀ m' H' x, Ext m H m' H' → RelS K T m' S H' → RV K m' H' v x → D.rt x H'
  | .bk ds S => ∀ m' H' σ', Ext m H m' H' → RelS K T m' S H' → RSl K ξ m' H' ds σ' → D.bk σ' H'
  | .ct ds S => ∀ m' H' σ', Ext m H m' H' → RelS K T m' S H' → RSl K ξ m' H' ds σ' → D.ct σ' H'
  | .ex c fs ds S => ∀ m' H' σ' cls d, Ext m H m' H' → RelS K T m' S H' → RSl K ξ m' H' ds σ' → RX K T m' H' c fs cls d → W cls d σ' H'
  | .no => False
def tL (K : PySem.W.Frag) (T : Env1) (ξ : Xi) (W : WX) (f : LE) : TE := fun σ H Q => ∃ m S ds, RelS K T m S H ∧ RSl K ξ m H ds σ ∧ PoE K T m H (f ds S) Q (fun cls d H' => W cls d σ H')
def tLA (K : PySem.W.Frag) (T : Env1) (ξ : Xi) (W : WX) (f : LA) : TA := fun σ H Q => ∃ m S ds, RelS K T m S H ∧ RSl K ξ m H ds σ ∧ PoA K T m H (f ds S) Q (fun cls d H' => W cls d σ H')
def tLS (K : PySem.W.Frag) (T : Env1) (ξ : Xi) (W : WX) (f : LS) : TS := fun D σ H => ∃ m S ds, RelS K T m S H ∧ RSl K ξ m H ds σ ∧ PoS K T ξ m H (f ds S) D W
/-- a def's promise -/
def spL (K : PySem.W.Frag) (T : Env1) (n : Nat) (g : Fn) : Sp := fun vs H Q E => ∃ m S xs, RelS K T m S H ∧ RVs K m H xs vs ∧ xs.length = n ∧ PoE K T m H (g xs S) Q E

section
variable {K : PySem.W.Frag} {T : Env1} {ξ : Xi} {m m' m1 m2 : List Addr} {H H' H1 H2 : Hp} {S S' S1 : Sto} {v : LV} {x : V} {ds : Sl} {σ : L2.St} {Q : VK} {W : XK} {WS : WX}
theorem PoE.mono {r : R} (E : Ext m H m1 H1) (h : PoE K T m H r Q W) : PoE K T m1 H1 r Q W := by
  cases r with
  | ok v S => exact fun m' H' x E' => h m' H' x (E.trans E')
  | ex c fs S => exact fun m' H' cls d E' => h m' H' cls d (E.trans E')
  | no => exact h
theorem PoA.mono {r : RL} {Q : List V → Hp → Prop} (E : Ext m H m1 H1) (h : PoA K T m H r Q W) : PoA K T m1 H1 r Q W := by
  cases r with
  | ok v S => exact fun m' H' x E' => h m' H' x (E.trans E')
  | ex c fs S => exact fun m' H' cls d E' => h m' H' cls d (E.trans E')
  | no => exact h
theorem PoS.mono {r : RS} {D : Ends} (E : Ext m H m1 H1) (h : PoS K T ξ m H r D WS) : PoS K T ξ m1 H1 r D WS := by
  cases r with
  | nx ds S => exact fun m' H' x E' => h m' H' x (E.trans E')
  | rt ds S => exact fun m' H' x E' => h m' H' x (E.trans E')
  | bk ds S => exact fun m' H' x E' => h m' H' x (E.trans E')
  | ct ds S => exact fun m' H' x E' => h m' H' x (E.trans E')
  | ex c fs ds S => exact fun m' H' σ' cls d E' => h m' H' σ' cls d (E.trans E')
  | no => exact h
/-- a value here and now -/
theorem PoE.here (h : PoE K T m H (.ok v S) Q W) (r : RelS K T m S H) (rv : RV K m H v x) : Q x H := h m H x Ext.refl r rv
/-- THE BIND: what goes on with a value -/
theorem PoE.bindK {r : R} {k : LV → Sto → R} (h : PoE K T m H (r.bind k) Q W) {Q2 : VK}
    (hq : ∀ v S1 m1 H1 x, Ext m H m1 H1 → RelS K T m1 S1 H1 → RV K m1 H1 v x → PoE K T m1 H1 (k v S1) Q W → Q2 x H1) : PoE K T m H r Q2 W := by
  cases r with
  | ok v S1 => exact fun m1 H1 x E r1 rv => hq v S1 m1 H1 x E r1 rv (PoE.mono E h)
  | ex c fs S1 => exact h
  | no => exact h
theorem tL.bind {f : LE} {k : LV → Sto → R} (r : RelS K T m S H) (rs : RSl K ξ m H ds σ) (h : PoE K T m H ((f ds S).bind k) Q (fun cls d H' => WS cls d σ H')) {Q2 : VK}
    (hq : ∀ v S1 m1 H1 x, Ext m H m1 H1 → RelS K T m1 S1 H1 → RSl K ξ m1 H1 ds σ → RV K m1 H1 v x → PoE K T m1 H1 (k v S1) Q (fun cls d H' => WS cls d σ H') → Q2 x H1) : tL K T ξ WS f σ H Q2 :=
  ⟨m, S, ds, r, rs, PoE.bindK h fun v S1 m1 H1 x E r1 rv h1 => hq v S1 m1 H1 x E r1 (rs.mono E) rv h1⟩
theorem tLA.bind {f : LA} {k : List LV → Sto → R} (r : RelS K T m S H) (rs : RSl K ξ m H ds σ) (h : PoE K T m H ((f ds S).bind k) Q (fun cls d H' => WS cls d σ H')) {Q2 : List V → Hp → Prop}
    (hq : ∀ v S1 m1 H1 x, Ext m H m1 H1 → RelS K T m1 S1 H1 → RSl K ξ m1 H1 ds σ → RVs K m1 H1 v x → PoE K T m1 H1 (k v S1) Q (fun cls d H' => WS cls d σ H') → Q2 x H1) : tLA K T ξ WS f σ H Q2 := by
  refine ⟨m, S, ds, r, rs, ?_⟩
  cases e : f ds S with
  | ok v S1 =>
    rw [e] at h
    exact fun m1 H1 x E r1 rv => hq v S1 m1 H1 x E r1 (rs.mono E) rv (PoE.mono E h)
  | ex c fs S1 =>
    rw [e] at h
    exact h
  | no =>
    rw [e] at h
    exact h
end
end LL


set_option Elab.async false
set_option linter.all false
set_option maxRecDepth 100000
set_option maxHeartbeats 2000000
/-! The logical layer: expressions. -/
namespace LL
open PySem PySem.Spec PyProof.Rows L2

section
variable {X : Cx} {T : Env1} {ξ : Xi} {W : WX} {e a b c : Expr} {pos : Pos} {fa fb fc : LE}
theorem pe_imp {t t' : TE} (h : PE X e t) (i : ∀ σ H Q, t' σ H Q → t σ H Q) : PE X e t' := ⟨fun pins s σ H Q I q => h.run pins s σ H Q I (i σ H Q q)⟩
theorem pt_imp {t t' : TT} (h : PT X e t) (i : ∀ σ H Q, t' σ H Q → t σ H Q) : PT X e t' := ⟨fun pins s σ H Q I q => h.run pins s σ H Q I (i σ H Q q)⟩
theorem pw_imp {t t' : TT} (h : PW X e t) (i : ∀ σ H Q, t' σ H Q → t σ H Q) : PW X e t' := ⟨fun wh pins s σ H Q I q => h.run wh pins s σ H Q I (i σ H Q q)⟩
theorem pa_imp {es : List Expr} {t t' : TA} (h : PA X es t) (i : ∀ σ H Q, t' σ H Q → t σ H Q) : PA X es t' := ⟨fun p pins s σ H Q I q => h.run p pins s σ H Q I (i σ H Q q)⟩

/-! ### names, constants -/
def lVar (i : Nat) : LE := fun ds S => match ds[i]? with
  | some (some v) => if isX v = true then .no else .ok v S
  | _ => .no
def lC (v : LV) : LE := fun _ S => .ok v S
theorem pl_var (i : Nat) {x : Str} (hN : X.N[i]? = some x := by rfl) (hv : Vis X.env.scope x := by first | exact Or.inl rfl | exact Or.inr (Or.inl rfl) | exact Or.inr (Or.inr rfl)) (hd : (x == ("__debug__" : Str)) = false := by decide)
    (hcd : (x == ("__classdict__" : Str)) = false := by decide) : PE X (.Name x pos) (tL X.K T ξ W (lVar i)) :=
  pe_imp (pe_var hN hv hd hcd) fun σ H Q ⟨m, S, ds, r, rs, h⟩ => by
    unfold lVar at h
    split at h
    · rename_i v hi
      split at h
      · exact h.elim
      · rename_i nx
        obtain ⟨x, hx, rv⟩ := rs.at_ i v hi
        exact ⟨x, hx, h.here r (rv.un (by simpa using nx))⟩
    · exact h.elim
theorem pl_c {v : LV} {x : V} (h : PE X e (tC x)) (rv : ∀ m H, RV X.K m H v x) : PE X e (tL X.K T ξ W (lC v)) :=
  pe_imp h fun σ H Q ⟨m, S, ds, r, rs, h⟩ => h.here r (rv m H)
theorem pl_int {i : Int} {j} : PE X (.Constant (.int i) j pos) (tL X.K T ξ W (lC (.int i))) := pl_c pe_int fun _ _ => rfl
theorem pl_bl {i : Bool} {j} : PE X (.Constant (.bool i) j pos) (tL X.K T ξ W (lC (.bl i))) := pl_c pe_bl fun _ _ => rfl
theorem pl_non {j} : PE X (.Constant .none j pos) (tL X.K T ξ W (lC .non)) := pl_c pe_non fun _ _ => rfl
theorem pl_str {x : Str} {j} : PE X (.Constant (.str x) j pos) (tL X.K T ξ W (lC (.str x))) := pl_c pe_str fun _ _ => rfl
/-- a module's constant -/
theorem pl_glob {x : Str} {v : LV} {y : V} {u : Value} (hg : Gl X x) (hm : X.mg x = some u) (r : RelV y u) (rv : ∀ m H, RV X.K m H v y) (hd : (x == ("__debug__" : Str)) = false := by decide) : PE X (.Name x pos) (tL X.K T ξ W (lC v)) :=
  pl_c (pe_glob hg hm r hd) rv
/-- a built-in class as a value -/
theorem pl_ty {x : Str} {n : String} (hg : Gl X x) (hm : X.mg x = none) (hv : bootBuiltins x = some (.type n)) (hn : x ≠ "__name__" := by decide) (hd : (x == ("__debug__" : Str)) = false := by decide) : PE X (.Name x pos) (tL X.K T ξ W (lC (.ty n))) :=
  pl_c (pe_bltn (v := .ty n) hg hm hv rfl hn hd) fun _ _ => rfl

/-! ### two operands -/
abbrev Op2 := LV → LV → Sto → R
def OpL (K : PySem.W.Frag) (T : Env1) (r : R2) (o : Op2) : Prop := ∀ m S H v w x y Q W, RelS K T m S H → RV K m H v x → RV K m H w y → PoE K T m H (o v w S) Q W → r x y H Q
def lOp (o : Op2) (fa fb : LE) : LE := fun ds S => (fa ds S).bind fun v S1 => (fb ds S1).bind fun w S2 => o v w S2
theorem tOp_of {r : R2} {o : Op2} (hl : OpL X.K T r o) : ∀ σ H Q, tL X.K T ξ W (lOp o fa fb) σ H Q → tOp r (tL X.K T ξ W fa) (tL X.K T ξ W fb) σ H Q :=
  fun σ H Q ⟨m, S, ds, r0, rs, h⟩ => tL.bind r0 rs h fun v S1 m1 H1 x E r1 rs1 rv h1 => tL.bind r1 rs1 h1 fun w S2 m2 H2 y E2 r2 rs2 rw h2 => hl _ _ _ _ _ _ _ _ _ r2 (rv.mono E2) rw h2
theorem pl_bin {op : Operator} {r : R2} {o : Op2} (ho : OpR X (binaryOp op) r) (hl : OpL X.K T r o) (ha : PE X a (tL X.K T ξ W fa)) (hb : PE X b (tL X.K T ξ W fb)) : PE X (.BinOp a op b pos) (tL X.K T ξ W (lOp o fa fb)) :=
  pe_imp (pe_op ho ha hb) (tOp_of hl)
theorem pl_cmp {op : CmpOp} {r : R2} {o : Op2} (ho : OpR X (compareOp op) r) (hl : OpL X.K T r o) (ha : PE X a (tL X.K T ξ W fa)) (hb : PE X b (tL X.K T ξ W fb)) (hm : behindInMarks op b = false := by first | exact nomark _ | rfl) :
    PE X (.Compare a [op] [b] pos) (tL X.K T ξ W (lOp o fa fb)) := pe_imp (pe_cmpR ho ha hb hm) (tOp_of hl)
theorem tt_cmp {op : CmpOp} {r : R2} {o : Op2} (ho : OpR X (compareOp op) r) (hl : OpL X.K T r o) (ha : PE X a (tL X.K T ξ W fa)) (hb : PE X b (tL X.K T ξ W fb)) (hm : behindInMarks op b = false := by first | exact nomark _ | rfl) :
    PT X (.Compare a [op] [b] pos) (tTest (tL X.K T ξ W (lOp o fa fb))) := pt_imp (pt_cmpR ho ha hb hm) fun σ H Q h => tOp_of hl σ H _ h
/-- a < b < c -/
def chK (r : LV → Sto → R) : LV → Sto → R
  | .bl true, S => r (.bl true) S
  | .bl false, S => .ok (.bl false) S
  | _, _ => .no
def lChain (o o' : Op2) (fa fb fc : LE) : LE := fun ds S => (fa ds S).bind fun v S1 => (fb ds S1).bind fun w S2 => (o v w S2).bind (chK fun _ S3 => (fc ds S3).bind fun u S4 => o' w u S4)
theorem OpL.bindK {K : PySem.W.Frag} {m : List Addr} {S : Sto} {H : Hp} {r : R2} {o : Op2} (hl : OpL K T r o) {v w : LV} {x y : V} {Q : VK} {W : XK} {k : LV → Sto → R} (r0 : RelS K T m S H) (rv : RV K m H v x) (rw : RV K m H w y) (h : PoE K T m H ((o v w S).bind k) Q W) {Q2 : VK}
    (hq : ∀ v S1 m1 H1 x, Ext m H m1 H1 → RelS K T m1 S1 H1 → RV K m1 H1 v x → PoE K T m1 H1 (k v S1) Q W → Q2 x H1) : r x y H Q2 := hl _ _ _ _ _ _ _ _ _ r0 rv rw (PoE.bindK h hq)
theorem tChain_of {r r' : R2} {o o' : Op2} (hl : OpL X.K T r o) (hl' : OpL X.K T r' o') : ∀ σ H Q, tL X.K T ξ W (lChain o o' fa fb fc) σ H Q → tChain r r' (tL X.K T ξ W fa) (tL X.K T ξ W fb) (tL X.K T ξ W fc) σ H Q :=
  fun σ H Q ⟨m, S, ds, r0, rs, h⟩ => tL.bind r0 rs h fun v S1 m1 H1 x E r1 rs1 rv h1 => tL.bind r1 rs1 h1 fun w S2 m2 H2 y E2 r2 rs2 rw h2 => hl.bindK r2 (rv.mono E2) rw h2 fun z S3 m3 H3 zx E3 r3 rz h3 => by
    cases z with
    | bl k =>
      refine ⟨k, rz, ?_⟩
      cases k with
      | true =>
        show tL X.K T ξ W fc σ H3 _
        exact tL.bind r3 (rs2.mono E3) h3 fun u S4 m4 H4 ux E4 r4 rs4 ru h4 => hl' _ _ _ _ _ _ _ _ _ r4 ((rw.mono E3).mono E4) ru h4
      | false => exact h3.here r3 rfl
    | _ => exact h3.elim
theorem pl_chain {op op' : CmpOp} {r r' : R2} {o o' : Op2} (ho : OpR X (compareOp op) r) (hl : OpL X.K T r o) (ho' : OpR X (compareOp op') r') (hl' : OpL X.K T r' o') (ha : PE X a (tL X.K T ξ W fa)) (hb : PE X b (tL X.K T ξ W fb)) (hc : PE X c (tL X.K T ξ W fc))
    (hm : lastMarks [op, op'] [b, c] = false := by with_unfolding_all rfl) : PE X (.Compare a [op, op'] [b, c] pos) (tL X.K T ξ W (lChain o o' fa fb fc)) := pe_imp (pe_chain ho ho' ha hb hc hm) (tChain_of hl hl')
theorem tt_chain {op op' : CmpOp} {r r' : R2} {o o' : Op2} (ho : OpR X (compareOp op) r) (hl : OpL X.K T r o) (ho' : OpR X (compareOp op') r') (hl' : OpL X.K T r' o') (ha : PE X a (tL X.K T ξ W fa)) (hb : PE X b (tL X.K T ξ W fb)) (hc : PE X c (tL X.K T ξ W fc))
    (hm : lastMarks [op, op'] [b, c] = false := by with_unfolding_all rfl) : PT X (.Compare a [op, op'] [b, c] pos) (tTest (tL X.K T ξ W (lChain o o' fa fb fc))) := pt_imp (pt_chain ho ho' ha hb hc hm) fun σ H Q h => tChain_of hl hl' σ H _ h

/-! ### one operand -/
abbrev Op1 := LV → Sto → R
def UnL (K : PySem.W.Frag) (T : Env1) (r : V → Hp → VK → Prop) (o : Op1) : Prop := ∀ m S H v x Q W, RelS K T m S H → RV K m H v x → PoE K T m H (o v S) Q W → r x H Q
def lUn (o : Op1) (fa : LE) : LE := fun ds S => (fa ds S).bind o
theorem pl_un {op : UnaryOp} {r : V → Hp → VK → Prop} {o : Op1} (ho : UnR X (unaryOp op) r) (hl : UnL X.K T r o) (ha : PE X a (tL X.K T ξ W fa)) : PE X (.UnaryOp op a pos) (tL X.K T ξ W (lUn o fa)) :=
  pe_imp (pe_un ho ha) fun σ H Q ⟨m, S, ds, r0, rs, h⟩ => tL.bind r0 rs h fun v S1 m1 H1 x E r1 rs1 rv h1 => hl _ _ _ _ _ _ _ r1 rv h1
def negL : Op1
  | .int i, S => .ok (.int (-i)) S
  | _, _ => .no
theorem ul_neg {K : PySem.W.Frag} : UnL K T (rU fun i => .int (-i)) negL := fun m S H v x Q W r rv h => by
  cases v with
  | int i => exact ⟨i, rv, h.here r rfl⟩
  | _ => exact h.elim
theorem pl_neg (ha : PE X a (tL X.K T ξ W fa)) : PE X (.UnaryOp .USub a pos) (tL X.K T ξ W (lUn negL fa)) := pl_un un_neg ul_neg ha

/-! ### and, or, not, if -/
def andK (r : Sto → R) : LV → Sto → R
  | .bl true, S => r S
  | .bl false, S => .ok (.bl false) S
  | _, _ => .no
def orK (r : Sto → R) : LV → Sto → R
  | .bl true, S => .ok (.bl true) S
  | .bl false, S => r S
  | _, _ => .no
def notK : LV → Sto → R
  | .bl b, S => .ok (.bl !b) S
  | _, _ => .no
def iteK (r r' : Sto → R) : LV → Sto → R
  | .bl true, S => r S
  | .bl false, S => r' S
  | _, _ => .no
def lAnd (fa fb : LE) : LE := fun ds S => (fa ds S).bind (andK fun S1 => fb ds S1)
def lOr (fa fb : LE) : LE := fun ds S => (fa ds S).bind (orK fun S1 => fb ds S1)
def lNot (fa : LE) : LE := fun ds S => (fa ds S).bind notK
def lIte (fc fa fb : LE) : LE := fun ds S => (fc ds S).bind (iteK (fun S1 => fa ds S1) fun S1 => fb ds S1)
variable {rest : List Expr}
theorem pl_one {op} (h : PE X a (tL X.K T ξ W fa)) : PE X (.BoolOp op [a] pos) (tL X.K T ξ W fa) := pe_one h
theorem pl_and (ha : PE X a (tL X.K T ξ W fa)) (hb : PE X (.BoolOp .And (b :: rest) pos) (tL X.K T ξ W fb)) : PE X (.BoolOp .And (a :: b :: rest) pos) (tL X.K T ξ W (lAnd fa fb)) :=
  pe_imp (pe_and ha hb) fun σ H Q ⟨m, S, ds, r0, rs, h⟩ => tL.bind r0 rs h fun v S1 m1 H1 x E r1 rs1 rv h1 => by
    cases v with
    | bl k =>
      refine ⟨k, rv, ?_⟩
      cases k with
      | true => exact ⟨_, _, _, r1, rs1, h1⟩
      | false => exact h1.here r1 rfl
    | _ => exact h1.elim
theorem pl_or (ha : PE X a (tL X.K T ξ W fa)) (hb : PE X (.BoolOp .Or (b :: rest) pos) (tL X.K T ξ W fb)) : PE X (.BoolOp .Or (a :: b :: rest) pos) (tL X.K T ξ W (lOr fa fb)) :=
  pe_imp (pe_or ha hb) fun σ H Q ⟨m, S, ds, r0, rs, h⟩ => tL.bind r0 rs h fun v S1 m1 H1 x E r1 rs1 rv h1 => by
    cases v with
    | bl k =>
      refine ⟨k, rv, ?_⟩
      cases k with
      | true => exact h1.here r1 rfl
      | false => exact ⟨_, _, _, r1, rs1, h1⟩
    | _ => exact h1.elim
theorem pl_not (ha : PE X a (tL X.K T ξ W fa)) : PE X (.UnaryOp .Not a pos) (tL X.K T ξ W (lNot fa)) :=
  pe_imp (pe_not ha) fun σ H Q ⟨m, S, ds, r0, rs, h⟩ => tL.bind r0 rs h fun v S1 m1 H1 x E r1 rs1 rv h1 => by
    cases v with
    | bl k => exact ⟨k, rv, h1.here r1 rfl⟩
    | _ => exact h1.elim
/-- a value that is True or False, as a test -/
theorem tt_val (h : PE X e (tL X.K T ξ W fa)) (he : ∀ whole, isTrue e X.env whole = (do let v ← whole; standAt e.pos; holding [v] (truthy v)) := by intro _; rfl) : PT X e (tTest (tL X.K T ξ W fa)) := pt_val h he
theorem tw_and1 (ha : PT X a (tTest (tL X.K T ξ W fa))) : PW X (.BoolOp .And [a] pos) (tTest (tL X.K T ξ W fa)) := pw_and1 ha
theorem tw_or1 (ha : PT X a (tTest (tL X.K T ξ W fa))) : PW X (.BoolOp .Or [a] pos) (tTest (tL X.K T ξ W fa)) := pw_or1 ha
theorem tw_and (ha : PT X a (tTest (tL X.K T ξ W fa))) (hb : PW X (.BoolOp .And (b :: rest) pos) (tTest (tL X.K T ξ W fb))) : PW X (.BoolOp .And (a :: b :: rest) pos) (tTest (tL X.K T ξ W (lAnd fa fb))) :=
  pw_imp (pw_and ha hb) fun σ H Q ⟨m, S, ds, r0, rs, h⟩ => tL.bind r0 rs h fun v S1 m1 H1 x E r1 rs1 rv h1 => by
    cases v with
    | bl k =>
      refine ⟨k, rv, ?_⟩
      cases k with
      | true => exact ⟨_, _, _, r1, rs1, h1⟩
      | false =>
        obtain ⟨k, e, q⟩ := h1.here r1 rfl
        cases e
        exact q
    | _ => exact h1.elim
theorem tw_or (ha : PT X a (tTest (tL X.K T ξ W fa))) (hb : PW X (.BoolOp .Or (b :: rest) pos) (tTest (tL X.K T ξ W fb))) : PW X (.BoolOp .Or (a :: b :: rest) pos) (tTest (tL X.K T ξ W (lOr fa fb))) :=
  pw_imp (pw_or ha hb) fun σ H Q ⟨m, S, ds, r0, rs, h⟩ => tL.bind r0 rs h fun v S1 m1 H1 x E r1 rs1 rv h1 => by
    cases v with
    | bl k =>
      refine ⟨k, rv, ?_⟩
      cases k with
      | true =>
        obtain ⟨k, e, q⟩ := h1.here r1 rfl
        cases e
        exact q
      | false => exact ⟨_, _, _, r1, rs1, h1⟩
    | _ => exact h1.elim
theorem tt_w (h : PW X e (tTest (tL X.K T ξ W fa))) : PT X e (tTest (tL X.K T ξ W fa)) := h.pt
theorem tt_not (ha : PT X a (tTest (tL X.K T ξ W fa))) : PT X (.UnaryOp .Not a pos) (tTest (tL X.K T ξ W (lNot fa))) :=
  pt_imp (pt_not ha) fun σ H Q ⟨m, S, ds, r0, rs, h⟩ => tL.bind r0 rs h fun v S1 m1 H1 x E r1 rs1 rv h1 => by
    cases v with
    | bl k =>
      obtain ⟨k', e, q⟩ := h1.here r1 rfl
      cases e
      exact ⟨k, rv, q⟩
    | _ => exact h1.elim
theorem pl_ite (hc : PT X c (tTest (tL X.K T ξ W fc))) (ha : PE X a (tL X.K T ξ W fa)) (hb : PE X b (tL X.K T ξ W fb)) : PE X (.IfExp c a b pos) (tL X.K T ξ W (lIte fc fa fb)) :=
  pe_imp (pe_ifExp hc ha hb) fun σ H Q ⟨m, S, ds, r0, rs, h⟩ => tL.bind r0 rs h fun v S1 m1 H1 x E r1 rs1 rv h1 => by
    cases v with
    | bl k =>
      refine ⟨k, rv, ?_⟩
      cases k with
      | true => exact ⟨_, _, _, r1, rs1, h1⟩
      | false => exact ⟨_, _, _, r1, rs1, h1⟩
    | _ => exact h1.elim

/-! ### arguments -/
def lNil : LA := fun _ S => .ok [] S
def consK (v : LV) : RL → RL
  | .ok vs S => .ok (v :: vs) S
  | .ex c fs S => .ex c fs S
  | .no => .no
def lCons (fa : LE) (fr : LA) : LA := fun ds S => match fa ds S with
  | .ok v S1 => consK v (fr ds S1)
  | .ex c fs S1 => .ex c fs S1
  | .no => .no
theorem pl_nil : PA X [] (tLA X.K T ξ W lNil) := pa_imp pa_nil fun σ H Q ⟨m, S, ds, r0, rs, h⟩ => h m H [] Ext.refl r0 RVs.nil
theorem pl_cons {es : List Expr} {fr : LA} (ha : PE X e (tL X.K T ξ W fa)) (hr : PA X es (tLA X.K T ξ W fr)) (hs : starEach (e :: es) X.env = (false, eval e X.env) :: starEach es X.env := by rfl) : PA X (e :: es) (tLA X.K T ξ W (lCons fa fr)) :=
  pa_imp (pa_cons ha hr hs) fun σ H Q ⟨m, S, ds, r0, rs, h⟩ => by
    refine ⟨m, S, ds, r0, rs, ?_⟩
    unfold lCons at h
    cases e : fa ds S with
    | ok v S1 =>
      rw [e] at h
      intro m1 H1 x E r1 rv
      refine ⟨m1, S1, ds, r1, rs.mono E, ?_⟩
      have h1 := PoA.mono E h
      cases e2 : fr ds S1 with
      | ok vs S2 =>
        simp only [e2, consK] at h1
        exact fun m2 H2 xs E2 r2 rv2 => h1 m2 H2 _ E2 r2 (RVs.cons (rv.mono E2) rv2)
      | ex c fs S2 =>
        simp only [e2, consK] at h1
        exact h1
      | no =>
        simp only [e2, consK] at h1
        exact h1
    | ex c fs S1 =>
      rw [e] at h
      exact h
    | no =>
      rw [e] at h
      exact h

/-! ### tuples, lists -/
def small (n : Nat) : Bool := decide (n ≤ 16777216)
theorem small_ok {n : Nat} (h : small n = true) : n ≤ sizeLine := by
  rw [sizeLine_eq]
  exact of_decide_eq_true h
def mkTup (vs : List LV) (S : Sto) : R := if small vs.length = true then .ok (.tup vs) S else .no
/-- a new list: with a number (t), or one that nobody changes -/
def newL (t : Bool) (vs : List LV) (S : Sto) : R := if t = true then .ok (.ref S.length) (S ++ [.lst vs]) else .ok (.lst vs) S
def mkLst (t : Bool) (vs : List LV) (S : Sto) : R := if small vs.length = true then newL t vs S else .no
def lTup (fa : LA) : LE := fun ds S => (fa ds S).bind mkTup
def lLst (fa : LA) : LE := fun ds S => (fa ds S).bind (mkLst false)
def lLsT (fa : LA) : LE := fun ds S => (fa ds S).bind (mkLst true)
/-- a new tuple; a new list -/
theorem fin_tup {K : PySem.W.Frag} {m : List Addr} {S : Sto} {H : Hp} {vs : List LV} {xs : List V} {Q : VK} {W : XK} (r : RelS K T m S H) (rv : RVs K m H vs xs) (h : PoE K T m H (.ok (.tup vs) S) Q W) : ∀ p, H p = none → Q (.ref p) (upd H p (.tup xs)) := fun p hp => by
  have E : Ext m H m (upd H p (.tup xs)) := Ext.side hp
  refine h m _ _ E (r.side hp) ?_
  unfold RV
  exact ⟨p, xs, rfl, upd_same, rv.mono E⟩
theorem fin_lst {K : PySem.W.Frag} {m : List Addr} {S : Sto} {H : Hp} {vs : List LV} {xs : List V} {Q : VK} {W : XK} (r : RelS K T m S H) (rv : RVs K m H vs xs) (h : PoE K T m H (.ok (.ref S.length) (S ++ [.lst vs])) Q W) : ∀ p, H p = none → Q (.ref p) (upd H p (.lst xs)) := fun p hp => by
  have E : Ext m H (m ++ [p]) (upd H p (.lst xs)) := Ext.alloc r hp
  refine h _ _ _ E (r.alloc hp ⟨xs, upd_same, rv.mono E⟩) ?_
  unfold RV
  exact ⟨p, rfl, by rw [← r.len, List.getElem?_append_right (Nat.le_refl _), Nat.sub_self] <;> rfl⟩
theorem fin_frz {K : PySem.W.Frag} {m : List Addr} {S : Sto} {H : Hp} {vs : List LV} {xs : List V} {Q : VK} {W : XK} (r : RelS K T m S H) (rv : RVs K m H vs xs) (h : PoE K T m H (.ok (.lst vs) S) Q W) : ∀ p, H p = none → Q (.ref p) (upd H p (.lst xs)) := fun p hp => by
  have E : Ext m H m (upd H p (.lst xs)) := Ext.side hp
  refine h m _ _ E (r.side hp) ?_
  unfold RV
  exact ⟨p, xs, rfl, r.out hp, upd_same, rv.mono E⟩
theorem fin_new {K : PySem.W.Frag} {m : List Addr} {S : Sto} {H : Hp} {t : Bool} {vs : List LV} {xs : List V} {Q : VK} {W : XK} (r : RelS K T m S H) (rv : RVs K m H vs xs) (h : PoE K T m H (newL t vs S) Q W) : ∀ p, H p = none → Q (.ref p) (upd H p (.lst xs)) := by
  cases t with
  | true => exact fin_lst r rv h
  | false => exact fin_frz r rv h
theorem pl_tup {es : List Expr} {fr : LA} {x1} (ha : PA X es (tLA X.K T ξ W fr)) : PE X (.Tuple es x1 pos) (tL X.K T ξ W (lTup fr)) :=
  pe_imp (pe_tup ha) fun σ H Q ⟨m, S, ds, r0, rs, h⟩ => tLA.bind r0 rs h fun vs S1 m1 H1 xs E r1 rs1 rv h1 => by
    unfold mkTup at h1
    split at h1
    · rename_i hz
      exact ⟨by rw [← rv.len]; exact small_ok hz, fin_tup r1 rv h1⟩
    · exact h1.elim
theorem lst_read {es : List Expr} {fr : LA} {t : Bool} (ha : PA X es (tLA X.K T ξ W fr)) : PE X (.List es pos) (tL X.K T ξ W (fun ds S => (fr ds S).bind (mkLst t))) :=
  pe_imp (pe_lst ha) fun σ H Q ⟨m, S, ds, r0, rs, h⟩ => tLA.bind r0 rs h fun vs S1 m1 H1 xs E r1 rs1 rv h1 => by
    unfold mkLst at h1
    split at h1
    · rename_i hz
      exact ⟨by rw [← rv.len]; exact small_ok hz, fin_new r1 rv h1⟩
    · exact h1.elim
theorem pl_lst {es : List Expr} {fr : LA} (ha : PA X es (tLA X.K T ξ W fr)) : PE X (.List es pos) (tL X.K T ξ W (lLst fr)) := lst_read ha
theorem pl_lsT {es : List Expr} {fr : LA} (ha : PA X es (tLA X.K T ξ W fr)) : PE X (.List es pos) (tL X.K T ξ W (lLsT fr)) := lst_read ha
end
end LL


set_option Elab.async false
set_option linter.all false
set_option maxRecDepth 100000
set_option maxHeartbeats 2000000
/-! The logical layer: what the operators do. -/
namespace LL
open PySem PySem.Spec PyProof.Rows L2

/-! ### numbers -/
def bigB : Int := 10 ^ 70
def okMul (i j : Int) : Bool := (decide (-(2 ^ 64) < i) && decide (i < 2 ^ 64)) || (decide (-(2 ^ 64) < j) && decide (j < 2 ^ 64)) || (decide (-bigB ≤ i) && decide (i ≤ bigB) && decide (-bigB ≤ j) && decide (j ≤ bigB))
def okDiv (j : Int) : Bool := decide (0 < j) && decide (j ≤ bigB)
def okPow (i j : Int) : Bool := decide (0 ≤ j) && decide (j ≤ 1000000) && decide (i.natAbs < 2 ^ 64)
theorem bigB_lt {i : Int} (h : -bigB ≤ i) (h2 : i ≤ bigB) : i.natAbs < 2 ^ 240 := by
  unfold bigB at h h2
  have e : ((10 : Int) ^ 70).natAbs < 2 ^ 240 := by decide
  have : i.natAbs ≤ ((10 : Int) ^ 70).natAbs := by omega
  omega
section
variable {K : PySem.W.Frag} {T : Env1}
/-- what a list holds -/
def lsO (v : LV) (S : Sto) : Option (List LV) := match v with
  | .lst xs => some xs
  | .ref n => match S[n]? with
    | some (.lst xs) => some xs
    | _ => none
  | _ => none
def addG (t : Bool) (v w : LV) (S : Sto) : R := match v, w with
  | .int i, .int j => .ok (.int (i + j)) S
  | .str a, .str b => if small (a.length + b.length) = true then .ok (.str (a ++ b)) S else .no
  | .tup xs, .tup ys => if small (xs.length + ys.length) = true then .ok (.tup (xs ++ ys)) S else .no
  | v, w => match lsO v S, lsO w S with
    | some xs, some ys => if small (xs.length + ys.length) = true then newL t (xs ++ ys) S else .no
    | _, _ => .no
abbrev addL : Op2 := addG false
abbrev addT : Op2 := addG true
def rAddU (K : PySem.W.Frag) : R2 := fun x y H Q => (rI0 (fun i j => .int (i + j)) x y H Q ∨ (∃ i j, x = .str i ∧ y = .str j ∧ i.length + j.length ≤ sizeLine ∧ Q (.str (i ++ j)) H)) ∨ (rCatA K x y H Q ∨ rCat x y H Q)
theorem op_addU {X : Cx} : OpR X (binaryOp .Add) (rAddU X.K) := OpR.or (OpR.or op_add op_add_str) (OpR.or op_catA op_cat)
theorem RV.lst {m : List Addr} {S : Sto} {H : Hp} {n : Nat} {x : V} {xs : List LV} (r : RelS K T m S H) (rv : RV K m H (.ref n) x) (e : S[n]? = some (.lst xs)) : ∃ a vs, x = .ref a ∧ m[n]? = some a ∧ H a = some (.lst vs) ∧ RVs K m H xs vs := by
  unfold RV at rv
  obtain ⟨a, ex, hn⟩ := rv
  obtain ⟨vs, h1, h2⟩ := r.at hn e
  exact ⟨a, vs, ex, hn, h1, h2⟩
theorem RV.lstE {m : List Addr} {H : Hp} {x : V} {xs : List LV} (rv : RV K m H (.lst xs) x) : ∃ a vs, x = .ref a ∧ a ∉ m ∧ H a = some (.lst vs) ∧ RVs K m H xs vs := by
  unfold RV at rv
  exact rv
theorem lsO_ok {m : List Addr} {S : Sto} {H : Hp} {v : LV} {x : V} {xs : List LV} (r : RelS K T m S H) (rv : RV K m H v x) (e : lsO v S = some xs) : ∃ a vs, x = .ref a ∧ H a = some (.lst vs) ∧ RVs K m H xs vs := by
  unfold lsO at e
  split at e
  · cases e
    obtain ⟨a, vs, e, _, h, hs⟩ := rv.lstE
    exact ⟨a, vs, e, h, hs⟩
  · split at e
    · rename_i hn
      cases e
      obtain ⟨a, vs, e, _, h, hs⟩ := rv.lst r hn
      exact ⟨a, vs, e, h, hs⟩
    · cases e
  · cases e
theorem RV.tupE {m : List Addr} {H : Hp} {x : V} {xs : List LV} (rv : RV K m H (.tup xs) x) : ∃ a vs, x = .ref a ∧ H a = some (.tup vs) ∧ RVs K m H xs vs := by
  unfold RV at rv
  exact rv
theorem RVs.nilE {m : List Addr} {H : Hp} {vs : List V} (h : RVs K m H [] vs) : vs = [] := by
  unfold RVs at h
  exact h
theorem RVs.isNil {m : List Addr} {H : Hp} {xs : List LV} {vs : List V} (h : RVs K m H xs vs) : vs = [] ↔ xs = [] := by
  have e := h.len
  constructor
  · intro z; rw [z] at e; exact List.eq_nil_of_length_eq_zero e
  · intro z; rw [z] at e; exact List.eq_nil_of_length_eq_zero e.symm
theorem ol_add {t : Bool} : OpL K T (rAddU K) (addG t) := fun m S H v w x y Q W r rv rw h => by
  unfold addG at h
  split at h
  · exact .inl (.inl ⟨_, _, rv, rw, h.here r rfl⟩)
  · split at h
    · rename_i hz
      exact .inl (.inr ⟨_, _, rv, rw, small_ok hz, h.here r rfl⟩)
    · exact h.elim
  · split at h
    · rename_i xs ys hz
      obtain ⟨a, vs, rfl, ha, hs⟩ := rv.tupE
      obtain ⟨b, ws, rfl, hb, ht⟩ := rw.tupE
      refine .inr (.inl ⟨a, b, vs, ws, rfl, rfl, SqT.of ha, SqT.of hb, by rw [← hs.len, ← ht.len]; exact small_ok hz, fun e => ?_, fun _ e => ?_, fun _ _ => fin_tup r (hs.append ht) h⟩)
      · have : xs = [] := hs.isNil.mp e
        subst this
        exact h.here r (by unfold RV; exact ⟨b, ws, rfl, hb, ht⟩)
      · have : ys = [] := ht.isNil.mp e
        subst this
        exact h.here r (by unfold RV; exact ⟨a, vs, rfl, ha, by rw [List.append_nil]; exact hs⟩)
    · exact h.elim
  · split at h
    · rename_i xs ys e1 e2
      split at h
      · rename_i hz
        obtain ⟨a, vs, rfl, ha, hs⟩ := lsO_ok r rv e1
        obtain ⟨b, ws, rfl, hb, ht⟩ := lsO_ok r rw e2
        exact .inr (.inr ⟨a, b, vs, ws, rfl, rfl, ha, hb, by rw [← hs.len, ← ht.len]; exact small_ok hz, fin_new r (hs.append ht) h⟩)
      · exact h.elim
    · exact h.elim
def subL : Op2
  | .int i, .int j, S => .ok (.int (i - j)) S
  | _, _, _ => .no
theorem ol_sub : OpL K T (rI0 fun i j => .int (i - j)) subL := fun m S H v w x y Q W r rv rw h => by
  unfold subL at h
  split at h
  · exact ⟨_, _, rv, rw, h.here r rfl⟩
  · exact h.elim
def okRep (n : Nat) (k : Int) : Bool := decide (-1000 ≤ k) && decide (k ≤ 100000) && decide (n * k.toNat ≤ 100000)
def mulG (t : Bool) (v w : LV) (S : Sto) : R := match v, w with
  | .int i, .int j => if okMul i j = true then .ok (.int (i * j)) S else .no
  | .str a, .int k => if okRep a.length k = true then .ok (.str (Txt.mul a k)) S else .no
  | v, .int k => match lsO v S with
    | some xs => if okRep xs.length k = true then newL t (List.replicate k.toNat xs).flatten S else .no
    | none => .no
  | _, _ => .no
abbrev mulL : Op2 := mulG false
abbrev mulT : Op2 := mulG true
def rMulU : R2 := fun x y H Q => (rI CMul (fun i j => .int (i * j)) x y H Q ∨ rI CMulW (fun i j => .int (i * j)) x y H Q) ∨ ((∃ a k, x = .str a ∧ y = .int k ∧ MulOk a k ∧ Q (.str (Txt.mul a k)) H) ∨ rRep x y H Q)
theorem op_mul_str {X : Cx} : OpR X (binaryOp .Mult) (fun x y H Q => ∃ a k, x = .str a ∧ y = .int k ∧ MulOk a k ∧ Q (.str (Txt.mul a k)) H) := by
  intro pins s σ H x y v u Q I rx ry h
  obtain ⟨a, k, rfl, rfl, hk, q⟩ := h
  obtain ⟨t, rfl⟩ := rx
  obtain ⟨t', rfl⟩ := ry
  exact SB.mul hk fun t2 k2 => ⟨.str _, H, I.tok _, ⟨_, rfl⟩, q⟩
theorem op_mulU {X : Cx} : OpR X (binaryOp .Mult) rMulU := OpR.or (OpR.or op_mul op_mulW) (OpR.or op_mul_str op_rep)
theorem mulOk_of {a : Str} {k : Int} (h : okRep a.length k = true) : MulOk a k := by
  simp only [okRep, Bool.and_eq_true, decide_eq_true_eq] at h
  obtain ⟨⟨h1, h2⟩, h3⟩ := h
  refine ⟨by rw [Bool.or_eq_false_iff]; exact ⟨decide_eq_false (by omega), decide_eq_false (by omega)⟩, fun h4 h5 => ?_, fun h4 h5 => ?_⟩
  · have hk : 0 < k := by omega
    have e : k = (k.toNat : Int) := by omega
    have hl : (a.length : Int) * k ≤ 100000 := by
      rw [e]
      have h7 : ((a.length * k.toNat : Nat) : Int) ≤ 100000 := Int.ofNat_le.mpr h3
      rw [Int.natCast_mul] at h7
      exact h7
    intro hgt
    have : (2 ^ 63 - 1 : Int) / k < a.length := hgt
    have h6 := Int.lt_mul_of_ediv_lt hk this
    omega
  · unfold Builtin.Str.tooLong
    refine decide_eq_false ?_
    rw [sizeLine_eq]
    omega
theorem ol_mul {t : Bool} : OpL K T rMulU (mulG t) := fun m S H v w x y Q W r rv rw h => by
  unfold mulG at h
  split at h
  · rename_i i j
    split at h
    · rename_i hz
      have q := h.here r (x := .int (i * j)) rfl
      simp only [okMul, Bool.or_eq_true, Bool.and_eq_true, decide_eq_true_eq] at hz
      rcases hz with (hz | hz) | hz
      · exact .inl (.inl ⟨i, j, rv, rw, .inl hz, q⟩)
      · exact .inl (.inl ⟨i, j, rv, rw, .inr hz, q⟩)
      · obtain ⟨⟨⟨a1, a2⟩, a3⟩, a4⟩ := hz
        exact .inl (.inr ⟨i, j, rv, rw, wide_mul (bigB_lt a1 a2) (bigB_lt a3 a4) (by decide) (by decide) (by decide), q⟩)
    · exact h.elim
  · split at h
    · rename_i hz
      exact .inr (.inl ⟨_, _, rv, rw, mulOk_of hz, h.here r rfl⟩)
    · exact h.elim
  · rename_i k _ _
    split at h
    · rename_i xs e1
      split at h
      · rename_i hz
        simp only [okRep, Bool.and_eq_true, decide_eq_true_eq] at hz
        obtain ⟨⟨h1, h2⟩, h3⟩ := hz
        obtain ⟨a, vs, rfl, ha, hs⟩ := lsO_ok r rv e1
        refine .inr (.inr ⟨a, k, vs, rfl, rw, ha, by omega, by omega, by rw [← hs.len, sizeLine_eq]; omega, ?_⟩)
        refine fin_new r ?_ h
        generalize k.toNat = j
        induction j with
        | zero => exact RVs.nil
        | succ j ih =>
          rw [List.replicate_succ, List.replicate_succ, List.flatten_cons, List.flatten_cons]
          exact hs.append ih
      · exact h.elim
    · exact h.elim
  · exact h.elim
def divL : Op2
  | .int i, .int j, S => if okDiv j = true then .ok (.int (i / j)) S else .no
  | _, _, _ => .no
theorem ol_div : OpL K T (rI CDivW fun i j => .int (i / j)) divL := fun m S H v w x y Q W r rv rw h => by
  unfold divL at h
  split at h
  · split at h
    · rename_i hz
      simp only [okDiv, Bool.and_eq_true, decide_eq_true_eq] at hz
      exact ⟨_, _, rv, rw, wide_div hz.1 (bigB_lt (by unfold bigB; omega) hz.2) (by decide) (by decide), h.here r rfl⟩
    · exact h.elim
  · exact h.elim
def modL : Op2
  | .int i, .int j, S => if 0 < j then .ok (.int (i % j)) S else .no
  | _, _, _ => .no
theorem ol_mod : OpL K T (rI (fun _ j => 0 < j) fun i j => .int (i % j)) modL := fun m S H v w x y Q W r rv rw h => by
  unfold modL at h
  split at h
  · split at h
    · rename_i hz
      exact ⟨_, _, rv, rw, hz, h.here r rfl⟩
    · exact h.elim
  · exact h.elim
def powL : Op2
  | .int i, .int j, S => if okPow i j = true then .ok (.int (i ^ j.toNat)) S else .no
  | _, _, _ => .no
theorem ol_pow : OpL K T (rI CPow fun i j => .int (i ^ j.toNat)) powL := fun m S H v w x y Q W r rv rw h => by
  unfold powL at h
  split at h
  · split at h
    · rename_i hz
      simp only [okPow, Bool.and_eq_true, decide_eq_true_eq] at hz
      exact ⟨_, _, rv, rw, ⟨hz.1.1, hz.1.2, hz.2⟩, h.here r rfl⟩
    · exact h.elim
  · exact h.elim

/-! ### order -/
def sLt (a b : Str) : Bool := decide (a.cps.toList < b.cps.toList)
def ltL : Op2
  | .int i, .int j, S => .ok (.bl (decide (i < j))) S
  | .str a, .str b, S => .ok (.bl (sLt a b)) S
  | _, _, _ => .no
def leL : Op2
  | .int i, .int j, S => .ok (.bl (decide (i ≤ j))) S
  | .str a, .str b, S => .ok (.bl (!sLt b a)) S
  | _, _, _ => .no
def gtL : Op2
  | .int i, .int j, S => .ok (.bl (decide (j < i))) S
  | .str a, .str b, S => .ok (.bl (sLt b a)) S
  | _, _, _ => .no
def geL : Op2
  | .int i, .int j, S => .ok (.bl (decide (j ≤ i))) S
  | .str a, .str b, S => .ok (.bl (!sLt a b)) S
  | _, _, _ => .no
def rLtU : R2 := fun x y H Q => rI0 (fun i j => .bl (decide (i < j))) x y H Q ∨ ∃ i j, x = .str i ∧ y = .str j ∧ Q (.bl (decide (i.cps.toList < j.cps.toList))) H
def rLeU : R2 := fun x y H Q => rI0 (fun i j => .bl (decide (i ≤ j))) x y H Q ∨ ∃ i j, x = .str i ∧ y = .str j ∧ Q (.bl (!decide (j.cps.toList < i.cps.toList))) H
def rGtU : R2 := fun x y H Q => rI0 (fun i j => .bl (decide (j < i))) x y H Q ∨ ∃ i j, x = .str i ∧ y = .str j ∧ Q (.bl (decide (j.cps.toList < i.cps.toList))) H
def rGeU : R2 := fun x y H Q => rI0 (fun i j => .bl (decide (j ≤ i))) x y H Q ∨ ∃ i j, x = .str i ∧ y = .str j ∧ Q (.bl (!decide (i.cps.toList < j.cps.toList))) H
theorem op_ltU {X : Cx} : OpR X (compareOp .Lt) rLtU := OpR.or op_lt op_lt_str
theorem op_leU {X : Cx} : OpR X (compareOp .LtE) rLeU := OpR.or op_le op_le_str
theorem op_gtU {X : Cx} : OpR X (compareOp .Gt) rGtU := OpR.or op_gt op_gt_str
theorem op_geU {X : Cx} : OpR X (compareOp .GtE) rGeU := OpR.or op_ge op_ge_str
theorem ol_lt : OpL K T rLtU ltL := fun m S H v w x y Q W r rv rw h => by
  unfold ltL at h
  split at h
  · exact .inl ⟨_, _, rv, rw, h.here r rfl⟩
  · exact .inr ⟨_, _, rv, rw, h.here r rfl⟩
  · exact h.elim
theorem ol_le : OpL K T rLeU leL := fun m S H v w x y Q W r rv rw h => by
  unfold leL at h
  split at h
  · exact .inl ⟨_, _, rv, rw, h.here r rfl⟩
  · exact .inr ⟨_, _, rv, rw, h.here r rfl⟩
  · exact h.elim
theorem ol_gt : OpL K T rGtU gtL := fun m S H v w x y Q W r rv rw h => by
  unfold gtL at h
  split at h
  · exact .inl ⟨_, _, rv, rw, h.here r rfl⟩
  · exact .inr ⟨_, _, rv, rw, h.here r rfl⟩
  · exact h.elim
theorem ol_ge : OpL K T rGeU geL := fun m S H v w x y Q W r rv rw h => by
  unfold geL at h
  split at h
  · exact .inl ⟨_, _, rv, rw, h.here r rfl⟩
  · exact .inr ⟨_, _, rv, rw, h.here r rfl⟩
  · exact h.elim

/-! ### == -/
def seqO {α : Type} : List (Option α) → Option (List α)
  | [] => some []
  | none :: _ => none
  | some a :: r => match seqO r with
    | some l => some (a :: l)
    | none => none
/-- a value as data -/
def dat (S : Sto) : Nat → LV → Option PyData
  | _, .non => some .none
  | _, .bl b => some (.bool b)
  | _, .int i => some (.int i)
  | _, .str s => some (.str s)
  | f + 1, .tup xs => match seqO (xs.map (dat S f)) with
    | some ds => some (.tuple ds)
    | none => none
  | _ + 1, .scr ns => some (.list (ns.map .int))
  | f + 1, .lst xs => match seqO (xs.map (dat S f)) with
    | some ds => some (.list ds)
    | none => none
  | f + 1, .ref n => match S[n]? with
    | some (.lst xs) => match seqO (xs.map (dat S f)) with
      | some ds => some (.list ds)
      | none => none
    | _ => none
  | _, _ => none
def eqS : LV → LV → Option Bool
  | .int i, .int j => some (decide (i = j))
  | .str i, .str j => some (decide (i = j))
  | .bl i, .bl j => some (decide (i = j))
  | .non, .non => some true
  | .non, .int _ => some false | .int _, .non => some false | .non, .bl _ => some false | .bl _, .non => some false | .non, .str _ => some false | .str _, .non => some false
  | .int _, .str _ => some false | .str _, .int _ => some false | .bl _, .str _ => some false | .str _, .bl _ => some false
  | _, _ => none
def eqV2 (v w : LV) (S : Sto) : Option Bool := match eqS v w with
  | some b => some b
  | none => match dat S 60 v, dat S 60 w with
    | some d, some e => if (SeqAt.shaped d && SeqAt.shaped e) = true then some (PyData.eqv d e) else none
    | _, _ => none
def eqL : Op2 := fun v w S => match eqV2 v w S with
  | some b => .ok (.bl b) S
  | none => .no
def neL : Op2 := fun v w S => match eqV2 v w S with
  | some b => .ok (.bl !b) S
  | none => .no
theorem Dp.intsAll {H : Hp} : ∀ ns : List Int, DpAll K H (ns.map V.int) (ns.map PyData.int)
  | [] => .nil
  | n :: ns => .cons (.int n) (Dp.intsAll ns)
theorem dp_all {m : List Addr} {S : Sto} {H : Hp} {f : Nat} (ih : ∀ v d x, dat S f v = some d → RV K m H v x → Dp K H x d) : ∀ (vs : List LV) (ds : List PyData) (xs : List V), seqO (vs.map (dat S f)) = some ds → RVs K m H vs xs → DpAll K H xs ds
  | [], ds, xs, e, h => by
    cases e
    rw [h.nilE]
    exact .nil
  | v :: vs, ds, xs, e, h => by
    unfold RVs at h
    obtain ⟨x, r, rfl, h1, h2⟩ := h
    rw [List.map_cons] at e
    cases q : dat S f v with
    | none => rw [q] at e; cases e
    | some d =>
      rw [q] at e
      unfold seqO at e
      split at e
      · rename_i l hl
        cases e
        exact .cons (ih v d x q h1) (dp_all ih vs l r hl h2)
      · cases e
theorem dat_dp {m : List Addr} {S : Sto} {H : Hp} (r : RelS K T m S H) : ∀ (f : Nat) (v : LV) (d : PyData) (x : V), dat S f v = some d → RV K m H v x → Dp K H x d := by
  intro f
  induction f with
  | zero =>
    intro v d x e rv
    cases v with
    | non => cases e; cases (show x = .non from rv); exact .non
    | bl b => cases e; cases (show x = .bl b from rv); exact .bl b
    | int i => cases e; cases (show x = .int i from rv); exact .int i
    | str i => cases e; cases (show x = .str i from rv); exact .str i
    | _ => cases e
  | succ f ih =>
    intro v d x e rv
    cases v with
    | non => cases e; cases (show x = .non from rv); exact .non
    | bl b => cases e; cases (show x = .bl b from rv); exact .bl b
    | int i => cases e; cases (show x = .int i from rv); exact .int i
    | str i => cases e; cases (show x = .str i from rv); exact .str i
    | tup xs =>
      unfold dat at e
      split at e
      · rename_i ds hds
        cases e
        obtain ⟨a, vs, rfl, ht, hs⟩ := rv.tupE
        exact .tup (SqT.of ht) (dp_all ih xs ds vs hds hs)
      · cases e
    | scr ns =>
      cases e
      unfold RV at rv
      obtain ⟨a, rfl, h1⟩ := rv
      exact .lst (scr_sq h1) (Dp.intsAll ns)
    | lst xs =>
      unfold dat at e
      split at e
      · rename_i ds hds
        cases e
        obtain ⟨a, vs, rfl, _, ht, hs⟩ := rv.lstE
        exact .lst (SqL.of ht) (dp_all ih xs ds vs hds hs)
      · cases e
    | ref n =>
      unfold dat at e
      split at e
      · rename_i xs hn
        split at e
        · rename_i ds hds
          cases e
          obtain ⟨a, vs, rfl, _, ha, hs⟩ := rv.lst r hn
          exact .lst (SqL.of ha) (dp_all ih xs ds vs hds hs)
        · cases e
      · cases e
    | _ => cases e
theorem eqS_ok {m : List Addr} {H : Hp} {v w : LV} {x y : V} {b : Bool} (e : eqS v w = some b) (rv : RV K m H v x) (rw : RV K m H w y) : scal x y = true ∧ decide (x = y) = b := by
  unfold eqS at e
  split at e <;> first
    | (cases e
       unfold RV at rv rw
       subst rv rw
       exact ⟨rfl, by simp⟩)
    | cases e
def rEqU (K : PySem.W.Frag) : R2 := fun x y H Q => rEq x y H Q ∨ rEqD K x y H Q
def rNeU (K : PySem.W.Frag) : R2 := fun x y H Q => rNe x y H Q ∨ rNeD K x y H Q
theorem op_eqU {X : Cx} (hu : X.A.units + 64 < cLine) : OpR X (compareOp .Eq) (rEqU X.K) := OpR.or op_eq (op_eqD hu)
theorem op_neU {X : Cx} (hu : X.A.units + 64 < cLine) : OpR X (compareOp .NotEq) (rNeU X.K) := OpR.or op_ne (op_neD hu)
theorem ol_eq : OpL K T (rEqU K) eqL := fun m S H v w x y Q W r rv rw h => by
  unfold eqL at h
  split at h
  · rename_i b hb
    have q := h.here r (x := .bl b) rfl
    unfold eqV2 at hb
    split at hb
    · rename_i b' hs
      cases hb
      obtain ⟨h1, h2⟩ := eqS_ok hs rv rw
      exact .inl ⟨h1, by rw [h2]; exact q⟩
    · split at hb
      · rename_i d e hd he
        split at hb
        · rename_i hz
          cases hb
          rw [Bool.and_eq_true] at hz
          exact .inr ⟨d, e, dat_dp r 60 v d x hd rv, dat_dp r 60 w e y he rw, hz.1, hz.2, q⟩
        · cases hb
      · cases hb
  · exact h.elim
theorem ol_ne : OpL K T (rNeU K) neL := fun m S H v w x y Q W r rv rw h => by
  unfold neL at h
  split at h
  · rename_i b hb
    have q := h.here r (x := .bl !b) rfl
    unfold eqV2 at hb
    split at hb
    · rename_i b' hs
      cases hb
      obtain ⟨h1, h2⟩ := eqS_ok hs rv rw
      exact .inl ⟨h1, by rw [h2]; exact q⟩
    · split at hb
      · rename_i d e hd he
        split at hb
        · rename_i hz
          cases hb
          rw [Bool.and_eq_true] at hz
          exact .inr ⟨d, e, dat_dp r 60 v d x hd rv, dat_dp r 60 w e y he rw, hz.1, hz.2, q⟩
        · cases hb
      · cases hb
  · exact h.elim

/-! ### is, in -/
def isN : LV → Bool
  | .non => true
  | _ => false
theorem isN_ok {m : List Addr} {H : Hp} {v : LV} {x : V} (rv : RV K m H v x) : decide (x = V.non) = isN v := by
  cases v with
  | non => cases (show x = .non from rv); rfl
  | bl b => cases (show x = .bl b from rv); rfl
  | int b => cases (show x = .int b from rv); rfl
  | str b => cases (show x = .str b from rv); rfl
  | ty b => cases (show x = .ty b from rv); rfl
  | cls b => cases (show x = .ref b from rv); rfl
  | tup xs => obtain ⟨a, vs, rfl, _⟩ := rv.tupE; rfl
  | ktp xs => unfold RV at rv; obtain ⟨a, vs, rfl, _⟩ := rv; rfl
  | ref n => unfold RV at rv; obtain ⟨a, rfl, _⟩ := rv; rfl
  | scr n => unfold RV at rv; obtain ⟨a, rfl, _⟩ := rv; rfl
  | exc c fs => exact rv.elim
  | lst xs => obtain ⟨a, vs, rfl, _⟩ := rv.lstE; rfl
def isL : Op2
  | v, .non, S => .ok (.bl (isN v)) S
  | .bl a, .bl b, S => .ok (.bl (decide (a = b))) S
  | _, _, _ => .no
def isnotL : Op2
  | v, .non, S => .ok (.bl (!isN v)) S
  | .bl a, .bl b, S => .ok (.bl (!decide (a = b))) S
  | _, _, _ => .no
def rIsN1 : R2 := fun x y H Q => y = .non ∧ Q (.bl (decide (x = .non))) H
def rNotN1 : R2 := fun x y H Q => y = .non ∧ Q (.bl (!decide (x = .non))) H
def rIsU : R2 := fun x y H Q => rIsN1 x y H Q ∨ rIsB x y H Q
def rIsnU : R2 := fun x y H Q => rNotN1 x y H Q ∨ rNotB x y H Q
theorem op_isU {X : Cx} : OpR X (compareOp .Is) rIsU := OpR.or op_isN op_isBl
theorem op_isnU {X : Cx} : OpR X (compareOp .IsNot) rIsnU := OpR.or op_notN op_notBl
theorem ol_is : OpL K T rIsU isL := fun m S H v w x y Q W r rv rw h => by
  unfold isL at h
  split at h
  · exact .inl ⟨rw, by rw [isN_ok rv]; exact h.here r rfl⟩
  · exact .inr ⟨_, _, rv, rw, h.here r rfl⟩
  · exact h.elim
theorem ol_isn : OpL K T rIsnU isnotL := fun m S H v w x y Q W r rv rw h => by
  unfold isnotL at h
  split at h
  · exact .inl ⟨rw, by rw [isN_ok rv]; exact h.here r rfl⟩
  · exact .inr ⟨_, _, rv, rw, h.here r rfl⟩
  · exact h.elim
def flatL : LV → Bool
  | .non => true | .bl _ => true | .int _ => true | .str _ => true
  | _ => false
def fv : LV → V
  | .bl b => .bl b | .int i => .int i | .str s => .str s
  | _ => .non
theorem fv_ok {m : List Addr} {H : Hp} {v : LV} {x : V} (f : flatL v = true) (rv : RV K m H v x) : x = fv v ∧ flatV x = true := by
  cases v with
  | non => cases (show x = .non from rv); exact ⟨rfl, rfl⟩
  | bl b => cases (show x = .bl b from rv); exact ⟨rfl, rfl⟩
  | int b => cases (show x = .int b from rv); exact ⟨rfl, rfl⟩
  | str b => cases (show x = .str b from rv); exact ⟨rfl, rfl⟩
  | _ => cases f
theorem fvs_ok {m : List Addr} {H : Hp} : ∀ {vs : List LV} {xs : List V}, vs.all flatL = true → RVs K m H vs xs → xs = vs.map fv ∧ xs.all flatV = true
  | [], xs, _, h => by rw [h.nilE]; exact ⟨rfl, rfl⟩
  | v :: vs, xs, f, h => by
    unfold RVs at h
    obtain ⟨x, r, rfl, h1, h2⟩ := h
    rw [List.all_cons, Bool.and_eq_true] at f
    obtain ⟨e1, q1⟩ := fv_ok f.1 h1
    obtain ⟨e2, q2⟩ := fvs_ok f.2 h2
    exact ⟨by rw [List.map_cons, e1, e2], by rw [List.all_cons, q1, q2]; rfl⟩
/-- the key that a value is -/
def keyL : LV → Option Key
  | .int i => some (.inl i)
  | .str s => some (.inr s)
  | _ => none
def keysL (vs : List LV) : Option (List Key) := seqO (vs.map keyL)
theorem keyL_ok {m : List Addr} {H : Hp} {v : LV} {x : V} {k : Key} (e : keyL v = some k) (rv : RV K m H v x) : x = kV k := by
  cases v with
  | int i => cases e; exact rv
  | str i => cases e; exact rv
  | _ => cases e
theorem keysL_ok {m : List Addr} {H : Hp} : ∀ {vs : List LV} {xs : List V} {ks : List Key}, keysL vs = some ks → RVs K m H vs xs → xs = ks.map kV
  | [], xs, ks, e, h => by
    cases e
    rw [h.nilE]
    rfl
  | v :: vs, xs, ks, e, h => by
    unfold RVs at h
    obtain ⟨x, r, rfl, h1, h2⟩ := h
    unfold keysL at e
    rw [List.map_cons] at e
    cases q : keyL v with
    | none => rw [q] at e; cases e
    | some k =>
      rw [q] at e
      unfold seqO at e
      split at e
      · rename_i l hl
        cases e
        rw [List.map_cons, keyL_ok q h1, keysL_ok (ks := l) hl h2]
      · cases e
/-- what a dict of values tells of a key -/
def getK {κ : Type} [DecidableEq κ] (kvs : List (κ × LV)) (k : κ) : Option LV := (kvs.find? fun kv => decide (kv.1 = k)).map (·.2)
theorem getK_rel {κ : Type} [DecidableEq κ] {m : List Addr} {H : Hp} : ∀ {kvs : List (κ × LV)} {ws : List (κ × V)} (k : κ), ws.map (·.1) = kvs.map (·.1) → RVs K m H (kvs.map (·.2)) (ws.map (·.2)) →
    (getK kvs k = none ∧ valV ws k = none) ∨ ∃ v x, getK kvs k = some v ∧ valV ws k = some x ∧ RV K m H v x
  | [], ws, k, e, h => by
    have : ws = [] := by simpa using e
    subst this
    exact .inl ⟨rfl, rfl⟩
  | (k1, v) :: kvs, [], k, e, h => by simp at e
  | (k1, v) :: kvs, (k2, x) :: ws, k, e, h => by
    simp only [List.map_cons, List.cons.injEq] at e
    obtain ⟨e1, e2⟩ := e
    subst e1
    simp only [List.map_cons] at h
    unfold RVs at h
    obtain ⟨y, r, q, h1, h2⟩ := h
    simp only [List.cons.injEq] at q
    obtain ⟨rfl, rfl⟩ := q
    by_cases c : k2 = k
    · refine .inr ⟨v, x, ?_, valV_pos c, h1⟩
      unfold getK
      rw [List.find?_cons_of_pos (by simpa using c)]
      rfl
    · rw [valV_neg c]
      have : getK ((k2, v) :: kvs) k = getK kvs k := by
        unfold getK
        rw [List.find?_cons_of_neg (by simpa using c)]
      rw [this]
      exact getK_rel k e2 h2
/-- whether a key is in a dict -/
def dKs : LO → Option (List (Key × LV))
  | .dct kvs => some kvs
  | .dck kvs => some kvs
  | _ => none
def dTs : LO → Option (List (List Key × LV))
  | .dcT kvs => some kvs
  | .dcl kvs => some kvs
  | _ => none
/-- what a dict tells of a key -/
def getOv (v : LV) (S : Sto) (n : Nat) : Option (Option LV) := match S[n]? with
  | some o => match dKs o with
    | some kvs => (keyL v).map fun k => getK kvs k
    | none => match dTs o with
      | some kvs => match v with
        | .tup xs => (keysL xs).map fun k => getK kvs k
        | _ => none
      | none => none
  | none => none
def inD (v : LV) (S : Sto) (n : Nat) : Option Bool := match S[n]? with
  | some (.lst xs) => if (flatL v && xs.all flatL) = true then some (inV (fv v) (xs.map fv)) else none
  | _ => (getOv v S n).map (·.isSome)
def inT (a z : Str) : Bool := if a.cps.size = 1 then decide (a.cps.getD 0 0 ∈ z.cps.toList) else !(Builtin.Str.occurrences z a 0 z.length 1).isEmpty
def inO (v w : LV) (S : Sto) : Option Bool := match w with
  | .str z => match v with
    | .str a => some (inT a z)
    | _ => none
  | .tup xs => if (flatL v && xs.all flatL) = true then some (inV (fv v) (xs.map fv)) else none
  | .ktp xs => if (flatL v && xs.all flatL) = true then some (inV (fv v) (xs.map fv)) else none
  | .scr ns => if flatL v = true then some (inV (fv v) (ns.map V.int)) else none
  | .lst xs => if (flatL v && xs.all flatL) = true then some (inV (fv v) (xs.map fv)) else none
  | .ref n => inD v S n
  | _ => none
def inL : Op2 := fun v w S => match inO v w S with
  | some b => .ok (.bl b) S
  | none => .no
def notinL : Op2 := fun v w S => match inO v w S with
  | some b => .ok (.bl !b) S
  | none => .no
def rInD2 (neg : Bool) : R2 := fun x y H Q => ∃ a ov, y = .ref a ∧ DGet H a x ov ∧ Q (.bl (if neg then !ov.isSome else ov.isSome)) H
theorem op_inD2 {X : Cx} (hu : X.A.units + 64 < cLine) : OpR X (compareOp .In) (rInD2 false) := by
  intro pins s σ H x y v u Q I rx ry h
  obtain ⟨a, ov, rfl, g, q⟩ := h
  obtain rfl : u = Value.ref a := ry
  exact d_in (Nat.lt_of_le_of_lt (Nat.add_le_add_left (by decide : 1 ≤ 64) _) hu) I g rx fun s3 I3 => ⟨.bl ov.isSome, H, I3, rfl, q⟩
theorem op_notinD2 {X : Cx} (hu : X.A.units + 64 < cLine) : OpR X (compareOp .NotIn) (rInD2 true) := by
  intro pins s σ H x y v u Q I rx ry h
  obtain ⟨a, ov, rfl, g, q⟩ := h
  obtain rfl : u = Value.ref a := ry
  exact d_notIn (Nat.lt_of_le_of_lt (Nat.add_le_add_left (by decide : 1 ≤ 64) _) hu) I g rx fun s3 I3 => ⟨.bl (!ov.isSome), H, I3, rfl, q⟩
def rInU (K : PySem.W.Frag) : R2 := fun x y H Q => ((∃ (c : Nat) (z : Str), x = .str ⟨#[c]⟩ ∧ y = .str z ∧ Q (.bl (decide (c ∈ z.cps.toList))) H) ∨ ∃ i j, x = .str i ∧ y = .str j ∧ Q (.bl (!(Builtin.Str.occurrences j i 0 j.length 1).isEmpty)) H) ∨ (rIn K false x y H Q ∨ rInD2 false x y H Q)
def rNinU (K : PySem.W.Frag) : R2 := fun x y H Q => ((∃ (c : Nat) (z : Str), x = .str ⟨#[c]⟩ ∧ y = .str z ∧ Q (.bl (!decide (c ∈ z.cps.toList))) H) ∨ ∃ i j, x = .str i ∧ y = .str j ∧ Q (.bl (!(!(Builtin.Str.occurrences j i 0 j.length 1).isEmpty))) H) ∨ (rIn K true x y H Q ∨ rInD2 true x y H Q)
theorem op_inU {X : Cx} (hr : X.A.units + 64 < cLine) : OpR X (compareOp .In) (rInU X.K) := OpR.or (OpR.or op_in_sign op_in_str) (OpR.or op_in_seq (op_inD2 hr))
theorem op_ninU {X : Cx} (hr : X.A.units + 64 < cLine) : OpR X (compareOp .NotIn) (rNinU X.K) := OpR.or (OpR.or op_notIn_sign op_notIn_str) (OpR.or op_notIn_seq (op_notinD2 hr))
theorem getOv_ok {m : List Addr} {S : Sto} {H : Hp} {v : LV} {x y : V} {n : Nat} {o : Option LV} (r : RelS K T m S H) (e : getOv v S n = some o) (rv : RV K m H v x) (rw : RV K m H (.ref n) y) :
    ∃ a ov, y = .ref a ∧ DGet H a x ov ∧ ((o = none ∧ ov = none) ∨ ∃ u z, o = some u ∧ ov = some z ∧ RV K m H u z) := by
  unfold getOv at e
  split at e
  · rename_i ob hn
    unfold RV at rw
    obtain ⟨a, rfl, hm⟩ := rw
    have q := r.at hm hn
    split at e
    · rename_i kvs hk
      have hw : ∃ ws, Rd H a (.dK ws) ∧ ws.map (·.1) = kvs.map (·.1) ∧ RVs K m H (kvs.map (·.2)) (ws.map (·.2)) := by
        cases ob with
        | dct kvs' => cases hk; obtain ⟨ws, h1, h2⟩ := q; exact ⟨ws, .inl h1, h2⟩
        | dck kvs' => cases hk; obtain ⟨od, ws, h1, h2⟩ := q; exact ⟨ws, .inr ⟨od, h1⟩, h2⟩
        | _ => cases hk
      obtain ⟨ws, h1, h2, h3⟩ := hw
      cases qk : keyL v with
      | none => rw [qk] at e; cases e
      | some k =>
        rw [qk] at e
        cases e
        have ex := keyL_ok qk rv
        subst ex
        exact ⟨a, valV ws k, rfl, .inl ⟨ws, k, h1, rfl, rfl⟩, getK_rel k h2 h3⟩
    · split at e
      · rename_i kvs hk
        have hw : ∃ ws, Rd H a (.dT ws) ∧ ws.map (·.1) = kvs.map (·.1) ∧ RVs K m H (kvs.map (·.2)) (ws.map (·.2)) := by
          cases ob with
          | dcT kvs' => cases hk; obtain ⟨ws, h1, h2⟩ := q; exact ⟨ws, .inl h1, h2⟩
          | dcl kvs' => cases hk; obtain ⟨od, ws, h1, h2⟩ := q; exact ⟨ws, .inr ⟨od, h1⟩, h2⟩
          | _ => cases hk
        obtain ⟨ws, h1, h2, h3⟩ := hw
        split at e
        · rename_i xs
          cases qk : keysL xs with
          | none => rw [qk] at e; cases e
          | some k =>
            rw [qk] at e
            cases e
            obtain ⟨c, vs, rfl, ht, hs⟩ := rv.tupE
            have ex := keysL_ok qk hs
            subst ex
            exact ⟨a, valV ws k, rfl, .inr ⟨ws, k, c, h1, rfl, ht, rfl⟩, getK_rel k h2 h3⟩
        · cases e
      · cases e
  · cases e
/-- what the rules ask -/
theorem inO_ok {m : List Addr} {S : Sto} {H : Hp} {v w : LV} {x y : V} {b : Bool} (r : RelS K T m S H) (e : inO v w S = some b) (rv : RV K m H v x) (rw : RV K m H w y) :
    ((∃ (c : Nat) (z : Str), x = .str ⟨#[c]⟩ ∧ y = .str z ∧ decide (c ∈ z.cps.toList) = b) ∨ ∃ i j, x = .str i ∧ y = .str j ∧ (!(Builtin.Str.occurrences j i 0 j.length 1).isEmpty) = b) ∨
    ((∃ p xs, y = .ref p ∧ (SqL K H p xs ∨ SqT K H p xs) ∧ flatV x = true ∧ xs.all flatV = true ∧ inV x xs = b) ∨ ∃ a ov, y = .ref a ∧ DGet H a x ov ∧ ov.isSome = b) := by
  unfold inO at e
  split at e
  · rename_i z
    split at e
    · rename_i a
      cases e
      unfold inT
      split
      · rename_i hc
        refine .inl (.inl ⟨a.cps.getD 0 0, z, ?_, rw, rfl⟩)
        have hx : x = .str a := rv
        rw [hx]
        congr 1
        obtain ⟨l⟩ := a
        obtain ⟨l⟩ := l
        match l, hc with
        | [c], _ => rfl
      · exact .inl (.inr ⟨a, z, rv, rw, rfl⟩)
    · cases e
  · split at e
    · rename_i hz
      cases e
      rw [Bool.and_eq_true] at hz
      obtain ⟨a, vs, rfl, ht, hs⟩ := rw.tupE
      obtain ⟨e1, q1⟩ := fv_ok hz.1 rv
      obtain ⟨e2, q2⟩ := fvs_ok hz.2 hs
      exact .inr (.inl ⟨a, vs, rfl, .inr (SqT.of ht), q1, q2, by rw [e1, e2]⟩)
    · cases e
  · split at e
    · rename_i hz
      cases e
      rw [Bool.and_eq_true] at hz
      unfold RV at rw
      obtain ⟨a, vs, rfl, ht, hs⟩ := rw
      obtain ⟨e1, q1⟩ := fv_ok hz.1 rv
      obtain ⟨e2, q2⟩ := fvs_ok hz.2 hs
      exact .inr (.inl ⟨a, vs, rfl, .inr (ht _), q1, q2, by rw [e1, e2]⟩)
    · cases e
  · split at e
    · rename_i ns hz
      cases e
      unfold RV at rw
      obtain ⟨a, rfl, h1⟩ := rw
      obtain ⟨e1, q1⟩ := fv_ok hz rv
      refine .inr (.inl ⟨a, _, rfl, .inl (scr_sq h1), q1, ?_, by rw [e1]⟩)
      rw [List.all_map]
      exact List.all_eq_true.mpr fun _ _ => rfl
    · cases e
  · split at e
    · rename_i hz
      cases e
      rw [Bool.and_eq_true] at hz
      obtain ⟨a, vs, rfl, _, ha, hs⟩ := rw.lstE
      obtain ⟨e1, q1⟩ := fv_ok hz.1 rv
      obtain ⟨e2, q2⟩ := fvs_ok hz.2 hs
      exact .inr (.inl ⟨a, vs, rfl, .inl (SqL.of ha), q1, q2, by rw [e1, e2]⟩)
    · cases e
  · rename_i n
    unfold inD at e
    split at e
    · rename_i xs hn
      split at e
      · rename_i hz
        cases e
        rw [Bool.and_eq_true] at hz
        obtain ⟨a, vs, rfl, _, ha, hs⟩ := rw.lst r hn
        obtain ⟨e1, q1⟩ := fv_ok hz.1 rv
        obtain ⟨e2, q2⟩ := fvs_ok hz.2 hs
        exact .inr (.inl ⟨a, vs, rfl, .inl (SqL.of ha), q1, q2, by rw [e1, e2]⟩)
      · cases e
    · cases g : getOv v S n with
      | none => rw [g] at e; cases e
      | some o =>
        rw [g] at e
        cases e
        obtain ⟨a, ov, ey, hd, ho⟩ := getOv_ok r g rv rw
        refine .inr (.inr ⟨a, ov, ey, hd, ?_⟩)
        rcases ho with ⟨rfl, rfl⟩ | ⟨u, z, rfl, rfl, _⟩ <;> rfl
  · cases e
end
end LL
namespace LL
open PySem PySem.Spec PyProof.Rows L2
section
variable {K : PySem.W.Frag} {T : Env1}
theorem ol_in : OpL K T (rInU K) inL := fun m S H v w x y Q W r rv rw h => by
  unfold inL at h
  split at h
  · rename_i b hb
    have q := h.here r (x := .bl b) rfl
    rcases inO_ok r hb rv rw with (⟨c, z, e1, e2, e3⟩ | ⟨i, j, e1, e2, e3⟩) | (⟨p, xs, e1, e2, e3, e4, e5⟩ | ⟨a, ov, e1, e2, e3⟩)
    · exact .inl (.inl ⟨c, z, e1, e2, by rw [e3]; exact q⟩)
    · exact .inl (.inr ⟨i, j, e1, e2, by rw [e3]; exact q⟩)
    · exact .inr (.inl ⟨p, xs, e1, e2, e3, e4, by rw [e5]; exact q⟩)
    · exact .inr (.inr ⟨a, ov, e1, e2, by rw [e3]; exact q⟩)
  · exact h.elim
theorem ol_nin : OpL K T (rNinU K) notinL := fun m S H v w x y Q W r rv rw h => by
  unfold notinL at h
  split at h
  · rename_i b hb
    have q := h.here r (x := .bl !b) rfl
    rcases inO_ok r hb rv rw with (⟨c, z, e1, e2, e3⟩ | ⟨i, j, e1, e2, e3⟩) | (⟨p, xs, e1, e2, e3, e4, e5⟩ | ⟨a, ov, e1, e2, e3⟩)
    · exact .inl (.inl ⟨c, z, e1, e2, by rw [e3]; exact q⟩)
    · exact .inl (.inr ⟨i, j, e1, e2, by rw [e3]; exact q⟩)
    · exact .inr (.inl ⟨p, xs, e1, e2, e3, e4, by rw [e5]; exact q⟩)
    · exact .inr (.inr ⟨a, ov, e1, e2, by rw [e3]; exact q⟩)
  · exact h.elim
end

/-! ### the operators as the text has them -/
section
variable {X : Cx} {T : Env1} {ξ : Xi} {W : WX} {a b : Expr} {pos : Pos} {fa fb : LE}
theorem pl_add (ha : PE X a (tL X.K T ξ W fa)) (hb : PE X b (tL X.K T ξ W fb)) : PE X (.BinOp a .Add b pos) (tL X.K T ξ W (lOp addL fa fb)) := pl_bin op_addU ol_add ha hb
theorem pl_sub (ha : PE X a (tL X.K T ξ W fa)) (hb : PE X b (tL X.K T ξ W fb)) : PE X (.BinOp a .Sub b pos) (tL X.K T ξ W (lOp subL fa fb)) := pl_bin op_sub ol_sub ha hb
theorem pl_addT (ha : PE X a (tL X.K T ξ W fa)) (hb : PE X b (tL X.K T ξ W fb)) : PE X (.BinOp a .Add b pos) (tL X.K T ξ W (lOp addT fa fb)) := pl_bin op_addU ol_add ha hb
theorem pl_mulTT (ha : PE X a (tL X.K T ξ W fa)) (hb : PE X b (tL X.K T ξ W fb)) : PE X (.BinOp a .Mult b pos) (tL X.K T ξ W (lOp mulT fa fb)) := pl_bin op_mulU ol_mul ha hb
theorem pl_mul (ha : PE X a (tL X.K T ξ W fa)) (hb : PE X b (tL X.K T ξ W fb)) : PE X (.BinOp a .Mult b pos) (tL X.K T ξ W (lOp mulL fa fb)) := pl_bin op_mulU ol_mul ha hb
theorem pl_fdiv (ha : PE X a (tL X.K T ξ W fa)) (hb : PE X b (tL X.K T ξ W fb)) : PE X (.BinOp a .FloorDiv b pos) (tL X.K T ξ W (lOp divL fa fb)) := pl_bin op_fdivW ol_div ha hb
theorem pl_mod (ha : PE X a (tL X.K T ξ W fa)) (hb : PE X b (tL X.K T ξ W fb)) : PE X (.BinOp a .Mod b pos) (tL X.K T ξ W (lOp modL fa fb)) := pl_bin op_mod ol_mod ha hb
theorem pl_pow (ha : PE X a (tL X.K T ξ W fa)) (hb : PE X b (tL X.K T ξ W fb)) : PE X (.BinOp a .Pow b pos) (tL X.K T ξ W (lOp powL fa fb)) := pl_bin op_pow ol_pow ha hb
/-- a comparison's rule, its answer's rule -/
structure CmL (X : Cx) (T : Env1) (op : CmpOp) (r : R2) (o : Op2) : Prop where
  op : OpR X (compareOp op) r
  ol : OpL X.K T r o
variable {k : Nat}
theorem c_lt : CmL X T .Lt rLtU ltL := ⟨op_ltU, ol_lt⟩
theorem c_le : CmL X T .LtE rLeU leL := ⟨op_leU, ol_le⟩
theorem c_gt : CmL X T .Gt rGtU gtL := ⟨op_gtU, ol_gt⟩
theorem c_ge : CmL X T .GtE rGeU geL := ⟨op_geU, ol_ge⟩
theorem c_eq (hr : X.A.units + 64 < cLine) : CmL X T .Eq (rEqU X.K) eqL := ⟨op_eqU hr, ol_eq⟩
theorem c_ne (hr : X.A.units + 64 < cLine) : CmL X T .NotEq (rNeU X.K) neL := ⟨op_neU hr, ol_ne⟩
theorem c_is : CmL X T .Is rIsU isL := ⟨op_isU, ol_is⟩
theorem c_isn : CmL X T .IsNot rIsnU isnotL := ⟨op_isnU, ol_isn⟩
theorem c_in (hr : X.A.units + 64 < cLine) : CmL X T .In (rInU X.K) inL := ⟨op_inU hr, ol_in⟩
theorem c_nin (hr : X.A.units + 64 < cLine) : CmL X T .NotIn (rNinU X.K) notinL := ⟨op_ninU hr, ol_nin⟩
variable {op op' : CmpOp} {r r' : R2} {o o' : Op2} {c : Expr} {fc : LE}
theorem pl_cp (h : CmL X T op r o) (ha : PE X a (tL X.K T ξ W fa)) (hb : PE X b (tL X.K T ξ W fb)) (hm : behindInMarks op b = false := by first | exact nomark _ | rfl) : PE X (.Compare a [op] [b] pos) (tL X.K T ξ W (lOp o fa fb)) := pl_cmp h.op h.ol ha hb hm
theorem tt_cp (h : CmL X T op r o) (ha : PE X a (tL X.K T ξ W fa)) (hb : PE X b (tL X.K T ξ W fb)) (hm : behindInMarks op b = false := by first | exact nomark _ | rfl) : PT X (.Compare a [op] [b] pos) (tTest (tL X.K T ξ W (lOp o fa fb))) := tt_cmp h.op h.ol ha hb hm
theorem pl_ch (h : CmL X T op r o) (h' : CmL X T op' r' o') (ha : PE X a (tL X.K T ξ W fa)) (hb : PE X b (tL X.K T ξ W fb)) (hc : PE X c (tL X.K T ξ W fc))
    (hm : lastMarks [op, op'] [b, c] = false := by with_unfolding_all rfl) : PE X (.Compare a [op, op'] [b, c] pos) (tL X.K T ξ W (lChain o o' fa fb fc)) := pl_chain h.op h.ol h'.op h'.ol ha hb hc hm
theorem tt_ch (h : CmL X T op r o) (h' : CmL X T op' r' o') (ha : PE X a (tL X.K T ξ W fa)) (hb : PE X b (tL X.K T ξ W fb)) (hc : PE X c (tL X.K T ξ W fc))
    (hm : lastMarks [op, op'] [b, c] = false := by with_unfolding_all rfl) : PT X (.Compare a [op, op'] [b, c] pos) (tTest (tL X.K T ξ W (lChain o o' fa fb fc))) := tt_chain h.op h.ol h'.op h'.ol ha hb hc hm
end
end LL


set_option Elab.async false
set_option linter.all false
set_option maxRecDepth 100000
set_option maxHeartbeats 2000000
/-! The logical layer: subscripts, built-in functions, methods of built-in types, calls. -/
namespace LL
open PySem PySem.Spec PyProof.Rows L2

/-! ### a[i] -/
def okStr (z : Str) : Bool := small z.length
def ixO (v w : LV) (S : Sto) : Option LV := match v with
  | .tup xs => match w with
    | .int j => atI xs j
    | _ => none
  | .ktp xs => match w with
    | .int j => atI xs j
    | _ => none
  | .scr ns => match w with
    | .int j => (atI ns j).map .int
    | _ => none
  | .lst xs => match w with
    | .int j => atI xs j
    | _ => none
  | .str z => match w with
    | .int j => if okStr z = true then (atI z.cps.toList j).map fun c => .str ⟨#[c]⟩ else none
    | _ => none
  | .ref n => match S[n]? with
    | some (.lst xs) => match w with
      | .int j => atI xs j
      | _ => none
    | _ => match getOv w S n with
      | some o => o
      | none => none
  | _ => none
def ixL : Op2 := fun v w S => match ixO v w S with
  | some u => .ok u S
  | none => .no
def rDGet : R2 := fun x y H Q => ∃ a v, x = .ref a ∧ DGet H a y (some v) ∧ Q v H
theorem ix_dict {X : Cx} (hr : X.A.units + 64 < cLine) : IxR X rDGet := by
  intro value slice pins s σ H x y v u Q I rx ry h hs
  obtain ⟨a, z, rfl, g, q⟩ := h
  obtain rfl : v = Value.ref a := rx
  exact tail_any (dict_typeIs I g) PySem.F.slot_dict_getitem.lookup (d_getItem (Nat.lt_of_le_of_lt (Nat.add_le_add_left (by decide : 1 ≤ 64) _) hr) I g ry fun w' s3 I3 rw' => ⟨z, H, I3, rw', q⟩) hs
def rIxU (K : PySem.W.Frag) : R2 := fun x y H Q => rIx K x y H Q ∨ rDGet x y H Q
theorem ix_U {X : Cx} (hr : X.A.units + 64 < cLine) : IxR X (rIxU X.K) := IxR.or ix_seq (ix_dict hr)
section
variable {K : PySem.W.Frag} {T : Env1}
theorem atI_map {α β : Type} (f : α → β) (xs : List α) (j : Int) : atI (xs.map f) j = (atI xs j).map f := by
  unfold atI
  rw [List.length_map]
  cases ixN xs.length j with
  | none => rfl
  | some n => simp
theorem atI_rel {m : List Addr} {H : Hp} {vs : List LV} {xs : List V} {j : Int} {v : LV} (h : RVs K m H vs xs) (e : atI vs j = some v) : ∃ x, atI xs j = some x ∧ RV K m H v x := by
  unfold atI at e ⊢
  rw [← h.len]
  cases q : ixN vs.length j with
  | none => rw [q] at e; cases e
  | some n =>
    rw [q] at e
    exact h.get e
theorem ol_ix : OpL K T (rIxU K) ixL := fun m S H v w x y Q W r rv rw h => by
  unfold ixL at h
  split at h
  · rename_i u hu
    unfold ixO at hu
    split at hu
    · split at hu
      · obtain ⟨a, vs, rfl, ht, hs⟩ := rv.tupE
        obtain ⟨z, hz, rz⟩ := atI_rel hs hu
        exact .inl (.inr (.inl ⟨a, vs, _, z, rfl, rw, SqT.of ht, hz, h.here r rz⟩))
      · cases hu
    · split at hu
      · unfold RV at rv
        obtain ⟨a, vs, rfl, ht, hs⟩ := rv
        obtain ⟨z, hz, rz⟩ := atI_rel hs hu
        exact .inl (.inr (.inl ⟨a, vs, _, z, rfl, rw, ht _, hz, h.here r rz⟩))
      · cases hu
    · split at hu
      · rename_i ns _ j
        unfold RV at rv
        obtain ⟨a, rfl, h1⟩ := rv
        replace h1 := scr_sq h1
        cases q : atI ns j with
        | none => rw [q] at hu; cases hu
        | some i =>
          rw [q] at hu
          cases hu
          exact .inl (.inl ⟨a, _, _, .int i, rfl, rw, h1, by rw [atI_map, q]; rfl, h.here r rfl⟩)
      · cases hu
    · split at hu
      · obtain ⟨a, vs, rfl, _, ha, hs⟩ := rv.lstE
        obtain ⟨z, hz, rz⟩ := atI_rel hs hu
        exact .inl (.inl ⟨a, vs, _, z, rfl, rw, SqL.of ha, hz, h.here r rz⟩)
      · cases hu
    · split at hu
      · rename_i z _ j
        split at hu
        · rename_i hz
          cases q : atI z.cps.toList j with
          | none => rw [q] at hu; cases hu
          | some c =>
            rw [q] at hu
            cases hu
            exact .inl (.inr (.inr ⟨z, _, c, rv, rw, small_ok hz, q, h.here r rfl⟩))
        · cases hu
      · cases hu
    · rename_i n
      split at hu
      · rename_i xs hn
        split at hu
        · obtain ⟨a, vs, rfl, _, ha, hs⟩ := rv.lst r hn
          obtain ⟨z, hz, rz⟩ := atI_rel hs hu
          exact .inl (.inl ⟨a, vs, _, z, rfl, rw, SqL.of ha, hz, h.here r rz⟩)
        · cases hu
      · split at hu
        · rename_i o g
          subst hu
          obtain ⟨a, ov, ey, hd, ho⟩ := getOv_ok r g rw rv
          rcases ho with ⟨ho, _⟩ | ⟨u', z, ho, rfl, rz⟩
          · cases ho
          · cases ho
            exact .inr ⟨a, z, ey, hd, h.here r rz⟩
        · cases hu
    · cases hu
  · exact h.elim
end
section
variable {X : Cx} {T : Env1} {ξ : Xi} {W : WX} {e a b c : Expr} {pos : Pos} {fa fb fc : LE} {k : Nat}
theorem pl_ix (hr : X.A.units + 64 < cLine) (ha : PE X a (tL X.K T ξ W fa)) (hb : PE X b (tL X.K T ξ W fb)) (hs : PlainIx b := by exact fun _ _ => rfl) : PE X (.Subscript a b pos) (tL X.K T ξ W (lOp ixL fa fb)) :=
  pe_imp (pe_ix (ix_U hr) ha hb hs) (tOp_of ol_ix)

/-! ### a[i:j] -/
def intK (k : Int → Sto → R) : LV → Sto → R
  | .int i, S => k i S
  | _, _ => .no
def partK (f : Option LE) (ds : Sl) (S : Sto) (k : Option Int → Sto → R) : R := match f with
  | none => k none S
  | some f => (f ds S).bind (intK fun i S1 => k (some i) S1)
def cutL {α : Type} (xs : List α) (lo hi : Option Int) : List α := (xs.drop (HT.sIx xs.length 0 lo)).take (HT.sIx xs.length xs.length hi - HT.sIx xs.length 0 lo)
def slG (t : Bool) (v : LV) (lo hi : Option Int) (S : Sto) : R := match v with
  | .str z => if okStr z = true then .ok (.str (cutS z lo hi)) S else .no
  | .tup xs => .ok (.tup (cutL xs lo hi)) S
  | .scr ns => newL t ((cutL ns lo hi).map .int) S
  | v => match lsO v S with
    | some xs => newL t (cutL xs lo hi) S
    | _ => .no
abbrev slO := slG false
def lSlG (t : Bool) (fa : LE) (lo hi : Option LE) : LE := fun ds S => (fa ds S).bind fun v S1 => partK lo ds S1 fun l S2 => partK hi ds S2 fun h S3 => slG t v l h S3
abbrev lSl := lSlG false
abbrev lSlT := lSlG true
def tPO (X : Cx) (T : Env1) (ξ : Xi) (W : WX) (f : Option LE) : TO := match f with
  | none => tNoPart
  | some f => tPart (tL X.K T ξ W f)
theorem pl_ponone : PO X none (tPO X T ξ W none) := po_none
theorem pl_po (h : PE X e (tL X.K T ξ W fa)) : PO X (some e) (tPO X T ξ W (some fa)) := po_some h
theorem tPO.bind {f : Option LE} {σ : L2.St} {m : List Addr} {S : Sto} {H : Hp} {ds : Sl} {k : Option Int → Sto → R} {Q : VK} (r : RelS X.K T m S H) (rs : RSl X.K ξ m H ds σ) (h : PoE X.K T m H (partK f ds S k) Q (fun cls d H' => W cls d σ H')) {Q2 : Option Int → Hp → Prop}
    (hq : ∀ o S1 m1 H1, Ext m H m1 H1 → RelS X.K T m1 S1 H1 → RSl X.K ξ m1 H1 ds σ → PoE X.K T m1 H1 (k o S1) Q (fun cls d H' => W cls d σ H') → Q2 o H1) : tPO X T ξ W f σ H Q2 := by
  cases f with
  | none => exact hq none S m H Ext.refl r rs h
  | some f =>
    exact tL.bind r rs h fun v S1 m1 H1 x E r1 rs1 rv h1 => by
      cases v with
      | int i => exact ⟨i, rv, hq (some i) S1 m1 H1 E r1 rs1 h1⟩
      | _ => exact h1.elim
def rSlU (K : PySem.W.Frag) : V → Option Int → Option Int → Hp → VK → Prop := fun x lo hi H Q => (rSlS x lo hi H Q ∨ rSlL K x lo hi H Q) ∨ rSlA K x lo hi H Q
theorem sl_U : SlR X (rSlU X.K) := SlR.or (SlR.or sl_str sl_list) sl_tupA
theorem sIx_whole {n : Nat} {lo hi : Option Int} {α : Type} {xs : List α} (hn : xs.length = n) (h : HT.sIx n 0 lo = 0 ∧ HT.sIx n n hi = n) : cutL xs lo hi = xs := by
  unfold cutL
  rw [hn, h.1, h.2, List.drop_zero, Nat.sub_zero, ← hn, List.take_length]
theorem RVs.ints {K : PySem.W.Frag} {m : List Addr} {H : Hp} : ∀ ns : List Int, RVs K m H (ns.map .int) (ns.map V.int)
  | [] => RVs.nil
  | n :: ns => RVs.cons rfl (RVs.ints ns)
theorem RVs.strs {K : PySem.W.Frag} {m : List Addr} {H : Hp} : ∀ ns : List Str, RVs K m H (ns.map .str) (ns.map V.str)
  | [] => RVs.nil
  | n :: ns => RVs.cons rfl (RVs.strs ns)
theorem slO_ok {m : List Addr} {S : Sto} {H : Hp} {v : LV} {x : V} {lo hi : Option Int} {Q : VK} {W : XK} {t : Bool} (r : RelS X.K T m S H) (rv : RV X.K m H v x) (h : PoE X.K T m H (slG t v lo hi S) Q W) : rSlU X.K x lo hi H Q := by
  unfold slG at h
  split at h
  · split at h
    · rename_i hz
      exact .inl (.inl ⟨_, rv, small_ok hz, h.here r rfl⟩)
    · exact h.elim
  · rename_i xs
    obtain ⟨a, vs, rfl, ht, hs⟩ := rv.tupE
    refine .inr ⟨a, vs, rfl, SqT.of ht, fun hw => ?_, fun _ => ?_⟩
    · rw [← hs.len] at hw
      rw [sIx_whole rfl hw] at h
      exact h.here r (by unfold RV; exact ⟨a, vs, rfl, ht, hs⟩)
    · refine fin_tup r ?_ h
      unfold cutV cutL
      rw [← hs.len]
      exact (hs.drop _).take _
  · rename_i ns
    unfold RV at rv
    obtain ⟨a, rfl, h1⟩ := rv
    replace h1 := scr_sq h1
    refine .inl (.inr ⟨a, _, rfl, h1, fin_new r ?_ h⟩)
    have e : cutV (ns.map V.int) lo hi = (cutL ns lo hi).map V.int := by
      unfold cutV cutL
      rw [List.length_map, List.map_take, List.map_drop]
    rw [e]
    exact RVs.ints _
  · split at h
    · rename_i xs hn
      obtain ⟨a, vs, rfl, ha, hs⟩ := lsO_ok r rv hn
      refine .inl (.inr ⟨a, vs, rfl, SqL.of ha, fin_new r ?_ h⟩)
      unfold cutV cutL
      rw [← hs.len]
      exact (hs.drop _).take _
    · exact h.elim
theorem pl_sl {t : Bool} {lo hi : Option Expr} {fl fh : Option LE} {p2 : Pos} (ha : PE X a (tL X.K T ξ W fa)) (hl : PO X lo (tPO X T ξ W fl)) (hh : PO X hi (tPO X T ξ W fh)) : PE X (.Subscript a (.Slice lo hi none p2) pos) (tL X.K T ξ W (lSlG t fa fl fh)) :=
  pe_imp (pe_slice sl_U ha hl hh) fun σ H Q ⟨m, S, ds, r0, rs, h⟩ => tL.bind r0 rs h fun v S1 m1 H1 x E r1 rs1 rv h1 => tPO.bind r1 rs1 h1 fun l S2 m2 H2 E2 r2 rs2 h2 => tPO.bind r2 rs2 h2 fun u S3 m3 H3 E3 r3 rs3 h3 =>
    slO_ok r3 ((rv.mono E2).mono E3) h3

/-! ### built-in functions -/
abbrev OpN := List LV → Sto → R
def CallL (K : PySem.W.Frag) (T : Env1) (r : List V → Hp → VK → Prop) (o : OpN) : Prop := ∀ m S H vs xs Q W, RelS K T m S H → RVs K m H vs xs → PoE K T m H (o vs S) Q W → r xs H Q
def lBi (o : OpN) (fa : LA) : LE := fun ds S => (fa ds S).bind o
theorem tCB_of {r : List V → Hp → VK → Prop} {o : OpN} {ga : LA} (hl : CallL X.K T r o) : ∀ σ H Q, tL X.K T ξ W (lBi o ga) σ H Q → tCB r (tLA X.K T ξ W ga) σ H Q :=
  fun σ H Q ⟨m, S, ds, r0, rs, h⟩ => tLA.bind r0 rs h fun v S1 m1 H1 x E r1 rs1 rv h1 => hl _ _ _ _ _ _ _ r1 rv h1
theorem pl_bi {x : Str} {p : Pos} {es : List Expr} {id : String} {r : List V → Hp → VK → Prop} {o : OpN} {ga : LA} (hc : CallR X (.builtin id) r) (hl : CallL X.K T r o) (hg : Gl X x) (hm : X.mg x = none) (hv : bootBuiltins x = some (.builtin id)) (ha : PA X (e :: es) (tLA X.K T ξ W ga))
    (hn : x ≠ "__name__" := by decide) (hdb : (x == ("__debug__" : Str)) = false := by decide)
    (he : starEach (e :: es) X.env = (false, eval e X.env) :: starEach es X.env := by rfl) (hpl : (backTo pos (starEach es X.env)).any (·.1) = false := by rfl) : PE X (.Call (.Name x p) (e :: es) [] pos) (tL X.K T ξ W (lBi o ga)) :=
  pe_imp (pe_callB hc hg hm hv ha hn hdb he hpl) (tCB_of hl)
theorem pl_bty {x : Str} {p : Pos} {es : List Expr} {n : String} {r : List V → Hp → VK → Prop} {o : OpN} {ga : LA} (hc : CallR X (.type n) r) (hl : CallL X.K T r o) (hg : Gl X x) (hm : X.mg x = none) (hv : bootBuiltins x = some (.type n)) (ha : PA X (e :: es) (tLA X.K T ξ W ga))
    (hn : x ≠ "__name__" := by decide) (hdb : (x == ("__debug__" : Str)) = false := by decide)
    (he : starEach (e :: es) X.env = (false, eval e X.env) :: starEach es X.env := by rfl) (hpl : (backTo pos (starEach es X.env)).any (·.1) = false := by rfl) : PE X (.Call (.Name x p) (e :: es) [] pos) (tL X.K T ξ W (lBi o ga)) :=
  pe_imp (pe_callTy hc hg hm hv ha hn hdb he hpl) (tCB_of hl)
end
section
variable {K : PySem.W.Frag} {T : Env1}
theorem RVs.one {m : List Addr} {H : Hp} {v : LV} {xs : List V} (h : RVs K m H [v] xs) : ∃ x, xs = [x] ∧ RV K m H v x := by
  unfold RVs at h
  obtain ⟨x, r, rfl, h1, h2⟩ := h
  rw [h2.nilE]
  exact ⟨x, rfl, h1⟩
theorem RVs.two {m : List Addr} {H : Hp} {v w : LV} {xs : List V} (h : RVs K m H [v, w] xs) : ∃ x y, xs = [x, y] ∧ RV K m H v x ∧ RV K m H w y := by
  unfold RVs at h
  obtain ⟨x, r, rfl, h1, h2⟩ := h
  obtain ⟨y, rfl, h3⟩ := h2.one
  exact ⟨x, y, rfl, h1, h3⟩
/-- len -/
def lenO (v : LV) (S : Sto) : Option Nat := match v with
  | .str z => if okStr z = true then some z.length else none
  | .tup xs => some xs.length
  | .ktp xs => some xs.length
  | .scr ns => some ns.length
  | .lst xs => some xs.length
  | .ref n => match S[n]? with
    | some (.lst xs) => some xs.length
    | some (.dct kvs) => some kvs.length
    | _ => none
  | _ => none
def lenL : OpN
  | [v], S => match lenO v S with
    | some n => .ok (.int n) S
    | none => .no
  | _, _ => .no
def rLenU (K : PySem.W.Frag) : List V → Hp → VK → Prop := fun xs H Q => (∃ x n, xs = [x] ∧ LenV K x H n ∧ Q (.int n) H) ∨ (∃ a kvs, xs = [V.ref a] ∧ H a = some (.dK kvs) ∧ Q (.int kvs.length) H)
theorem cr_lenU {X : Cx} : CallR X (.builtin "len") (rLenU X.K) := CallR.or call_len call_lenD
theorem cl_len : CallL K T (rLenU K) lenL := fun m S H vs xs Q W r rv h => by
  unfold lenL at h
  split at h
  · rename_i v
    obtain ⟨x, rfl, rx⟩ := rv.one
    split at h
    · rename_i n hn
      have q := h.here r (x := .int n) rfl
      unfold lenO at hn
      split at hn
      · split at hn
        · rename_i hz
          cases hn
          cases (show x = .str _ from rx)
          exact .inl ⟨_, _, rfl, ⟨small_ok hz, rfl⟩, q⟩
        · cases hn
      · cases hn
        obtain ⟨a, vs, rfl, ht, hs⟩ := rx.tupE
        exact .inl ⟨_, _, rfl, .inr ⟨vs, SqT.of ht, hs.len⟩, q⟩
      · cases hn
        unfold RV at rx
        obtain ⟨a, vs, rfl, ht, hs⟩ := rx
        exact .inl ⟨_, _, rfl, .inr ⟨vs, ht _, hs.len⟩, q⟩
      · cases hn
        unfold RV at rx
        obtain ⟨a, rfl, h1⟩ := rx
        exact .inl ⟨_, _, rfl, .inl ⟨_, scr_sq h1, by rw [List.length_map]⟩, q⟩
      · cases hn
        obtain ⟨a, vs, rfl, _, ha, hs⟩ := rx.lstE
        exact .inl ⟨_, _, rfl, .inl ⟨vs, SqL.of ha, hs.len⟩, q⟩
      · split at hn
        · rename_i ys e
          cases hn
          obtain ⟨a, vs, rfl, _, ha, hs⟩ := rx.lst r e
          exact .inl ⟨_, _, rfl, .inl ⟨vs, SqL.of ha, hs.len⟩, q⟩
        · rename_i kvs e
          cases hn
          unfold RV at rx
          obtain ⟨a, rfl, hm⟩ := rx
          obtain ⟨ws, h1, h2, h3⟩ := r.at hm e
          have hl : ws.length = kvs.length := by
            have := congrArg List.length h2
            simpa using this
          exact .inr ⟨a, ws, rfl, h1, by rw [hl]; exact q⟩
        · cases hn
      · cases hn
    · exact h.elim
  · exact h.elim
/-- isinstance -/
def kindL (v : LV) (S : Sto) : Option String := match v with
  | .non => some "NoneType"
  | .bl _ => some "bool"
  | .int _ => some "int"
  | .str _ => some "str"
  | .tup _ => some "tuple"
  | .lst _ => some "list"
  | .ref n => match S[n]? with
    | some (.lst _) => some "list"
    | some (.dct _) => some "dict"
    | some (.dcT _) => some "dict"
    | _ => none
  | _ => none
def isiT (k n : String) : Option Bool := if n = "int" ∨ n = "bool" ∨ n = "str" ∨ n = "list" ∨ n = "tuple" ∨ n = "dict" then some (decide (k = n) || (decide (k = "bool") && decide (n = "int"))) else none
def isiL : OpN
  | [v, .ty n], S => match kindL v S with
    | some k => match isiT k n with
      | some b => .ok (.bl b) S
      | none => .no
    | none => .no
  | _, _ => .no
theorem kit_all {k n : String} {b : Bool} (hk : k = "NoneType" ∨ k = "bool" ∨ k = "int" ∨ k = "str" ∨ k = "tuple" ∨ k = "list" ∨ k = "dict") (h : isiT k n = some b) : kitB k n = some b := by
  unfold isiT at h
  split at h
  · rename_i hn
    cases h
    rcases hk with rfl | rfl | rfl | rfl | rfl | rfl | rfl <;> rcases hn with rfl | rfl | rfl | rfl | rfl | rfl <;> decide +kernel
  · cases h
theorem cl_isi : CallL K T (rIsi K) isiL := fun m S H vs xs Q W r rv h => by
  unfold isiL at h
  split at h
  · rename_i v n
    obtain ⟨x, y, rfl, rx, ry⟩ := rv.two
    cases (show y = .ty n from ry)
    split at h
    · rename_i k hk
      split at h
      · rename_i b hb
        have q := h.here r (x := .bl b) rfl
        have fin : ∀ t : Value, t = .type k → TyX K H x t → (k = "NoneType" ∨ k = "bool" ∨ k = "int" ∨ k = "str" ∨ k = "tuple" ∨ k = "list" ∨ k = "dict") → rIsi K [x, .ty n] H Q := fun t et ht hk => by
          subst et
          exact ⟨x, .ty n, _, _, b, rfl, .ty n, ht, kit_ty (kit_all hk hb), q⟩
        unfold kindL at hk
        split at hk
        · cases hk
          cases (show x = .non from rx)
          exact fin _ rfl (.base .non) (by simp)
        · cases hk
          cases (show x = .bl _ from rx)
          exact fin _ rfl (.base (.bl _)) (by simp)
        · cases hk
          cases (show x = .int _ from rx)
          exact fin _ rfl (.base (.int _)) (by simp)
        · cases hk
          cases (show x = .str _ from rx)
          exact fin _ rfl (.base (.str _)) (by simp)
        · cases hk
          obtain ⟨a, vs, rfl, ht, hs⟩ := rx.tupE
          exact fin _ rfl (.base (.tup ht)) (by simp)
        · cases hk
          obtain ⟨a, vs, rfl, _, ha, hs⟩ := rx.lstE
          exact fin _ rfl (.base (.lst ha)) (by simp)
        · split at hk
          · rename_i e
            cases hk
            obtain ⟨a, vs, rfl, _, ha, hs⟩ := rx.lst r e
            exact fin _ rfl (.base (.lst ha)) (by simp)
          · rename_i e
            cases hk
            unfold RV at rx
            obtain ⟨a, rfl, hm⟩ := rx
            obtain ⟨ws, h1, h2, h3⟩ := r.at hm e
            exact fin _ rfl (.base (.dK h1)) (by simp)
          · rename_i e
            cases hk
            unfold RV at rx
            obtain ⟨a, rfl, hm⟩ := rx
            obtain ⟨ws, h1, h2, h3⟩ := r.at hm e
            exact fin _ rfl (.base (.dT h1)) (by simp)
          · cases hk
        · cases hk
      · exact h.elim
    · exact h.elim
  · exact h.elim
/-- int -/
def intL : OpN
  | [.int i], S => .ok (.int i) S
  | [.bl b], S => .ok (.int (if b = true then 1 else 0)) S
  | [.str a], S => match PySem.intText? a with
    | some n => if decide (a.length ≤ 640) = true then .ok (.int n) S else .no
    | none => .no
  | _, _ => .no
def rIntU : List V → Hp → VK → Prop := fun xs H Q => ((∃ i, xs = [.int i] ∧ Q (.int i) H) ∨ ∃ k, xs = [.bl k] ∧ Q (.int (if k then 1 else 0)) H) ∨ (∃ a n, xs = [.str a] ∧ PySem.intText? a = some n ∧ a.length ≤ 640 ∧ Q (.int n) H)
theorem cr_intU {X : Cx} : CallR X (.type "int") rIntU := CallR.or call_int1 call_int_str
theorem cl_int : CallL K T rIntU intL := fun m S H vs xs Q W r rv h => by
  unfold intL at h
  split at h
  · obtain ⟨x, rfl, rx⟩ := rv.one
    cases (show x = .int _ from rx)
    exact .inl (.inl ⟨_, rfl, h.here r rfl⟩)
  · obtain ⟨x, rfl, rx⟩ := rv.one
    cases (show x = .bl _ from rx)
    exact .inl (.inr ⟨_, rfl, h.here r rfl⟩)
  · obtain ⟨x, rfl, rx⟩ := rv.one
    cases (show x = .str _ from rx)
    split at h
    · rename_i n hn
      split at h
      · rename_i hz
        exact .inr ⟨_, n, rfl, hn, of_decide_eq_true hz, h.here r rfl⟩
      · exact h.elim
    · exact h.elim
  · exact h.elim
/-- str of a whole number -/
def okNum (i : Int) : Bool := decide (-bigB ≤ i) && decide (i ≤ bigB)
def strL : OpN
  | [.int i], S => if okNum i = true then .ok (.str (toString i)) S else .no
  | _, _ => .no
theorem cl_str : CallL K T (fun xs H Q => ∃ i, xs = [.int i] ∧ i.natAbs.log2 < 1920 ∧ Q (.str (toString i)) H) strL := fun m S H vs xs Q W r rv h => by
  unfold strL at h
  split at h
  · obtain ⟨x, rfl, rx⟩ := rv.one
    cases (show x = .int _ from rx)
    split at h
    · rename_i hz
      simp only [okNum, Bool.and_eq_true, decide_eq_true_eq] at hz
      exact ⟨_, rfl, Nat.lt_trans (PySem.Flt.log2_lt_of (by decide) (bigB_lt hz.1 hz.2)) (by decide), h.here r rfl⟩
    · exact h.elim
  · exact h.elim
/-- abs, min, max -/
def absL : OpN
  | [.int i], S => .ok (.int (if i < 0 then -i else i)) S
  | _, _ => .no
theorem cl_abs : CallL K T (fun xs H Q => ∃ i, xs = [.int i] ∧ Q (.int (if i < 0 then -i else i)) H) absL := fun m S H vs xs Q W r rv h => by
  unfold absL at h
  split at h
  · obtain ⟨x, rfl, rx⟩ := rv.one
    cases (show x = .int _ from rx)
    exact ⟨_, rfl, h.here r rfl⟩
  · exact h.elim
def maxL : OpN
  | [.int i, .int j], S => .ok (.int (if j > i then j else i)) S
  | _, _ => .no
def minL : OpN
  | [.int i, .int j], S => .ok (.int (if j < i then j else i)) S
  | _, _ => .no
theorem cl_max : CallL K T (fun xs H Q => ∃ i j, xs = [.int i, .int j] ∧ Q (.int (if j > i then j else i)) H) maxL := fun m S H vs xs Q W r rv h => by
  unfold maxL at h
  split at h
  · obtain ⟨x, y, rfl, rx, ry⟩ := rv.two
    cases (show x = .int _ from rx)
    cases (show y = .int _ from ry)
    exact ⟨_, _, rfl, h.here r rfl⟩
  · exact h.elim
theorem cl_min : CallL K T (fun xs H Q => ∃ i j, xs = [.int i, .int j] ∧ Q (.int (if j < i then j else i)) H) minL := fun m S H vs xs Q W r rv h => by
  unfold minL at h
  split at h
  · obtain ⟨x, y, rfl, rx, ry⟩ := rv.two
    cases (show x = .int _ from rx)
    cases (show y = .int _ from ry)
    exact ⟨_, _, rfl, h.here r rfl⟩
  · exact h.elim
/-- the ints of a list -/
def intsL (vs : List LV) : Option (List Int) := seqO (vs.map fun v => match v with
  | .int i => some i
  | _ => none)
theorem intsL_ok {m : List Addr} {H : Hp} : ∀ {vs : List LV} {xs : List V} {ns : List Int}, intsL vs = some ns → RVs K m H vs xs → xs = ns.map V.int
  | [], xs, ns, e, h => by
    cases e
    rw [h.nilE]
    rfl
  | v :: vs, xs, ns, e, h => by
    unfold RVs at h
    obtain ⟨x, r, rfl, h1, h2⟩ := h
    unfold intsL at e
    rw [List.map_cons] at e
    cases v with
    | int i =>
      simp only at e
      unfold seqO at e
      split at e
      · rename_i l hl
        cases e
        rw [List.map_cons, intsL_ok (ns := l) hl h2]
        cases (show x = .int i from h1)
        rfl
      · cases e
    | _ => cases e
def listI (v : LV) (S : Sto) : Option (List Int) := match v with
  | .scr ns => some ns
  | v => match lsO v S with
    | some xs => intsL xs
    | _ => none
theorem listI_ok {m : List Addr} {S : Sto} {H : Hp} {v : LV} {x : V} {ns : List Int} (r : RelS K T m S H) (e : listI v S = some ns) (rv : RV K m H v x) : ∃ a, x = .ref a ∧ SqL K H a (ns.map V.int) := by
  unfold listI at e
  split at e
  · cases e
    unfold RV at rv
    obtain ⟨a, rfl, h1⟩ := rv
    exact ⟨a, rfl, scr_sq h1⟩
  · split at e
    · rename_i xs hn
      obtain ⟨a, vs, rfl, ha, hs⟩ := lsO_ok r rv hn
      exact ⟨a, rfl, SqL.of (by rw [ha, intsL_ok e hs])⟩
    · cases e
def sumL : OpN
  | [v], S => match listI v S with
    | some ns => .ok (.int ns.sum) S
    | none => .no
  | _, _ => .no
theorem cl_sum : CallL K T (rSum K) sumL := fun m S H vs xs Q W r rv h => by
  unfold sumL at h
  split at h
  · obtain ⟨x, rfl, rx⟩ := rv.one
    split at h
    · rename_i ns hn
      obtain ⟨a, rfl, hs⟩ := listI_ok r hn rx
      exact ⟨a, ns, rfl, hs, h.here r rfl⟩
    · exact h.elim
  · exact h.elim
/-- list(..), tuple(..) of what is a list or a tuple -/
def itemsO (v : LV) (S : Sto) : Option (List LV) := match v with
  | .tup xs => some xs
  | .ktp xs => some xs
  | .scr ns => some (ns.map .int)
  | v => lsO v S
theorem itemsO_ok {m : List Addr} {S : Sto} {H : Hp} {v : LV} {x : V} {vs : List LV} (r : RelS K T m S H) (e : itemsO v S = some vs) (rv : RV K m H v x) : ∃ a xs, x = .ref a ∧ (SqL K H a xs ∨ SqT K H a xs) ∧ RVs K m H vs xs := by
  unfold itemsO at e
  split at e
  · cases e
    obtain ⟨a, vs, rfl, ht, hs⟩ := rv.tupE
    exact ⟨a, vs, rfl, .inr (SqT.of ht), hs⟩
  · cases e
    unfold RV at rv
    obtain ⟨a, vs, rfl, ht, hs⟩ := rv
    exact ⟨a, vs, rfl, .inr (ht _), hs⟩
  · cases e
    unfold RV at rv
    obtain ⟨a, rfl, h1⟩ := rv
    exact ⟨a, _, rfl, .inl (scr_sq h1), RVs.ints _⟩
  · obtain ⟨a, vs, rfl, ha, hs⟩ := lsO_ok r rv e
    exact ⟨a, vs, rfl, .inl (SqL.of ha), hs⟩
def listG (t : Bool) : OpN
  | [v], S => match itemsO v S with
    | some vs => newL t vs S
    | none => .no
  | _, _ => .no
abbrev listL := listG false
abbrev listT := listG true
theorem cl_list {t : Bool} : CallL K T (fun xs H Q => ∃ p ys, xs = [.ref p] ∧ (SqL K H p ys ∨ SqT K H p ys) ∧ ∀ l, H l = none → Q (.ref l) (upd H l (.lst ys))) (listG t) := fun m S H vs xs Q W r rv h => by
  unfold listG at h
  split at h
  · obtain ⟨x, rfl, rx⟩ := rv.one
    split at h
    · rename_i ys hn
      obtain ⟨a, zs, rfl, h1, h2⟩ := itemsO_ok r hn rx
      exact ⟨a, zs, rfl, h1, fin_new r h2 h⟩
    · exact h.elim
  · exact h.elim
def tupleL : OpN
  | [.tup xs], S => .ok (.tup xs) S
  | [v], S => match lsO v S with
    | some xs => .ok (.tup xs) S
    | _ => .no
  | _, _ => .no
theorem cl_tuple : CallL K T (fun xs H Q => ∃ p ys, xs = [.ref p] ∧ ((SqL K H p ys ∧ ∀ l, H l = none → Q (.ref l) (upd H l (.tup ys))) ∨ (SqT K H p ys ∧ Q (.ref p) H))) tupleL := fun m S H vs xs Q W r rv h => by
  unfold tupleL at h
  split at h
  · obtain ⟨x, rfl, rx⟩ := rv.one
    obtain ⟨a, zs, rfl, ht, hs⟩ := rx.tupE
    exact ⟨a, zs, rfl, .inr ⟨SqT.of ht, h.here r (by unfold RV; exact ⟨a, zs, rfl, ht, hs⟩)⟩⟩
  · obtain ⟨x, rfl, rx⟩ := rv.one
    split at h
    · rename_i ys hn
      obtain ⟨a, zs, rfl, ha, hs⟩ := lsO_ok r rx hn
      exact ⟨a, zs, rfl, .inl ⟨SqL.of ha, fin_tup r hs h⟩⟩
    · exact h.elim
  · exact h.elim
def blsL (vs : List LV) : Option (List Bool) := seqO (vs.map fun v => match v with
  | .bl i => some i
  | _ => none)
theorem blsL_ok {m : List Addr} {H : Hp} : ∀ {vs : List LV} {xs : List V} {ns : List Bool}, blsL vs = some ns → RVs K m H vs xs → xs = ns.map V.bl
  | [], xs, ns, e, h => by
    cases e
    rw [h.nilE]
    rfl
  | v :: vs, xs, ns, e, h => by
    unfold RVs at h
    obtain ⟨x, r, rfl, h1, h2⟩ := h
    unfold blsL at e
    rw [List.map_cons] at e
    cases v with
    | bl i =>
      simp only at e
      unfold seqO at e
      split at e
      · rename_i l hl
        cases e
        rw [List.map_cons, blsL_ok (ns := l) hl h2]
        cases (show x = .bl i from h1)
        rfl
      · cases e
    | _ => cases e
def allL : OpN
  | [v], S => match lsO v S with
    | some xs => match blsL xs with
      | some bs => .ok (.bl (bs.all id)) S
      | none => .no
    | _ => .no
  | _, _ => .no
theorem cl_all : CallL K T (rAll K) allL := fun m S H vs xs Q W r rv h => by
  unfold allL at h
  split at h
  · obtain ⟨x, rfl, rx⟩ := rv.one
    split at h
    · rename_i ys hn
      split at h
      · rename_i bs hb
        obtain ⟨a, zs, rfl, ha, hs⟩ := lsO_ok r rx hn
        exact ⟨a, bs, rfl, SqL.of (by rw [ha, blsL_ok hb hs]), h.here r rfl⟩
      · exact h.elim
    · exact h.elim
  · exact h.elim
end
end LL


set_option Elab.async false
set_option linter.all false
set_option maxRecDepth 100000
set_option maxHeartbeats 2000000
/-! The logical layer: methods of built-in types, calls, statements, loops, comprehensions. -/
namespace LL
open PySem PySem.Spec PyProof.Rows L2

/-! ### methods of built-in types -/
abbrev OpM := LV → List LV → Sto → R
def MtL (K : PySem.W.Frag) (T : Env1) (r : V → List V → Hp → VK → Prop) (o : OpM) : Prop := ∀ m S H v vs x xs Q W, RelS K T m S H → RV K m H v x → RVs K m H vs xs → PoE K T m H (o v vs S) Q W → r x xs H Q
def isT (n : String) (v : LV) (S : Sto) : Bool := match v with
  | .str _ => decide (n = "str")
  | .scr _ => decide (n = "list")
  | .lst _ => decide (n = "list")
  | .ref k => match S[k]? with
    | some (.lst _) => decide (n = "list")
    | some (.dct _) => decide (n = "dict")
    | some (.dcT _) => decide (n = "dict")
    | _ => false
  | _ => false
def gateK (n : String) (k : LV → Sto → R) : LV → Sto → R := fun v S => if isT n v S = true then k v S else .no
def lBm0 (n : String) (o : OpM) (fo : LE) : LE := fun ds S => (fo ds S).bind (gateK n fun v S1 => o v [] S1)
def lBm (n : String) (o : OpM) (fo : LE) (fa : LA) : LE := fun ds S => (fo ds S).bind (gateK n fun v S1 => (fa ds S1).bind fun vs S2 => o v vs S2)
section
variable {K : PySem.W.Frag} {T : Env1}
theorem isT_ok {m : List Addr} {S : Sto} {H : Hp} {v : LV} {x : V} {n : String} (r : RelS K T m S H) (e : isT n v S = true) (rv : RV K m H v x) : tyV K n x H := by
  unfold isT at e
  split at e
  · have := of_decide_eq_true e
    subst this
    cases (show x = .str _ from rv)
    rfl
  · have := of_decide_eq_true e
    subst this
    unfold RV at rv
    obtain ⟨a, rfl, h1⟩ := rv
    exact .inl ⟨rfl, _, scr_sq h1⟩
  · have := of_decide_eq_true e
    subst this
    obtain ⟨a, vs, rfl, _, ha, hs⟩ := rv.lstE
    exact .inl ⟨rfl, _, SqL.of ha⟩
  · split at e
    · rename_i xs hn
      have := of_decide_eq_true e
      subst this
      obtain ⟨a, vs, rfl, _, ha, hs⟩ := rv.lst r hn
      exact .inl ⟨rfl, _, SqL.of ha⟩
    · rename_i kvs hn
      have := of_decide_eq_true e
      subst this
      unfold RV at rv
      obtain ⟨a, rfl, hm⟩ := rv
      obtain ⟨ws, h1, h2, h3⟩ := r.at hm hn
      exact .inr (.inr (.inl ⟨rfl, .inl ⟨_, h1⟩⟩))
    · rename_i kvs hn
      have := of_decide_eq_true e
      subst this
      unfold RV at rv
      obtain ⟨a, rfl, hm⟩ := rv
      obtain ⟨ws, h1, h2, h3⟩ := r.at hm hn
      exact .inr (.inr (.inl ⟨rfl, .inr ⟨_, h1⟩⟩))
    · cases e
  · cases e
end
section
variable {X : Cx} {T : Env1} {ξ : Xi} {W : WX} {e a b c o : Expr} {es : List Expr} {pos cpos apos : Pos} {fa fb fc fo : LE} {ga : LA} {k : Nat} {n id : String} {name : Str} {r : V → List V → Hp → VK → Prop} {om : OpM}
theorem pl_bm0 (pa : PlainAttrs n) (slot : Slot n name id) (hty : typeOf (.builtin id) = pure (.type "method_descriptor")) (hm : MtR X id r) (hl : MtL X.K T r om) (ho : PE X o (tL X.K T ξ W fo))
    (hbase : attributeBase o name X.env (eval o X.env) = eval o X.env := by rfl) (hline : (apos.endLine == cpos.line) = true := by rfl) : PE X (.Call (.Attribute o name apos) [] [] cpos) (tL X.K T ξ W (lBm0 n om fo)) :=
  pe_imp (pe_bm0 pa slot hty hm ho hbase hline) fun σ H Q ⟨m, S, ds, r0, rs, h⟩ => tL.bind r0 rs h fun v S1 m1 H1 x E r1 rs1 rv h1 => by
    unfold gateK at h1
    split at h1
    · rename_i ht
      exact ⟨isT_ok r1 ht rv, hl _ _ _ _ _ _ _ _ _ r1 rv RVs.nil h1⟩
    · exact h1.elim
theorem pl_bm (pa : PlainAttrs n) (slot : Slot n name id) (hty : typeOf (.builtin id) = pure (.type "method_descriptor")) (hm : MtR X id r) (hl : MtL X.K T r om) (ho : PE X o (tL X.K T ξ W fo)) (ha : PA X (e :: es) (tLA X.K T ξ W ga))
    (hbase : attributeBase o name X.env (eval o X.env) = eval o X.env := by rfl)
    (hfew : ((backTo cpos (starEach (e :: es) X.env)).all (fun x => !x.1) && (backToKw cpos (keywordEach [] X.env)).all (fun x => x.1.isSome)
      && decide ((e :: es).length + ([] : List Keyword).length + (if ([] : List Keyword).isEmpty then 0 else 1) < 30)) = true := by rfl)
    (hline : (apos.endLine == cpos.line) = true := by rfl) (hs : starEach (e :: es) X.env = (false, eval e X.env) :: starEach es X.env := by rfl) (hplain : (backTo cpos (starEach es X.env)).any (·.1) = false := by rfl) :
    PE X (.Call (.Attribute o name apos) (e :: es) [] cpos) (tL X.K T ξ W (lBm n om fo ga)) :=
  pe_imp (pe_bm pa slot hty hm ho ha hbase hfew hline hs hplain) fun σ H Q ⟨m, S, ds, r0, rs, h⟩ => tL.bind r0 rs h fun v S1 m1 H1 x E r1 rs1 rv h1 => by
    unfold gateK at h1
    split at h1
    · rename_i ht
      exact ⟨isT_ok r1 ht rv, tLA.bind r1 rs1 h1 fun vs S2 m2 H2 xs E2 r2 rs2 rvs h2 => hl _ _ _ _ _ _ _ _ _ r2 (rv.mono E2) rvs h2⟩
    · exact h1.elim
end
section
variable {K : PySem.W.Frag} {T : Env1}
/-- the texts of a list -/
def strsL (vs : List LV) : Option (List Str) := seqO (vs.map fun v => match v with
  | .str i => some i
  | _ => none)
theorem strsL_ok {m : List Addr} {H : Hp} : ∀ {vs : List LV} {xs : List V} {ns : List Str}, strsL vs = some ns → RVs K m H vs xs → xs = ns.map V.str
  | [], xs, ns, e, h => by
    cases e
    rw [h.nilE]
    rfl
  | v :: vs, xs, ns, e, h => by
    unfold RVs at h
    obtain ⟨x, r, rfl, h1, h2⟩ := h
    unfold strsL at e
    rw [List.map_cons] at e
    cases v with
    | str i =>
      simp only at e
      unfold seqO at e
      split at e
      · rename_i l hl
        cases e
        rw [List.map_cons, strsL_ok (ns := l) hl h2]
        cases (show x = .str i from h1)
        rfl
      · cases e
    | _ => cases e
def joinL2 : OpM
  | .str a, [w], S => match itemsO w S with
    | some vs => match strsL vs with
      | some ys => if decide ((ys.map (·.length)).sum + ys.length * a.length ≤ 16777216) = true then .ok (.str (Txt.join a ys)) S else .no
      | none => .no
    | none => .no
  | _, _, _ => .no
theorem ml_join : MtL K T (fun x xs H Q => ∃ a p, ∃ ys : List Str, x = .str a ∧ xs = [.ref p] ∧ (SqL K H p (ys.map V.str) ∨ SqT K H p (ys.map V.str)) ∧ (ys.map (·.length)).sum + ys.length * a.length ≤ 16777216 ∧ Q (.str (Txt.join a ys)) H) joinL2 :=
  fun m S H v vs x xs Q W r rv rvs h => by
    unfold joinL2 at h
    split at h
    · rename_i w
      obtain ⟨y, rfl, ry⟩ := rvs.one
      split at h
      · rename_i us hu
        split at h
        · rename_i ys hy
          split at h
          · rename_i hz
            obtain ⟨a, zs, rfl, hs, h2⟩ := itemsO_ok r hu ry
            have e := strsL_ok hy h2
            subst e
            exact ⟨_, a, ys, rv, rfl, hs, of_decide_eq_true hz, h.here r rfl⟩
          · exact h.elim
        · exact h.elim
      · exact h.elim
    · exact h.elim
def splitG (t : Bool) : OpM
  | .str a, [.str b], S => if (decide (b.length ≠ 0) && small (a.length + 2)) = true then newL t ((Txt.split a b).map .str) S else .no
  | _, _, _ => .no
abbrev splitL := splitG false
abbrev splitT := splitG true
theorem ml_split {t : Bool} : MtL K T (fun x xs H Q => ∃ a b, x = .str a ∧ xs = [.str b] ∧ (b.length == 0) = false ∧ a.length + 2 ≤ sizeLine ∧ rNewStrs (Txt.split a b) H Q) (splitG t) := fun m S H v vs x xs Q W r rv rvs h => by
  unfold splitG at h
  split at h
  · rename_i a b
    obtain ⟨y, rfl, ry⟩ := rvs.one
    split at h
    · rename_i hz
      rw [Bool.and_eq_true] at hz
      cases (show y = .str b from ry)
      exact ⟨a, b, rv, rfl, by have := of_decide_eq_true hz.1; simpa using this, small_ok hz.2, fin_new r (RVs.strs _) h⟩
    · exact h.elim
  · exact h.elim
def startsL : OpM
  | .str a, [.str b], S => .ok (.bl (Txt.startswith a b)) S
  | _, _, _ => .no
theorem ml_starts : MtL K T (fun x xs H Q => ∃ a b, x = .str a ∧ xs = [.str b] ∧ Q (.bl (Txt.startswith a b)) H) startsL := fun m S H v vs x xs Q W r rv rvs h => by
  unfold startsL at h
  split at h
  · obtain ⟨y, rfl, ry⟩ := rvs.one
    cases (show y = .str _ from ry)
    exact ⟨_, _, rv, rfl, h.here r rfl⟩
  · exact h.elim
def sindexL : OpM
  | .str a, [.str b], S => match Builtin.Str.occurrences a b 0 a.length 1 with
    | i :: _ => .ok (.int (i : Nat)) S
    | [] => .no
  | _, _, _ => .no
theorem ml_sindex : MtL K T (fun x xs H Q => ∃ a b i rest, x = .str a ∧ xs = [.str b] ∧ Builtin.Str.occurrences a b 0 a.length 1 = i :: rest ∧ Q (.int (i : Nat)) H) sindexL := fun m S H v vs x xs Q W r rv rvs h => by
  unfold sindexL at h
  split at h
  · obtain ⟨y, rfl, ry⟩ := rvs.one
    cases (show y = .str _ from ry)
    split at h
    · rename_i i rest ho
      exact ⟨_, _, i, rest, rv, rfl, ho, h.here r rfl⟩
    · exact h.elim
  · exact h.elim
/-- xs.append(v); xs.clear() -/
def appendL : OpM
  | .ref n, [v], S => match S[n]? with
    | some (.lst xs) => if small (xs.length + 1) = true then .ok .non (S.set n (.lst (xs ++ [v]))) else .no
    | _ => .no
  | _, _, _ => .no
theorem ml_append : MtL K T rAppend appendL := fun m S H v vs x xs Q W r rv rvs h => by
  unfold appendL at h
  split at h
  · rename_i n v
    obtain ⟨y, rfl, ry⟩ := rvs.one
    split at h
    · rename_i ys hn
      split at h
      · rename_i hz
        obtain ⟨a, zs, rfl, hm, ha, hs⟩ := rv.lst r hn
        refine ⟨a, zs, y, rfl, rfl, ha, ?_, ?_⟩
        · have := small_ok hz
          rw [← hs.len]
          omega
        · have E : Ext m H m (upd H a (.lst (zs ++ [y]))) := Ext.write r (List.mem_of_getElem? hm) ha
          exact h m _ _ E (r.write hm ha ⟨_, upd_same, (hs.append (RVs.cons ry RVs.nil)).mono E⟩) rfl
      · exact h.elim
    · exact h.elim
  · exact h.elim
def clearL : OpM
  | .ref n, [], S => match S[n]? with
    | some (.lst xs) => .ok .non (S.set n (.lst []))
    | _ => .no
  | _, _, _ => .no
theorem ml_clear : MtL K T rClear clearL := fun m S H v vs x xs Q W r rv rvs h => by
  unfold clearL at h
  split at h
  · rename_i n
    have := rvs.nilE
    subst this
    split at h
    · rename_i ys hn
      obtain ⟨a, zs, rfl, hm, ha, hs⟩ := rv.lst r hn
      refine ⟨a, zs, rfl, rfl, ha, ?_⟩
      have E : Ext m H m (upd H a (.lst [])) := Ext.write r (List.mem_of_getElem? hm) ha
      exact h m _ _ E (r.write hm ha ⟨_, upd_same, RVs.nil⟩) rfl
    · exact h.elim
  · exact h.elim
end
section
variable {X : Cx} {T : Env1} {ξ : Xi} {W : WX} {e a b c o : Expr} {es : List Expr} {pos cpos apos : Pos} {fa fb fc fo : LE} {ga : LA} {k : Nat}

end
/-! ### what nobody holds any more -/
mutual
/-- all numbers in it below n -/
def lowV (n : Nat) : LV → Bool
  | .ref k => decide (k < n)
  | .tup xs => lowVs n xs
  | .ktp xs => lowVs n xs
  | .lst xs => lowVs n xs
  | _ => true
def lowVs (n : Nat) : List LV → Bool
  | [] => true
  | v :: vs => lowV n v && lowVs n vs
end
def lowO (n : Nat) : LO → Bool
  | .lst xs => lowVs n xs
  | .dct kvs => lowVs n (kvs.map (·.2))
  | .dcT kvs => lowVs n (kvs.map (·.2))
  | .dck kvs => lowVs n (kvs.map (·.2))
  | .dcl kvs => lowVs n (kvs.map (·.2))
  | .ins _ fs => lowVs n fs
section
variable {K : PySem.W.Frag} {T : Env1} {m m1 m2 t : List Addr} {H H' : Hp} {S S' : Sto} {n : Nat}
mutual
theorem RV.low : ∀ {v : LV} {x : V}, RV K m H v x → lowV m.length v = true
  | .ref n, x, h => by
    unfold RV at h
    obtain ⟨a, _, hn⟩ := h
    exact decide_eq_true (List.getElem?_eq_some_iff.mp hn).1
  | .tup xs, x, h => by
    unfold RV at h
    obtain ⟨_, _, _, _, h⟩ := h
    exact RVs.low h
  | .ktp xs, x, h => by
    unfold RV at h
    obtain ⟨_, _, _, _, h⟩ := h
    exact RVs.low h
  | .lst xs, x, h => by
    unfold RV at h
    obtain ⟨_, _, _, _, _, h⟩ := h
    exact RVs.low h
  | .non, _, _ => rfl
  | .bl _, _, _ => rfl
  | .int _, _, _ => rfl
  | .str _, _, _ => rfl
  | .ty _, _, _ => rfl
  | .scr _, _, _ => rfl
  | .cls _, _, _ => rfl
  | .exc _ _, _, h => h.elim
theorem RVs.low : ∀ {vs : List LV} {xs : List V}, RVs K m H vs xs → lowVs m.length vs = true
  | [], _, _ => rfl
  | v :: vs, xs, h => by
    unfold RVs at h
    obtain ⟨_, _, _, h1, h2⟩ := h
    show (lowV m.length v && lowVs m.length vs) = true
    rw [RV.low h1, RVs.low h2]
    rfl
end
/-- fewer numbers -/
structure Sub (n : Nat) (m1 m2 : List Addr) : Prop where
  sub : ∀ a, a ∈ m2 → a ∈ m1
  get : ∀ k, k < n → m2[k]? = m1[k]?
theorem Sub.cut : Sub m.length (m ++ t) m := ⟨fun a h => List.mem_append_left _ h, fun k h => by rw [List.getElem?_append_left h]⟩
theorem Sub.one {a : Addr} (h : a ∈ m ++ t) : Sub m.length (m ++ t) (m ++ [a]) := ⟨fun b hb => by
  rcases List.mem_append.mp hb with hb | hb
  · exact List.mem_append_left _ hb
  · rw [List.mem_singleton.mp hb]; exact h, fun k h => by rw [List.getElem?_append_left h, List.getElem?_append_left h]⟩
mutual
theorem RV.cut (c : Sub n m1 m2) : ∀ {v : LV} {x : V}, RV K m1 H v x → lowV n v = true → RV K m2 H v x
  | .ref k, x, h, l => by
    unfold RV at h ⊢
    obtain ⟨a, e, hn⟩ := h
    exact ⟨a, e, (c.get k (of_decide_eq_true l)).trans hn⟩
  | .tup xs, x, h, l => by
    unfold RV at h ⊢
    obtain ⟨a, vs, e, ht, h⟩ := h
    exact ⟨a, vs, e, ht, RVs.cut c h l⟩
  | .ktp xs, x, h, l => by
    unfold RV at h ⊢
    obtain ⟨a, vs, e, ht, h⟩ := h
    exact ⟨a, vs, e, ht, RVs.cut c h l⟩
  | .lst xs, x, h, l => by
    unfold RV at h ⊢
    obtain ⟨a, vs, e, hm, ht, h⟩ := h
    exact ⟨a, vs, e, fun z => hm (c.sub a z), ht, RVs.cut c h l⟩
  | .non, _, h, _ => h
  | .bl _, _, h, _ => h
  | .int _, _, h, _ => h
  | .str _, _, h, _ => h
  | .ty _, _, h, _ => h
  | .scr _, _, h, _ => h
  | .cls _, _, h, _ => h
  | .exc _ _, _, h, _ => h
theorem RVs.cut (c : Sub n m1 m2) : ∀ {vs : List LV} {xs : List V}, RVs K m1 H vs xs → lowVs n vs = true → RVs K m2 H vs xs
  | [], _, h, _ => h
  | v :: vs, xs, h, l => by
    unfold RVs at h ⊢
    obtain ⟨y, r, e, h1, h2⟩ := h
    have l' : (lowV n v && lowVs n vs) = true := l
    rw [Bool.and_eq_true] at l'
    exact ⟨y, r, e, RV.cut c h1 l'.1, RVs.cut c h2 l'.2⟩
end
theorem RO.low {a : Addr} {o : LO} (h : RO K T m H a o) : lowO m.length o = true := by
  cases o with
  | lst xs => obtain ⟨vs, _, h2⟩ := h; exact h2.low
  | dct xs => obtain ⟨vs, _, _, h2⟩ := h; exact h2.low
  | dcT xs => obtain ⟨vs, _, _, h2⟩ := h; exact h2.low
  | dck xs => obtain ⟨_, vs, _, _, h2⟩ := h; exact h2.low
  | dcl xs => obtain ⟨_, vs, _, _, h2⟩ := h; exact h2.low
  | ins c xs => obtain ⟨_, vs, _, _, h2⟩ := h; exact h2.low
theorem RO.cut (c : Sub n m1 m2) {a : Addr} {o : LO} (h : RO K T m1 H a o) (l : lowO n o = true) : RO K T m2 H a o := by
  cases o with
  | lst xs => obtain ⟨vs, h1, h2⟩ := h; exact ⟨vs, h1, h2.cut c l⟩
  | dct xs => obtain ⟨vs, h1, h3, h2⟩ := h; exact ⟨vs, h1, h3, h2.cut c l⟩
  | dcT xs => obtain ⟨vs, h1, h3, h2⟩ := h; exact ⟨vs, h1, h3, h2.cut c l⟩
  | dck xs => obtain ⟨dx, vs, h1, h3, h2⟩ := h; exact ⟨dx, vs, h1, h3, h2.cut c l⟩
  | dcl xs => obtain ⟨dx, vs, h1, h3, h2⟩ := h; exact ⟨dx, vs, h1, h3, h2.cut c l⟩
  | ins k xs => obtain ⟨dx, vs, h1, h3, h2⟩ := h; exact ⟨dx, vs, h1, h3, h2.cut c l⟩
/-- younger lists (but p) become such that nobody changes -/
def frzV (S : Sto) (n p : Nat) : Nat → LV → Option LV
  | 0, v => if lowV n v = true then some v else none
  | f + 1, v => if lowV n v = true then some v else match v with
    | .ref k => if k = p then none else match S[k]? with
      | some (.lst xs) => match seqO (xs.map (frzV S n p f)) with
        | some ys => some (.lst ys)
        | none => none
      | _ => none
    | .tup xs => match seqO (xs.map (frzV S n p f)) with
      | some ys => some (.tup ys)
      | none => none
    | .lst xs => match seqO (xs.map (frzV S n p f)) with
      | some ys => some (.lst ys)
      | none => none
    | _ => none
theorem frz_low {S : Sto} {n p f : Nat} {v : LV} (h : lowV n v = true) : frzV S n p f v = some v := by
  cases f <;> (unfold frzV; rw [if_pos h])
theorem frzs_low {S : Sto} {n p f : Nat} : ∀ {vs : List LV}, lowVs n vs = true → seqO (vs.map (frzV S n p f)) = some vs
  | [], _ => rfl
  | v :: vs, h => by
    have h' : (lowV n v && lowVs n vs) = true := h
    rw [Bool.and_eq_true] at h'
    rw [List.map_cons, frz_low h'.1]
    unfold seqO
    rw [frzs_low h'.2]
structure Frz (n p : Nat) (m1 m2 : List Addr) : Prop extends Sub n m1 m2 where
  out : ∀ k a, n ≤ k → k ≠ p → m1[k]? = some a → a ∉ m2
theorem nd_out {m t : List Addr} (nd : (m ++ t).Nodup) {k : Nat} {a : Addr} (h : m.length ≤ k) (ha : (m ++ t)[k]? = some a) : a ∉ m := fun z => by
  obtain ⟨i, hi⟩ := List.mem_iff_getElem?.mp z
  have hi1 := (List.getElem?_eq_some_iff.mp hi).1
  have hi' : (m ++ t)[i]? = some a := by rw [List.getElem?_append_left hi1]; exact hi
  obtain ⟨l1, e1⟩ := List.getElem?_eq_some_iff.mp ha
  obtain ⟨l2, e2⟩ := List.getElem?_eq_some_iff.mp hi'
  have := (List.getElem_inj nd).mp (e1.trans e2.symm)
  omega
theorem Frz.cut {m t : List Addr} {p : Nat} (nd : (m ++ t).Nodup) : Frz m.length p (m ++ t) m := ⟨Sub.cut, fun k a hk _ ha => nd_out nd hk ha⟩
theorem Frz.one {m t : List Addr} {p : Nat} {a : Addr} (nd : (m ++ t).Nodup) (hp : (m ++ t)[p]? = some a) : Frz m.length p (m ++ t) (m ++ [a]) := ⟨Sub.one (List.mem_of_getElem? hp), fun k b hk hkp hb z => by
  rcases List.mem_append.mp z with z | z
  · exact nd_out nd hk hb z
  · rw [List.mem_singleton.mp z] at hb
    obtain ⟨l1, e1⟩ := List.getElem?_eq_some_iff.mp hb
    obtain ⟨l2, e2⟩ := List.getElem?_eq_some_iff.mp hp
    exact hkp ((List.getElem_inj nd).mp (e1.trans e2.symm))⟩
theorem frz_all {f p : Nat} {S : Sto} (ih : ∀ v w x, frzV S n p f v = some w → RV K m1 H v x → RV K m2 H w x) : ∀ (vs ws : List LV) (xs : List V), seqO (vs.map (frzV S n p f)) = some ws → RVs K m1 H vs xs → RVs K m2 H ws xs
  | [], ws, xs, e, h => by
    cases e
    have : xs = [] := by unfold RVs at h; exact h
    rw [this]
    exact RVs.nil
  | v :: vs, ws, xs, e, h => by
    unfold RVs at h
    obtain ⟨x, r, rfl, h1, h2⟩ := h
    rw [List.map_cons] at e
    cases q : frzV S n p f v with
    | none => rw [q] at e; cases e
    | some d =>
      rw [q] at e
      unfold seqO at e
      split at e
      · rename_i l hl
        cases e
        exact RVs.cons (ih v d x q h1) (frz_all ih vs l r hl h2)
      · cases e
theorem frz_ok {S' : Sto} {p : Nat} (r' : RelS K T m1 S' H) (c : Frz n p m1 m2) : ∀ (f : Nat) (v w : LV) (x : V), frzV S' n p f v = some w → RV K m1 H v x → RV K m2 H w x := by
  intro f
  induction f with
  | zero =>
    intro v w x e h
    unfold frzV at e
    split at e
    · rename_i l
      cases e
      exact h.cut c.toSub l
    · cases e
  | succ f ih =>
    intro v w x e h
    unfold frzV at e
    split at e
    · rename_i l
      cases e
      exact h.cut c.toSub l
    · rename_i nl
      split at e
      · rename_i k
        split at e
        · cases e
        · rename_i kp
          split at e
          · rename_i xs hk
            split at e
            · rename_i ys hy
              cases e
              obtain ⟨a, vs, rfl, hm, ha, hs⟩ := h.lst r' hk
              unfold RV
              refine ⟨a, vs, rfl, c.out k a ?_ kp hm, ha, frz_all ih xs ys vs hy hs⟩
              have : ¬ k < n := fun z => nl (decide_eq_true z)
              omega
            · cases e
          · cases e
      · rename_i xs
        split at e
        · rename_i ys hy
          cases e
          obtain ⟨a, vs, rfl, ha, hs⟩ := h.tupE
          unfold RV
          exact ⟨a, vs, rfl, ha, frz_all ih xs ys vs hy hs⟩
        · cases e
      · rename_i xs
        split at e
        · rename_i ys hy
          cases e
          obtain ⟨a, vs, rfl, na, ha, hs⟩ := h.lstE
          unfold RV
          exact ⟨a, vs, rfl, fun z => na (c.sub a z), ha, frz_all ih xs ys vs hy hs⟩
        · cases e
      · cases e
/-- the values of an object -/
def valsO : LO → List LV
  | .lst xs => xs
  | .dct kvs => kvs.map (·.2)
  | .dcT kvs => kvs.map (·.2)
  | .dck kvs => kvs.map (·.2)
  | .dcl kvs => kvs.map (·.2)
  | .ins _ vs => vs
def withO : LO → List LV → LO
  | .lst _, ys => .lst ys
  | .dct kvs, ys => .dct ((kvs.map (·.1)).zip ys)
  | .dcT kvs, ys => .dcT ((kvs.map (·.1)).zip ys)
  | .dck kvs, ys => .dck ((kvs.map (·.1)).zip ys)
  | .dcl kvs, ys => .dcl ((kvs.map (·.1)).zip ys)
  | .ins c _, ys => .ins c ys
def frzO (S : Sto) (n p f : Nat) (o : LO) : Option LO := if lowO n o = true then some o else match seqO ((valsO o).map (frzV S n p f)) with
  | some ys => some (withO o ys)
  | none => none
theorem seqO_len {α : Type} : ∀ {l : List (Option α)} {r : List α}, seqO l = some r → r.length = l.length
  | [], r, h => by cases h; rfl
  | none :: l, r, h => by cases h
  | some a :: l, r, h => by
    unfold seqO at h
    split at h
    · rename_i r' hr
      cases h
      rw [List.length_cons, List.length_cons, seqO_len hr]
    · cases h
theorem zip_fst {κ : Type} {ks : List κ} {ys : List LV} (h : ks.length = ys.length) : (ks.zip ys).map (·.1) = ks ∧ (ks.zip ys).map (·.2) = ys := by
  induction ks generalizing ys with
  | nil => cases ys with | nil => exact ⟨rfl, rfl⟩ | cons y ys => simp at h
  | cons k ks ih =>
    cases ys with
    | nil => simp at h
    | cons y ys =>
      obtain ⟨h1, h2⟩ := ih (ys := ys) (by simpa using h)
      exact ⟨by rw [List.zip_cons_cons, List.map_cons, h1], by rw [List.zip_cons_cons, List.map_cons, h2]⟩
theorem RO.frz {S' : Sto} {p f : Nat} {a : Addr} {o o' : LO} (r' : RelS K T m1 S' H) (c : Frz n p m1 m2) (e : frzO S' n p f o = some o') (h : RO K T m1 H a o) : RO K T m2 H a o' := by
  unfold frzO at e
  split at e
  · rename_i l
    cases e
    exact h.cut c.toSub l
  · split at e
    · rename_i ys hy
      cases e
      have hl := seqO_len hy
      rw [List.length_map] at hl
      have key := fun xs h => frz_all (frz_ok r' c f) (valsO o) ys xs hy h
      cases o with
      | lst xs => obtain ⟨vs, h1, h2⟩ := h; exact ⟨vs, h1, key vs h2⟩
      | dct kvs =>
        obtain ⟨vs, h1, h3, h2⟩ := h
        obtain ⟨z1, z2⟩ := zip_fst (ks := kvs.map (·.1)) (ys := ys) (by rw [hl]; simp [valsO])
        exact ⟨vs, h1, h3.trans z1.symm, by rw [z2]; exact key _ h2⟩
      | dcT kvs =>
        obtain ⟨vs, h1, h3, h2⟩ := h
        obtain ⟨z1, z2⟩ := zip_fst (ks := kvs.map (·.1)) (ys := ys) (by rw [hl]; simp [valsO])
        exact ⟨vs, h1, h3.trans z1.symm, by rw [z2]; exact key _ h2⟩
      | dck kvs =>
        obtain ⟨od, vs, h1, h3, h2⟩ := h
        obtain ⟨z1, z2⟩ := zip_fst (ks := kvs.map (·.1)) (ys := ys) (by rw [hl]; simp [valsO])
        exact ⟨od, vs, h1, h3.trans z1.symm, by rw [z2]; exact key _ h2⟩
      | dcl kvs =>
        obtain ⟨od, vs, h1, h3, h2⟩ := h
        obtain ⟨z1, z2⟩ := zip_fst (ks := kvs.map (·.1)) (ys := ys) (by rw [hl]; simp [valsO])
        exact ⟨od, vs, h1, h3.trans z1.symm, by rw [z2]; exact key _ h2⟩
      | ins k vs =>
        obtain ⟨dx, ws, h1, h3, h2⟩ := h
        have hl' : ys.length = vs.length := hl
        exact ⟨dx, ws, h1, by rw [hl']; exact h3, key _ h2⟩
    · cases e
end
open Classical in
/-- what the older objects are behind a call -/
noncomputable def gcO (S S' : Sto) (p i : Nat) : Option LO := if S'[i]? = S[i]? then S[i]? else match S'[i]? with
  | some o => frzO S' S.length p 60 o
  | none => none
noncomputable def gcS (S S' : Sto) (p : Nat) : Option Sto := seqO ((List.range S.length).map (gcO S S' p))
theorem seqO_get {α : Type} : ∀ {l : List (Option α)} {r : List α} {i : Nat}, seqO l = some r → i < l.length → l[i]? = some r[i]?
  | [], r, i, h, hi => by simp at hi
  | none :: l, r, i, h, hi => by cases h
  | some a :: l, r, i, h, hi => by
    unfold seqO at h
    split at h
    · rename_i r' hr
      cases h
      cases i with
      | zero => rfl
      | succ i => simpa using seqO_get (i := i) hr (by simpa using hi)
    · cases h
theorem seqO_of {α : Type} : ∀ {l : List (Option α)} {r : List α}, r.length = l.length → (∀ i, i < l.length → l[i]? = some r[i]?) → seqO l = some r
  | [], r, h, _ => by
    have : r = [] := List.eq_nil_of_length_eq_zero h
    rw [this]; rfl
  | o :: l, [], h, _ => by simp at h
  | o :: l, a :: r, h, k => by
    have h0 := k 0 (by simp)
    simp at h0
    subst h0
    unfold seqO
    rw [seqO_of (l := l) (r := r) (by simpa using h) fun i hi => by simpa using k (i + 1) (by simpa using hi)]
theorem gcS_get {S S' S2 : Sto} {p i : Nat} (h : gcS S S' p = some S2) (hi : i < S.length) : gcO S S' p i = S2[i]? ∧ S2.length = S.length := by
  have hl := seqO_len h
  simp at hl
  refine ⟨?_, hl⟩
  have := seqO_get (i := i) h (by simpa using hi)
  rw [List.getElem?_map, List.getElem?_range hi] at this
  exact Option.some.inj this
/-- how it is found -/
theorem gcS_of {S S' S2 : Sto} {p : Nat} (hl : S2.length = S.length) (h : ∀ i, i < S.length → (S'[i]? = S[i]? ∧ S2[i]? = S[i]?) ∨ ∃ o o', S'[i]? = some o ∧ S2[i]? = some o' ∧ frzO S' S.length p 60 o = some o' ∧ (o = o' ∨ S[i]? ≠ some o)) : gcS S S' p = some S2 := by
  refine seqO_of (by simpa using hl) fun i hi => ?_
  have hi' : i < S.length := by simpa using hi
  rw [List.getElem?_map, List.getElem?_range hi']
  show some (gcO S S' p i) = some S2[i]?
  congr 1
  unfold gcO
  rcases h i hi' with ⟨h1, h2⟩ | ⟨o, o', h1, h2, h3, h4⟩
  · rw [if_pos h1, h2]
  · split
    · rename_i e
      rcases h4 with rfl | h4
      · rw [h2, ← h1, e]
      · exact absurd (e.symm.trans h1) h4
    · rw [h1, h2]
      exact h3
section
variable {K : PySem.W.Frag} {T : Env1} {m m1 m2 t : List Addr} {H H' : Hp} {S S' S2 : Sto} {n p : Nat}
theorem RelS.old (r : RelS K T m S H) (E : Ext m H (m ++ t) H') (r' : RelS K T (m ++ t) S' H') (c : gcS S S' p = some S2) (hc : Frz m.length p (m ++ t) m2) {i : Nat} {a : Addr} {o : LO} (hi : i < m.length) (ha : m[i]? = some a) (ho : S2[i]? = some o) : RO K T m2 H' a o := by
  have hi' : i < S.length := by rw [← r.len]; exact hi
  have g := (gcS_get c hi').1
  rw [ho] at g
  have ha' : (m ++ t)[i]? = some a := by rw [List.getElem?_append_left hi]; exact ha
  unfold gcO at g
  split at g
  · rename_i e
    have l := (r.ob i a o ha g).low
    exact (r'.ob i a o ha' (e.trans g)).cut hc.toSub l
  · split at g
    · rename_i o1 h1
      refine RO.frz (f := 60) r' hc ?_ (r'.ob i a o1 ha' h1)
      rw [r.len]
      exact g
    · cases g
/-- the younger numbers are dropped -/
theorem RelS.cut (r : RelS K T m S H) (E : Ext m H (m ++ t) H') (r' : RelS K T (m ++ t) S' H') (c : gcS S S' p = some S2) : RelS K T m S2 H' ∧ Ext m H m H' := by
  have hlen : S2.length = S.length := by
    have := seqO_len c
    simpa using this
  exact ⟨⟨by rw [hlen, r.len], r.nd, fun n a o hn ho => r.old E r' c (Frz.cut r'.nd) (List.getElem?_eq_some_iff.mp hn).1 hn ho⟩, ⟨⟨[], by simp⟩, E.fr, fun a h n => absurd h n, E.tup, E.frz⟩⟩
/-- .. but for one -/
theorem RelS.cut1 (r : RelS K T m S H) (E : Ext m H (m ++ t) H') (r' : RelS K T (m ++ t) S' H') (c : gcS S S' p = some S2) {a : Addr} {o : LO} (hp : (m ++ t)[p]? = some a) (na : a ∉ m) (ho : RO K T (m ++ [a]) H' a o) :
    RelS K T (m ++ [a]) (S2 ++ [o]) H' ∧ Ext m H (m ++ [a]) H' := by
  have hlen : S2.length = m.length := by
    have := seqO_len c
    rw [r.len]
    simpa using this
  refine ⟨⟨by simp [hlen], ?_, fun n b u hn hu => ?_⟩, ⟨⟨[a], rfl⟩, E.fr, fun b h n => ?_, E.tup, E.frz⟩⟩
  · rw [List.nodup_append]
    refine ⟨r.nd, by simp, fun x hx b hb z => ?_⟩
    rw [List.mem_singleton.mp hb] at z
    exact na (z ▸ hx)
  · by_cases h : n < m.length
    · rw [List.getElem?_append_left h] at hn
      rw [List.getElem?_append_left (by rw [hlen]; exact h)] at hu
      exact r.old E r' c (Frz.one r'.nd hp) h hn hu
    · rw [List.getElem?_append_right (by omega)] at hn
      rw [List.getElem?_append_right (by omega)] at hu
      have e : n - m.length = 0 := by
        have := (List.getElem?_eq_some_iff.mp hn).1
        simp at this
        exact this
      rw [e] at hn
      rw [hlen, e] at hu
      simp at hn hu
      subst hn hu
      exact ho
  · rcases List.mem_append.mp h with h | h
    · exact absurd h n
    · rw [List.mem_singleton.mp h]
      exact E.new a (List.mem_of_getElem? hp) na
end
/-- what a call leaves: new objects that nobody reaches are dropped, lists told are such that nobody changes -/
noncomputable def gcF (S : Sto) : R → R
  | .ok v S' => match gcS S S' S'.length with
    | some S2 => match frzV S' S.length S'.length 60 v with
      | some w => .ok w S2
      | none => .ok v S'
    | none => .ok v S'
  | .ex c fs S' => match gcS S S' S'.length with
    | some S2 => if lowVs S.length fs = true then .ex c fs S2 else .ex c fs S'
    | none => .ex c fs S'
  | .no => .no
/-- .. but a list that is told has a number -/
noncomputable def gcT (S : Sto) : R → R
  | .ok v S' => match v with
    | .ref k => if S.length ≤ k then (match gcS S S' k with
      | some S2 => match S'[k]? with
        | some (.lst xs) => match seqO (xs.map (frzV S' S.length k 60)) with
          | some ys => .ok (.ref S.length) (S2 ++ [.lst ys])
          | none => .ok v S'
        | _ => .ok v S'
      | none => .ok v S') else .ok v S'
    | .tup vs => .ok (.tup vs) S'
    | .non => .ok .non S'
    | _ => gcF S (.ok v S')
  | r => gcF S r
noncomputable def gcG (t : Bool) (S : Sto) (r : R) : R := if t = true then gcT S r else gcF S r
theorem frzO_low {S : Sto} {n p f : Nat} {o : LO} (h : lowO n o = true) : frzO S n p f o = some o := by unfold frzO; rw [if_pos h]
/-- the older objects stay, or hold older ones alone -/
def SameLow (S S' : Sto) : Prop := S.length ≤ S'.length ∧ ∀ i, i < S.length → S'[i]? = S[i]? ∨ ∃ o, S'[i]? = some o ∧ lowO S.length o = true
theorem lw_app {S U : Sto} : SameLow S (S ++ U) := ⟨by simp, fun i hi => .inl (List.getElem?_append_left hi)⟩
theorem lw_refl {S : Sto} : SameLow S S := ⟨Nat.le_refl _, fun i hi => .inl rfl⟩
theorem lw_set {S S' : Sto} {n : Nat} {o : LO} (h : SameLow S S') (l : lowO S.length o = true) : SameLow S (S'.set n o) := ⟨by rw [List.length_set]; exact h.1, fun i hi => by
  by_cases e : n = i
  · subst e
    exact .inr ⟨o, List.getElem?_set_self (Nat.lt_of_lt_of_le hi h.1), l⟩
  · rw [List.getElem?_set_ne e]
    exact h.2 i hi⟩
theorem lw_more {S S' U : Sto} (h : SameLow S S') : SameLow S (S' ++ U) := ⟨by rw [List.length_append]; exact Nat.le_trans h.1 (Nat.le_add_right _ _), fun i hi => by
  rw [List.getElem?_append_left (Nat.lt_of_lt_of_le hi h.1)]
  exact h.2 i hi⟩
theorem gcS_low {S S' : Sto} {p : Nat} (c : SameLow S S') : gcS S S' p = some (S'.take S.length) := gcS_of (by rw [List.length_take, Nat.min_eq_left c.1]) fun i hi => by
  rw [List.getElem?_take_of_lt hi]
  rcases c.2 i hi with e | ⟨o, e, l⟩
  · exact .inl ⟨e, e⟩
  · exact .inr ⟨o, o, e, e, frzO_low l, .inl rfl⟩
theorem gcF_ok {S S' : Sto} {v : LV} (c : SameLow S S') (h : lowV S.length v = true) : gcF S (.ok v S') = .ok v (S'.take S.length) := by
  unfold gcF
  simp only
  rw [gcS_low c, frz_low h]
/-- one older object has got new lists -/
theorem gcF_set {S U : Sto} {n : Nat} {o o' : LO} {v : LV} (hn : n < S.length) (hne : S[n]? ≠ some o ∨ o = o') (hf : frzO (S.set n o ++ U) S.length (S.set n o ++ U).length 60 o = some o') (h : lowV S.length v = true) : gcF S (.ok v (S.set n o ++ U)) = .ok v (S.set n o') := by
  have c : gcS S (S.set n o ++ U) (S.set n o ++ U).length = some (S.set n o') := gcS_of (by simp) fun i hi => by
    rw [List.getElem?_append_left (by simpa using hi)]
    by_cases e : n = i
    · subst e
      rw [List.getElem?_set_self hn, List.getElem?_set_self hn]
      exact .inr ⟨o, o', rfl, rfl, hf, hne.symm⟩
    · rw [List.getElem?_set_ne e, List.getElem?_set_ne e]
      exact .inl ⟨rfl, rfl⟩
  unfold gcF
  simp only
  rw [c, frz_low h]
theorem gc_low {S U : Sto} {v : LV} (h : lowV S.length v = true) : gcF S (.ok v (S ++ U)) = .ok v S := by
  rw [gcF_ok lw_app h, List.take_left']; rfl
theorem gc_low0 {S : Sto} {v : LV} (h : lowV S.length v = true) : gcF S (.ok v S) = .ok v S := by
  rw [gcF_ok lw_refl h, List.take_length]
/-- as many objects, the older ones changed -/
theorem gc_chg {S S' U : Sto} {v : LV} (c : SameLow S S') (hl : S'.length = S.length) (h : lowV S.length v = true) : gcF S (.ok v (S' ++ U)) = .ok v S' := by
  rw [gcF_ok (lw_more c) h, ← hl, List.take_left']; rfl
theorem gc_chg0 {S S' : Sto} {v : LV} (c : SameLow S S') (hl : S'.length = S.length) (h : lowV S.length v = true) : gcF S (.ok v S') = .ok v S' := by
  rw [gcF_ok c h, ← hl, List.take_length]
theorem gc_frz {S U : Sto} {xs : List LV} {k : Nat} (hk : U[k]? = some (.lst xs)) (l : lowVs S.length xs = true) : gcF S (.ok (.ref (S.length + k)) (S ++ U)) = .ok (.lst xs) S := by
  unfold gcF
  simp only
  rw [gcS_low lw_app]
  have hx : (S ++ U)[S.length + k]? = some (.lst xs) := by rw [List.getElem?_append_right (Nat.le_add_right _ _), Nat.add_sub_cancel_left]; exact hk
  have : frzV (S ++ U) S.length (S ++ U).length 60 (.ref (S.length + k)) = some (.lst xs) := by
    unfold frzV
    rw [if_neg (by simp [lowV])]
    simp only
    rw [if_neg (by have := (List.getElem?_eq_some_iff.mp hx).1; omega), hx]
    simp only
    rw [frzs_low l]
  rw [this]
  simp only
  rw [List.take_left']; rfl
theorem gc_frz0 {S U : Sto} {xs : List LV} (hk : U[0]? = some (.lst xs)) (l : lowVs S.length xs = true) : gcF S (.ok (.ref S.length) (S ++ U)) = .ok (.lst xs) S := gc_frz (k := 0) hk l
theorem gc_ex {S U : Sto} {c : Nat} {fs : List LV} (h : lowVs S.length fs = true) : gcF S (.ex c fs (S ++ U)) = .ex c fs S := by
  unfold gcF
  simp only
  rw [gcS_low lw_app]
  simp only
  rw [if_pos h, List.take_left']; rfl
theorem gc_ex0 {S : Sto} {c : Nat} {fs : List LV} (h : lowVs S.length fs = true) : gcF S (.ex c fs S) = .ex c fs S := by
  have := gc_ex (S := S) (U := []) (c := c) h
  rwa [List.append_nil] at this
theorem gcT_new {S U : Sto} {xs : List LV} {k : Nat} (hk : U[k]? = some (.lst xs)) (l : lowVs S.length xs = true) : gcT S (.ok (.ref (S.length + k)) (S ++ U)) = .ok (.ref S.length) (S ++ [.lst xs]) := by
  unfold gcT
  simp only
  rw [if_pos (Nat.le_add_right _ _), gcS_low lw_app]
  have hx : (S ++ U)[S.length + k]? = some (.lst xs) := by rw [List.getElem?_append_right (Nat.le_add_right _ _), Nat.add_sub_cancel_left]; exact hk
  rw [hx]
  simp only
  rw [frzs_low l]
  simp only
  rw [List.take_left']; rfl
theorem gcT_new0 {S U : Sto} {xs : List LV} (hk : U[0]? = some (.lst xs)) (l : lowVs S.length xs = true) : gcT S (.ok (.ref S.length) (S ++ U)) = .ok (.ref S.length) (S ++ [.lst xs]) := gcT_new (k := 0) hk l
section
variable {K : PySem.W.Frag} {T : Env1} {m t : List Addr} {H H' : Hp} {S S' : Sto} {Q : VK} {W : XK}
theorem gcF_sound {r : R} (r0 : RelS K T m S H) (h : PoE K T m H (gcF S r) Q W) : PoE K T m H r Q W := by
  cases r with
  | no => exact h
  | ok v S' =>
    unfold gcF at h
    simp only at h
    split at h
    · rename_i S2 c
      split at h
      · rename_i w hw
        intro m' H' x E r' rv
        obtain ⟨t, rfl⟩ := E.pre
        obtain ⟨r1, E1⟩ := r0.cut E r' c
        exact h m H' x E1 r1 (frz_ok r' (Frz.cut r'.nd) 60 v w x (by rw [r0.len]; exact hw) rv)
      · exact h
    · exact h
  | ex c fs S' =>
    unfold gcF at h
    simp only at h
    split at h
    · rename_i S2 hc
      split at h
      · rename_i hu
        intro m' H' cls d E r' rx
        obtain ⟨t, rfl⟩ := E.pre
        obtain ⟨r1, E1⟩ := r0.cut E r' hc
        refine h m H' cls d E1 r1 ⟨rx.1, ?_⟩
        rcases rx.2 with q | ⟨v, x, dd, q, q1, q2, q3, q4⟩
        · exact .inl q
        · refine .inr ⟨v, x, dd, q, q1, fun z => q2 (List.mem_append_left _ z), q3, q4.cut Sub.cut ?_⟩
          have l := hu
          rw [q] at l
          have l' : (lowV S.length v && true) = true := l
          rw [Bool.and_true] at l'
          rw [r0.len]; exact l'
      · exact h
    · exact h
theorem gcT_sound {r : R} (r0 : RelS K T m S H) (h : PoE K T m H (gcT S r) Q W) : PoE K T m H r Q W := by
  unfold gcT at h
  split at h
  · rename_i v S'
    split at h
    · rename_i k
      split at h
      · rename_i hk0
        split at h
        · rename_i S2 c
          split at h
          · rename_i xs hk
            split at h
            · rename_i ys hy
              intro m' H' x E r' rv
              obtain ⟨t, rfl⟩ := E.pre
              obtain ⟨a, vs, rfl, hm, ha, hs⟩ := rv.lst r' hk
              have na : a ∉ m := nd_out r'.nd (by rw [r0.len]; exact hk0) hm
              have q1' : RVs K (m ++ [a]) H' ys vs := frz_all (frz_ok r' (Frz.one r'.nd hm) 60) xs ys vs (by rw [r0.len]; exact hy) hs
              obtain ⟨r1, E1⟩ := r0.cut1 (o := .lst ys) E r' c hm na ⟨vs, ha, q1'⟩
              refine h _ H' _ E1 r1 ?_
              unfold RV
              have hl2 : S2.length = S.length := by
                have := seqO_len c
                simpa using this
              exact ⟨a, rfl, by rw [← r0.len, List.getElem?_append_right (Nat.le_refl _), Nat.sub_self] <;> rfl⟩
            · exact h
          · exact h
        · exact h
      · exact h
    · exact h
    · exact h
    · exact gcF_sound r0 h
  · exact gcF_sound r0 h
end
section
variable {X : Cx} {T : Env1} {ξ : Xi} {W : WX} {e a b c o : Expr} {es : List Expr} {pos cpos apos : Pos} {fa fb fc fo : LE} {ga : LA} {k : Nat}

/-! ### calls of the text's own defs -/
def fin : RS → R
  | .nx _ S => .ok .non S
  | .rt v S => .ok v S
  | .ex c fs _ S => .ex c fs S
  | _ => .no
/-- a def of n parameters and so many names -/
noncomputable def mkFnG (t : Bool) (n N : Nat) (g : LS) : Fn := fun xs S => if xs.length = n then gcG t S (fin (g (xs.map some ++ List.replicate (N - n) none) S)) else .no
noncomputable abbrev mkFn := mkFnG false
noncomputable abbrev mkFnT := mkFnG true
theorem gcG_sound {K : PySem.W.Frag} {T : Env1} {m : List Addr} {H : Hp} {S : Sto} {Q : VK} {W : XK} {t : Bool} {r : R} (r0 : RelS K T m S H) (h : PoE K T m H (gcG t S r) Q W) : PoE K T m H r Q W := by
  cases t with
  | true => exact gcT_sound r0 h
  | false => exact gcF_sound r0 h
def lCall (g : Fn) (fa : LA) : LE := fun ds S => (fa ds S).bind g
abbrev ξ0 : Xi := fun _ _ _ => False
abbrev WF : WX := fun _ _ _ _ => False
def spF (K : PySem.W.Frag) (T : Env1) (g : Fn) : Sp := fun vs H Q E => ∃ m S xs, RelS K T m S H ∧ RVs K m H xs vs ∧ PoE K T m H (g xs S) Q E
theorem pl_call {f : Addr} {fd : FuncData} {ps : List Str} {x : Str} {p : Pos} {g : Fn} (F : FnOk X.prog X.w X.K X.mg X.base (L2N.CX X.prog X.w) k f fd ps (spF X.K T g)) (tk : L2N.Takes X W) (hr : Room k X.A) (hg : Gl X x) (hm : X.mg x = some (.ref f)) (hk : PySem.W.keepIn X.K (.ref f) = true) (hb : Binds X.K fd ps [])
    (ha : PA X (e :: es) (tLA X.K T ξ W ga)) (hdb : (x == ("__debug__" : Str)) = false := by decide) (he : starEach (e :: es) X.env = (false, eval e X.env) :: starEach es X.env := by rfl) (hpl : (backTo pos (starEach es X.env)).any (·.1) = false := by rfl) :
    PE X (.Call (.Name x p) (e :: es) [] pos) (tL X.K T ξ W (lCall g ga)) :=
  pe_imp (pe_callS F hr hg hm hk hb (E := WE W) (fun σ => L2N.passAt tk σ) ha hdb he hpl) fun σ H Q ⟨m, S, ds, r0, rs, h⟩ => tLA.bind r0 rs h fun vs S1 m1 H1 xs E r1 rs1 rv h1 => ⟨m1, S1, vs, r1, rv, h1⟩
theorem pl_call0 {f : Addr} {fd : FuncData} {ps : List Str} {x : Str} {p : Pos} {g : Fn} (F : FnOk X.prog X.w X.K X.mg X.base (L2N.CX X.prog X.w) k f fd ps (spF X.K T g)) (tk : L2N.Takes X W) (hr : Room k X.A) (hg : Gl X x) (hm : X.mg x = some (.ref f)) (hk : PySem.W.keepIn X.K (.ref f) = true) (hb : Binds X.K fd ps [])
    (hdb : (x == ("__debug__" : Str)) = false := by decide) :
    PE X (.Call (.Name x p) [] [] pos) (tL X.K T ξ W (lCall g lNil)) := ⟨fun pins s σ H Q I ⟨m, S, ds, r0, rs, h⟩ => by
  refine wpAny_Call_Name_kw (ld_glob I hg hm ?_ hdb)
  exact PySem.W.callWith_K0 I.kIn hk (run_fnS (us := []) F hr hb (E := WE W) (L2N.passAt tk σ) I .nil ⟨m, S, [], r0, RVs.nil, h⟩)⟩
end

/-! ### statements -/
def bindS (r : R) (ds : Sl) (k : LV → Sto → RS) : RS := match r with
  | .ok v S => k v S
  | .ex c fs S => .ex c fs ds S
  | .no => .no
def seqK (b : LS) : RS → RS
  | .nx ds S => b ds S
  | r => r
def lSeq (a b : LS) : LS := fun ds S => seqK b (a ds S)
def lNx : LS := fun ds S => .nx ds S
def lDrop (fe : LE) : LS := fun ds S => bindS (fe ds S) ds fun _ S1 => .nx ds S1
def lRet (fe : LE) : LS := fun ds S => bindS (fe ds S) ds fun v S1 => .rt v S1
def lRetN : LS := fun _ S => .rt .non S
def lBrk : LS := fun ds S => .bk ds S
def lCnt : LS := fun ds S => .ct ds S
def iteS (r r' : Sto → RS) : LV → Sto → RS
  | .bl true, S => r S
  | .bl false, S => r' S
  | _, _ => .no
def lIf (fc : LE) (a b : LS) : LS := fun ds S => bindS (fc ds S) ds (iteS (fun S1 => a ds S1) fun S1 => b ds S1)
/-- a target: what the slots are behind it -/
abbrev LG := LV → Sto → Sl → Option Sl
def gNm (i : Nat) : LG := fun v _ ds => some (ds.set i (some v))
abbrev LGs := List LV → Sto → Sl → Option Sl
def gsNil : LGs := fun vs _ ds => match vs with
  | [] => some ds
  | _ => none
def gsCons (g : LG) (gs : LGs) : LGs := fun vs S ds => match vs with
  | v :: r => match g v S ds with
    | some ds1 => gs r S ds1
    | none => none
  | [] => none
def gTp (gs : LGs) : LG := fun v S ds => match v with
  | .tup xs => gs xs S ds
  | .ktp xs => gs xs S ds
  | .lst xs => gs xs S ds
  | .ref n => match S[n]? with
    | some (.lst xs) => gs xs S ds
    | _ => none
  | _ => none
def asgK (g : LG) (ds : Sl) : LV → Sto → RS := fun v S => match g v S ds with
  | some ds1 => .nx ds1 S
  | none => .no
def lAsg (fe : LE) (g : LG) : LS := fun ds S => bindS (fe ds S) ds (asgK g ds)
def tGL (K : PySem.W.Frag) (T : Env1) (ξ : Xi) (g : LG) : TG := fun x σ H Q => ∃ m S v ds ds', RelS K T m S H ∧ RSl K ξ m H ds σ ∧ RV K m H v x ∧ g v S ds = some ds' ∧ ∀ σ', RSl K ξ m H ds' σ' → Q σ' H
def tGLs (K : PySem.W.Frag) (T : Env1) (ξ : Xi) (g : LGs) : TGs := fun xs σ H Q => ∃ m S vs ds ds', RelS K T m S H ∧ RSl K ξ m H ds σ ∧ RVs K m H vs xs ∧ g vs S ds = some ds' ∧ ∀ σ', RSl K ξ m H ds' σ' → Q σ' H
section
variable {X : Cx} {T : Env1} {ξ : Xi} {W : WX} {e c : Expr} {es : List Expr} {st : Stmt} {sts sb : List Stmt} {pos : Pos} {fe fc : LE} {a b : LS} {lg : LG} {lgs : LGs} {k : Nat}
theorem ps_imp {t t' : TS} (h : PS X st t) (i : ∀ D σ H, t' D σ H → t D σ H) : PS X st t' := ⟨fun pins s σ H D I q => h.run pins s σ H D I (i D σ H q)⟩
theorem pss_imp {t t' : TS} (h : PSs X sts t) (i : ∀ D σ H, t' D σ H → t D σ H) : PSs X sts t' := ⟨fun pins s σ H D I q => h.run pins s σ H D I (i D σ H q)⟩
theorem pg_imp {t t' : TG} (h : PG X e t) (i : ∀ x σ H Q, t' x σ H Q → t x σ H Q) : PG X e t' := ⟨fun pins s σ H v u Q I r q => h.run pins s σ H v u Q I r (i v σ H Q q)⟩
theorem pgs_imp {t t' : TGs} (h : PGs X es t) (i : ∀ x σ H Q, t' x σ H Q → t x σ H Q) : PGs X es t' := ⟨fun pins s σ H v u Q I r q => h.run pins s σ H v u Q I r (i v σ H Q q)⟩
/-- an expression in a statement -/
theorem tL.bindS {σ : L2.St} {m : List Addr} {S : Sto} {H : Hp} {ds : Sl} {k : LV → Sto → RS} {D : Ends} (r : RelS X.K T m S H) (rs : RSl X.K ξ m H ds σ) (h : PoS X.K T ξ m H (LL.bindS (fe ds S) ds k) D W) {Q2 : VK}
    (hq : ∀ v S1 m1 H1 x, Ext m H m1 H1 → RelS X.K T m1 S1 H1 → RSl X.K ξ m1 H1 ds σ → RV X.K m1 H1 v x → PoS X.K T ξ m1 H1 (k v S1) D W → Q2 x H1) : tL X.K T ξ W fe σ H Q2 := by
  refine ⟨m, S, ds, r, rs, ?_⟩
  cases e : fe ds S with
  | ok v S1 =>
    rw [e] at h
    exact fun m1 H1 x E r1 rv => hq v S1 m1 H1 x E r1 (rs.mono E) rv (PoS.mono E h)
  | ex c fs S1 =>
    rw [e] at h
    exact fun m1 H1 cls d E r1 rx => h m1 H1 σ cls d E r1 (rs.mono E) rx
  | no =>
    rw [e] at h
    exact h
theorem sl_nil : PSs X [] (tLS X.K T ξ W lNx) := pss_imp pss_nil fun D σ H ⟨m, S, ds, r, rs, h⟩ => h m H σ Ext.refl r rs
theorem sl_cons (h1 : PS X st (tLS X.K T ξ W a)) (h2 : PSs X sts (tLS X.K T ξ W b)) : PSs X (st :: sts) (tLS X.K T ξ W (lSeq a b)) := pss_imp (pss_cons h1 h2) fun D σ H ⟨m, S, ds, r, rs, h⟩ => by
  refine ⟨m, S, ds, r, rs, ?_⟩
  unfold lSeq at h
  cases e : a ds S with
  | nx ds1 S1 =>
    rw [e] at h
    exact fun m1 H1 σ1 E r1 rs1 => ⟨m1, S1, ds1, r1, rs1, PoS.mono E h⟩
  | rt v S1 => rw [e] at h; exact h
  | bk ds1 S1 => rw [e] at h; exact h
  | ct ds1 S1 => rw [e] at h; exact h
  | ex c fs ds1 S1 => rw [e] at h; exact h
  | no => rw [e] at h; exact h
theorem sl_one (h : PS X st (tLS X.K T ξ W a)) : PSs X [st] (tLS X.K T ξ W a) := pss_one h
theorem sl_pass : PS X (.Pass pos) (tLS X.K T ξ W lNx) := ps_imp ps_pass fun D σ H ⟨m, S, ds, r, rs, h⟩ => h m H σ Ext.refl r rs
theorem sl_break : PS X (.Break pos) (tLS X.K T ξ W lBrk) := ps_imp ps_break fun D σ H ⟨m, S, ds, r, rs, h⟩ => h m H σ Ext.refl r rs
theorem sl_continue : PS X (.Continue pos) (tLS X.K T ξ W lCnt) := ps_imp ps_continue fun D σ H ⟨m, S, ds, r, rs, h⟩ => h m H σ Ext.refl r rs
theorem sl_expr (he : PE X e (tL X.K T ξ W fe)) (hs : swapsWith e none pos.line X.env = pure false := by rfl) : PS X (.Expr e pos) (tLS X.K T ξ W (lDrop fe)) :=
  ps_imp (ps_expr he hs) fun D σ H ⟨m, S, ds, r, rs, h⟩ => tL.bindS r rs h fun v S1 m1 H1 x E r1 rs1 rv h1 => h1 m1 H1 σ Ext.refl r1 rs1
theorem sl_ret (he : PE X e (tL X.K T ξ W fe)) : PS X (.Return (some e) pos) (tLS X.K T ξ W (lRet fe)) :=
  ps_imp (ps_ret he) fun D σ H ⟨m, S, ds, r, rs, h⟩ => tL.bindS r rs h fun v S1 m1 H1 x E r1 rs1 rv h1 => h1 m1 H1 x Ext.refl r1 rv
theorem sl_retN : PS X (.Return none pos) (tLS X.K T ξ W lRetN) := ps_imp ps_retN fun D σ H ⟨m, S, ds, r, rs, h⟩ => h m H .non Ext.refl r rfl
theorem sl_if (hc : PT X c (tTest (tL X.K T ξ W fc))) (ha : PSs X sts (tLS X.K T ξ W a)) (hb : PSs X sb (tLS X.K T ξ W b)) : PS X (.If c sts sb pos) (tLS X.K T ξ W (lIf fc a b)) :=
  ps_imp (ps_if hc ha hb) fun D σ H ⟨m, S, ds, r, rs, h⟩ => tL.bindS r rs h fun v S1 m1 H1 x E r1 rs1 rv h1 => by
    cases v with
    | bl k =>
      refine ⟨k, rv, ?_⟩
      cases k with
      | true => exact ⟨_, _, _, r1, rs1, h1⟩
      | false => exact ⟨_, _, _, r1, rs1, h1⟩
    | _ => exact h1.elim
theorem gl_name (i : Nat) {x : Str} (hN : X.N.Nodup) (hi : X.N[i]? = some x := by rfl) (hx : Loc X.env.scope x := by first | exact Or.inl rfl | exact Or.inr rfl) (hf : X.fn x = true ∨ X.env.scope.names.lookup x = some .local := by first | exact .inl rfl | exact .inr rfl | assumption) :
    PG X (.Name x pos) (tGL X.K T ξ (gNm i)) := pg_imp (pg_name hN hi hx hf) fun x σ H Q ⟨m, S, v, ds, ds', r, rs, rv, e, q⟩ => by
  cases e
  exact q _ (rs.set i (RVx.of rv))
theorem gsl_nil : PGs X [] (tGLs X.K T ξ gsNil) := pgs_imp pgs_nil fun x σ H Q ⟨m, S, vs, ds, ds', r, rs, rv, e, q⟩ => by
  cases vs with
  | nil =>
    cases e
    exact ⟨rv.nilE, q σ rs⟩
  | cons v r => cases e
theorem gsl_cons {e : Expr} {es : List Expr} (h1 : PG X e (tGL X.K T ξ lg)) (h2 : PGs X es (tGLs X.K T ξ lgs)) (hs : (assignEach (e :: es) X.env).map (·.2) = assign e X.env :: (assignEach es X.env).map (·.2) := by rfl) : PGs X (e :: es) (tGLs X.K T ξ (gsCons lg lgs)) :=
  pgs_imp (pgs_cons h1 h2 hs) fun xs σ H Q ⟨m, S, vs, ds, ds', r, rs, rv, e, q⟩ => by
    cases vs with
    | nil => cases e
    | cons v vr =>
      unfold RVs at rv
      obtain ⟨y, ys, rfl, h1, h2⟩ := rv
      unfold gsCons at e
      simp only at e
      split at e
      · rename_i ds1 hd
        exact ⟨y, ys, rfl, m, S, v, ds, ds1, r, rs, h1, hd, fun σ1 rs1 => ⟨m, S, vr, ds1, ds', r, rs1, h2, e, q⟩⟩
      · cases e
theorem pg_or {t1 t2 : TG} (h1 : PG X e t1) (h2 : PG X e t2) : PG X e (fun x σ H Q => t1 x σ H Q ∨ t2 x σ H Q) := ⟨fun pins s σ H v u Q I r q => q.elim (h1.run pins s σ H v u Q I r) (h2.run pins s σ H v u Q I r)⟩
theorem gl_tup {es : List Expr} {j : Nat} (n : Nat) (hc : X.calm = true) (h : PGs X es (tGLs X.K T ξ lgs)) (hl : ∀ vs S ds ds', lgs vs S ds = some ds' → vs.length = n)
    (hn : (assignEach es X.env).length = n := by rfl) (hst : (assignEach es X.env).findIdx? (·.1) = none := by rfl) : PG X (.Tuple es j pos) (tGL X.K T ξ (gTp lgs)) :=
  pg_imp (pg_or (pg_tup hc h hn hst) (pg_unl hc h hn hst)) fun x σ H Q ⟨m, S, v, ds, ds', r, rs, rv, e, q⟩ => by
    unfold gTp at e
    split at e
    · obtain ⟨a, vs, rfl, ht, hs⟩ := rv.tupE
      exact .inl ⟨a, vs, rfl, SqT.of ht, by rw [← hs.len]; exact hl _ _ _ _ e, m, S, _, ds, ds', r, rs, hs, e, q⟩
    · unfold RV at rv
      obtain ⟨a, vs, rfl, ht, hs⟩ := rv
      exact .inl ⟨a, vs, rfl, ht _, by rw [← hs.len]; exact hl _ _ _ _ e, m, S, _, ds, ds', r, rs, hs, e, q⟩
    · obtain ⟨a, vs, rfl, na, ht, hs⟩ := rv.lstE
      exact .inr ⟨a, vs, rfl, SqL.of ht, by rw [← hs.len]; exact hl _ _ _ _ e, m, S, _, ds, ds', r, rs, hs, e, q⟩
    · split at e
      · rename_i hn2
        obtain ⟨a, zs, rfl, _, ha, hs⟩ := RV.lst r rv hn2
        exact .inr ⟨a, zs, rfl, SqL.of ha, by rw [← hs.len]; exact hl _ _ _ _ e, m, S, _, ds, ds', r, rs, hs, e, q⟩
      · cases e
    · cases e
theorem gs_len0 : ∀ vs S ds ds', gsNil vs S ds = some ds' → vs.length = 0 := fun vs S ds ds' e => by
  cases vs with
  | nil => rfl
  | cons v r => cases e
theorem gs_len1 {n : Nat} (h : ∀ vs S ds ds', lgs vs S ds = some ds' → vs.length = n) : ∀ vs S ds ds', gsCons lg lgs vs S ds = some ds' → vs.length = n + 1 := fun vs S ds ds' e => by
  cases vs with
  | nil => cases e
  | cons v r =>
    unfold gsCons at e
    simp only at e
    split at e
    · rw [List.length_cons, h _ _ _ _ e]
    · cases e
theorem sl_asg {tg : Expr} (he : PE X e (tL X.K T ξ W fe)) (hg : PG X tg (tGL X.K T ξ lg)) (hs : swapsWithSole [tg] e pos.line X.env = pure false := by rfl) (hw : swappedStores [tg] e X.env = pure none := by rfl)
    (h1 : (assignEach [tg] X.env).map (·.2) = [assign tg X.env] := by rfl) : PS X (.Assign [tg] e pos) (tLS X.K T ξ W (lAsg fe lg)) :=
  ps_imp (ps_asg he hg hs hw h1) fun D σ H ⟨m, S, ds, r, rs, h⟩ => tL.bindS r rs h fun v S1 m1 H1 x E r1 rs1 rv h1 => by
    unfold asgK at h1
    split at h1
    · rename_i ds1 hd
      exact ⟨m1, S1, v, ds, ds1, r1, rs1, rv, hd, fun σ' rs' => h1 m1 H1 σ' Ext.refl r1 rs'⟩
    · exact h1.elim
theorem sl_set (i : Nat) {x : Str} {pos' : Pos} (hN : X.N.Nodup) (he : PE X e (tL X.K T ξ W fe)) (hi : X.N[i]? = some x := by rfl) (hx : Loc X.env.scope x := by first | exact Or.inl rfl | exact Or.inr rfl) (hs : swapsWith e (some (.Name x pos')) pos.line X.env = pure false := by rfl)
    (hf : X.fn x = true ∨ X.env.scope.names.lookup x = some .local := by first | exact .inl rfl | exact .inr rfl | assumption) : PS X (.Assign [.Name x pos'] e pos) (tLS X.K T ξ W (lAsg fe (gNm i))) :=
  ps_imp (ps_set hN hi hx he hs hf) fun D σ H ⟨m, S, ds, r, rs, h⟩ => tL.bindS r rs h fun v S1 m1 H1 x E r1 rs1 rv h1 => h1 m1 H1 _ Ext.refl r1 (rs1.set i (RVx.of rv))

/-! ### while -/
def whK (fc : LE) (fb : LS) : Nat → Sl → Sto → RS
  | 0, _, _ => .no
  | n + 1, ds, S => bindS (fc ds S) ds (iteS (fun S1 => match fb ds S1 with
    | .nx ds2 S2 => whK fc fb n ds2 S2
    | .ct ds2 S2 => whK fc fb n ds2 S2
    | .bk ds2 S2 => .nx ds2 S2
    | r => r) fun S1 => .nx ds S1)
def lWh (n : Nat) (fc : LE) (fb : LS) : LS := whK fc fb n
theorem sl_while (n : Nat) (hp : PassesOwn (model X.prog X.w) X.A X.env X.xe) (hc : PT X c (tTest (tL X.K T ξ W fc))) (hb : PSs X sts (tLS X.K T ξ W b)) : PS X (.While c sts [] pos) (tLS X.K T ξ W (lWh n fc b)) :=
  ps_imp (ps_while hp hc hb) fun D σ H ⟨m, S, ds, r, rs, h⟩ => by
    refine ⟨fun j σ' H' => ∃ m' S' ds', RelS X.K T m' S' H' ∧ RSl X.K ξ m' H' ds' σ' ∧ PoS X.K T ξ m' H' (whK fc b j ds' S') D W, ⟨n, m, S, ds, r, rs, h⟩, ?_⟩
    rintro j σ' H' ⟨m', S', ds', r', rs', h'⟩
    cases j with
    | zero => exact h'.elim
    | succ j =>
      unfold whK at h'
      refine tL.bindS r' rs' h' fun v S1 m1 H1 x E r1 rs1 rv h1 => ?_
      cases v with
      | bl k =>
        refine ⟨k, rv, ?_⟩
        cases k with
        | true =>
          refine ⟨fun σ2 H2 => ∃ m' S' ds', RelS X.K T m' S' H2 ∧ RSl X.K ξ m' H2 ds' σ2 ∧ PoS X.K T ξ m' H2 (whK fc b j ds' S') D W, fun σ2 H2 q => ⟨j, Nat.lt_succ_self j, q⟩, m1, S1, ds', r1, rs1, ?_⟩
          change PoS X.K T ξ m1 H1 (match b ds' S1 with
            | .nx ds2 S2 => whK fc b j ds2 S2
            | .ct ds2 S2 => whK fc b j ds2 S2
            | .bk ds2 S2 => .nx ds2 S2
            | r => r) D W at h1
          cases e : b ds' S1 with
          | nx ds2 S2 =>
            rw [e] at h1
            exact fun m2 H2 σ2 E2 r2 rs2 => ⟨m2, S2, ds2, r2, rs2, PoS.mono E2 h1⟩
          | ct ds2 S2 =>
            rw [e] at h1
            exact fun m2 H2 σ2 E2 r2 rs2 => ⟨m2, S2, ds2, r2, rs2, PoS.mono E2 h1⟩
          | bk ds2 S2 => rw [e] at h1; exact h1
          | rt v S2 => rw [e] at h1; exact h1
          | ex c fs ds2 S2 => rw [e] at h1; exact h1
          | no => rw [e] at h1; exact h1
        | false => exact h1 m1 H1 σ' Ext.refl r1 rs1
      | _ => exact h1.elim

end
end LL


set_option Elab.async false
set_option linter.all false
set_option maxRecDepth 100000
set_option maxHeartbeats 2000000
/-! The logical layer: what loops go through, for, list comprehensions. -/
namespace LL
open PySem PySem.Spec PyProof.Rows L2

/-- so many turns, the item at each, whether it ends as it should -/
structure LIt where
  n : Nat
  item : Nat → Sto → Option LV
  fine : Sto → Bool
def itOf (xs : List LV) : LIt := ⟨xs.length, fun i _ => xs[i]?, fun _ => true⟩
def refI (k n i : Nat) (S : Sto) : Option LV := match S[k]? with
  | some (.lst ys) => if ys.length = n then ys[i]? else none
  | _ => none
def refF (k n : Nat) (S : Sto) : Bool := match S[k]? with
  | some (.lst ys) => decide (ys.length = n)
  | _ => false
def itRef (k n : Nat) : LIt := ⟨n, fun i S => refI k n i S, fun S => refF k n S⟩
inductive RI where
  | ok (l : LIt) (S : Sto)
  | ex (c : Nat) (fs : List LV) (S : Sto)
  | no
abbrev LI := Sl → Sto → RI
structure ItL (K : PySem.W.Frag) (T : Env1) (m0 : List Addr) (H0 : Hp) (J : It) (l : LIt) : Prop where
  stop : ∀ m S H, Ext m0 H0 m H → RelS K T m S H → l.fine S = true → J.stop l.n H
  go : ∀ i m S H v, i < l.n → Ext m0 H0 m H → RelS K T m S H → l.item i S = some v → J.go i H
  yld : ∀ i x H' m S H v, i < l.n → Ext m0 H0 m H → RelS K T m S H → l.item i S = some v → J.yld i H x H' → Ext m H m H' ∧ RelS K T m S H' ∧ RV K m H' v x
def PoI (K : PySem.W.Frag) (T : Env1) (m : List Addr) (H : Hp) (r : RI) (R : It → Hp → Prop) (W : XK) : Prop :=
  match r with
  | .ok l S => ∀ m' H' J, Ext m H m' H' → RelS K T m' S H' → ItL K T m' H' J l → R J H'
  | .ex c fs S => ∀ m' H' cls d, Ext m H m' H' → RelS K T m' S H' → RX K T m' H' c fs cls d → W cls d H'
  | .no => False
def tI (K : PySem.W.Frag) (T : Env1) (ξ : Xi) (W : WX) (f : LI) : TI := fun σ H R => ∃ m S ds, RelS K T m S H ∧ RSl K ξ m H ds σ ∧ PoI K T m H (f ds S) R (fun cls d H' => W cls d σ H')
def bindI (r : R) (k : LV → Sto → RI) : RI := match r with
  | .ok v S => k v S
  | .ex c fs S => .ex c fs S
  | .no => .no
def bindIA (r : RL) (k : List LV → Sto → RI) : RI := match r with
  | .ok v S => k v S
  | .ex c fs S => .ex c fs S
  | .no => .no
def signs (z : Str) : List LV := z.cps.toList.map fun c => .str ⟨#[c]⟩
def iterO (v : LV) (S : Sto) : RI := match v with
  | .tup xs => .ok (itOf xs) S
  | .ktp xs => .ok (itOf xs) S
  | .scr ns => .ok (itOf (ns.map .int)) S
  | .str z => .ok (itOf (signs z)) S
  | .lst xs => .ok (itOf xs) S
  | .ref n => match S[n]? with
    | some (.lst xs) => .ok (itRef n xs.length) S
    | _ => .no
  | _ => .no
def lIter (f : LE) : LI := fun ds S => bindI (f ds S) iterO
def okRg (i : Int) : Bool := decide (-(2 ^ 62) ≤ i) && decide (i < 2 ^ 62)
def rng (lo : Int) (n : Nat) : List LV := (List.range n).map fun (k : Nat) => .int (lo + (k : Int))
def rng1O : List LV → Sto → RI
  | [.int j], S => if okRg j = true then .ok (itOf (rng 0 j.toNat)) S else .no
  | _, _ => .no
def rng2O : List LV → Sto → RI
  | [.int i, .int j], S => if (okRg i && okRg j) = true then .ok (itOf (rng i (j - i).toNat)) S else .no
  | _, _ => .no
def lRng1 (f : LA) : LI := fun ds S => bindIA (f ds S) rng1O
def lRng2 (f : LA) : LI := fun ds S => bindIA (f ds S) rng2O
section
variable {K : PySem.W.Frag} {T : Env1} {m0 : List Addr} {H0 : Hp}
theorem it_list {S0 : Sto} {a : Addr} {k n : Nat} (hm : m0[k]? = some a) : ItL K T m0 H0 (Itl K a) (itRef k n) where
  stop := fun m S H E r h => by
    simp only [itRef, refF] at h
    split at h
    · rename_i ys hk
      obtain ⟨vs, h1, h2⟩ := r.at (E.get hm) hk
      exact ⟨vs, SqL.of h1, by
        show vs.length ≤ n
        rw [← h2.len, of_decide_eq_true h]
        exact Nat.le_refl _⟩
    · cases h
  go := fun i m S H v hi E r h => by
    simp only [itRef, refI] at h
    split at h
    · rename_i ys hk
      split at h
      · obtain ⟨vs, h1, h2⟩ := r.at (E.get hm) hk
        obtain ⟨x, hx, _⟩ := h2.get h
        exact ⟨vs, x, SqL.of h1, hx⟩
      · cases h
    · cases h
  yld := fun i x H' m S H v hi E r h y => by
    simp only [itRef, refI] at h
    split at h
    · rename_i ys hk
      split at h
      · obtain ⟨vs, h1, h2⟩ := r.at (E.get hm) hk
        obtain ⟨z, hz, rz⟩ := h2.get h
        obtain ⟨rfl, y2⟩ := y
        have := y2 vs (SqL.of h1)
        rw [hz] at this
        cases this
        exact ⟨Ext.refl, r, rz⟩
      · cases h
    · cases h
theorem it_tup {a : Addr} {xs : List LV} {vs : List V} (ht : ∀ m H, Ext m0 H0 m H → SqT K H a vs) (hs : RVs K m0 H0 xs vs) : ItL K T m0 H0 (Itt K a) (itOf xs) where
  stop := fun m S H E r h => ⟨vs, ht m H E, by show vs.length ≤ xs.length; rw [hs.len]; exact Nat.le_refl _⟩
  go := fun i m S H v hi E r h => by
    obtain ⟨x, hx, _⟩ := hs.get (show xs[i]? = some v from h)
    exact ⟨vs, x, ht m H E, hx⟩
  yld := fun i x H' m S H v hi E r h y => by
    obtain ⟨z, hz, rz⟩ := hs.get (show xs[i]? = some v from h)
    obtain ⟨rfl, y2⟩ := y
    have := y2 vs (ht m _ E)
    rw [hz] at this
    cases this
    exact ⟨Ext.refl, r, rz.mono E⟩
theorem it_lst {a : Addr} {xs : List LV} {vs : List V} (ht : ∀ m H, Ext m0 H0 m H → SqL K H a vs) (hs : RVs K m0 H0 xs vs) : ItL K T m0 H0 (Itl K a) (itOf xs) where
  stop := fun m S H E r h => ⟨vs, ht m H E, by show vs.length ≤ xs.length; rw [hs.len]; exact Nat.le_refl _⟩
  go := fun i m S H v hi E r h => by
    obtain ⟨x, hx, _⟩ := hs.get (show xs[i]? = some v from h)
    exact ⟨vs, x, ht m H E, hx⟩
  yld := fun i x H' m S H v hi E r h y => by
    obtain ⟨z, hz, rz⟩ := hs.get (show xs[i]? = some v from h)
    obtain ⟨rfl, y2⟩ := y
    have := y2 vs (ht m _ E)
    rw [hz] at this
    cases this
    exact ⟨Ext.refl, r, rz.mono E⟩
theorem it_str {z : Str} : ItL K T m0 H0 (Its z) (itOf (signs z)) where
  stop := fun m S H E r h => by
    show z.cps.size ≤ (signs z).length
    simp [signs]
  go := fun i m S H v hi E r h => by
    have : i < (signs z).length := hi
    have : i < z.cps.size := by simpa [signs] using this
    exact this
  yld := fun i x H' m S H v hi E r h y => by
    obtain ⟨rfl, c, hc, rfl⟩ := y
    refine ⟨Ext.refl, r, ?_⟩
    have h' : (signs z)[i]? = some v := h
    unfold signs at h'
    rw [List.getElem?_map, Array.getElem?_toList, hc] at h'
    cases h'
    rfl
theorem it_rng {lo : Int} {n : Nat} : ItL K T m0 H0 (Itr lo n) (itOf (rng lo n)) where
  stop := fun m S H E r h => by
    show n ≤ (rng lo n).length
    simp [rng]
  go := fun i m S H v hi E r h => by
    have : i < (rng lo n).length := hi
    have : i < n := by simpa [rng] using this
    exact this
  yld := fun i x H' m S H v hi E r h y => by
    obtain ⟨rfl, rfl⟩ := y
    refine ⟨Ext.refl, r, ?_⟩
    have hi' : i < n := by
      have : i < (rng lo n).length := hi
      simpa [rng] using this
    have h' : (rng lo n)[i]? = some v := h
    unfold rng at h'
    rw [List.getElem?_map, List.getElem?_range hi'] at h'
    cases h'
    rfl
end

section
variable {X : Cx} {T : Env1} {ξ : Xi} {W : WX} {e tg : Expr} {es : List Expr} {sts : List Stmt} {pos p : Pos} {fe fc : LE} {ga : LA} {b : LS} {lg : LG} {li : LI}
theorem pi_imp {t t' : TI} (h : PI X tg e t) (i : ∀ σ H Q, t' σ H Q → t σ H Q) : PI X tg e t' := ⟨fun pins s σ H Q I q => h.run pins s σ H Q I (i σ H Q q)⟩
theorem tL.bindI {σ : L2.St} {m : List Addr} {S : Sto} {H : Hp} {ds : Sl} {k : LV → Sto → RI} {R : It → Hp → Prop} (r : RelS X.K T m S H) (rs : RSl X.K ξ m H ds σ) (h : PoI X.K T m H (LL.bindI (fe ds S) k) R (fun cls d H' => W cls d σ H')) {Q2 : VK}
    (hq : ∀ v S1 m1 H1 x, fe ds S = .ok v S1 → Ext m H m1 H1 → RelS X.K T m1 S1 H1 → RV X.K m1 H1 v x → PoI X.K T m1 H1 (k v S1) R (fun cls d H' => W cls d σ H') → Q2 x H1) : tL X.K T ξ W fe σ H Q2 := by
  refine ⟨m, S, ds, r, rs, ?_⟩
  have mono : ∀ {m1 H1} {x : RI}, Ext m H m1 H1 → PoI X.K T m H x R (fun cls d H' => W cls d σ H') → PoI X.K T m1 H1 x R (fun cls d H' => W cls d σ H') := fun {m1 H1 x} E h => by
    cases x with
    | ok l S2 => exact fun m' H' J E' => h m' H' J (E.trans E')
    | ex c fs S2 => exact fun m' H' cls d E' => h m' H' cls d (E.trans E')
    | no => exact h
  cases e : fe ds S with
  | ok v S1 =>
    rw [e] at h
    exact fun m1 H1 x E r1 rv => hq v S1 m1 H1 x e E r1 rv (mono E h)
  | ex c fs S1 =>
    rw [e] at h
    exact h
  | no =>
    rw [e] at h
    exact h
/-- over a list, a tuple, a text -/
theorem il_val (he : PE X e (tL X.K T ξ W fe)) : PI X tg e (tI X.K T ξ W (lIter fe)) := ⟨fun pins s σ H R I ⟨m, S, ds, r, rs, h⟩ => by
  cases q : fe ds S with
  | ok v S1 =>
    cases v with
    | ref n =>
      refine (pi_list he).run pins s σ H R I (tL.bindI r rs h fun v S2 m1 H1 x e2 E r1 rv h1 => ?_)
      rw [q] at e2
      cases e2
      unfold iterO at h1
      simp only at h1
      split at h1
      · rename_i xs hn
        obtain ⟨a, vs, rfl, hm, ha, hs⟩ := rv.lst r1 hn
        exact ⟨a, rfl, ⟨vs, SqL.of ha⟩, h1 m1 H1 _ Ext.refl r1 (it_list (S0 := S1) hm)⟩
      · exact h1.elim
    | scr ns =>
      refine (pi_list he).run pins s σ H R I (tL.bindI r rs h fun v S2 m1 H1 x e2 E r1 rv h1 => ?_)
      rw [q] at e2
      cases e2
      unfold RV at rv
      obtain ⟨a, rfl, ha⟩ := rv
      exact ⟨a, rfl, ⟨_, scr_sq ha⟩, h1 m1 H1 _ Ext.refl r1 (it_lst (fun m2 H2 E2 => scr_sq (E2.kp.scr ha)) (RVs.ints ns))⟩
    | tup xs =>
      refine (pi_tup he).run pins s σ H R I (tL.bindI r rs h fun v S2 m1 H1 x e2 E r1 rv h1 => ?_)
      rw [q] at e2
      cases e2
      obtain ⟨a, vs, rfl, ht, hs⟩ := rv.tupE
      exact ⟨a, rfl, ⟨vs, SqT.of ht⟩, h1 m1 H1 _ Ext.refl r1 (it_tup (fun m2 H2 E2 => SqT.of (E2.tup _ _ ht)) hs)⟩
    | ktp xs =>
      refine (pi_tup he).run pins s σ H R I (tL.bindI r rs h fun v S2 m1 H1 x e2 E r1 rv h1 => ?_)
      rw [q] at e2
      cases e2
      unfold RV at rv
      obtain ⟨a, vs, rfl, ht, hs⟩ := rv
      exact ⟨a, rfl, ⟨vs, ht _⟩, h1 m1 H1 _ Ext.refl r1 (it_tup (fun m2 H2 E2 => ht _) hs)⟩
    | lst xs =>
      refine (pi_list he).run pins s σ H R I (tL.bindI r rs h fun v S2 m1 H1 x e2 E r1 rv h1 => ?_)
      rw [q] at e2
      cases e2
      obtain ⟨a, vs, rfl, na, ha, hs⟩ := rv.lstE
      exact ⟨a, rfl, ⟨vs, SqL.of ha⟩, h1 m1 H1 _ Ext.refl r1 (it_lst (fun m2 H2 E2 => SqL.of (E2.fr a _ na ha)) hs)⟩
    | str z =>
      refine (pi_str he).run pins s σ H R I (tL.bindI r rs h fun v S2 m1 H1 x e2 E r1 rv h1 => ?_)
      rw [q] at e2
      cases e2
      exact ⟨z, rv, h1 m1 H1 _ Ext.refl r1 it_str⟩
    | _ =>
      unfold lIter at h
      rw [q] at h
      exact h.elim
  | ex c fs S1 =>
    refine (pi_list he).run pins s σ H R I ⟨m, S, ds, r, rs, ?_⟩
    unfold lIter at h
    rw [q] at h ⊢
    exact h
  | no =>
    unfold lIter at h
    rw [q] at h
    exact h.elim⟩
theorem tLA.bindI {σ : L2.St} {m : List Addr} {S : Sto} {H : Hp} {ds : Sl} {k : List LV → Sto → RI} {R : It → Hp → Prop} (r : RelS X.K T m S H) (rs : RSl X.K ξ m H ds σ) (h : PoI X.K T m H (LL.bindIA (ga ds S) k) R (fun cls d H' => W cls d σ H')) {Q2 : List V → Hp → Prop}
    (hq : ∀ v S1 m1 H1 x, Ext m H m1 H1 → RelS X.K T m1 S1 H1 → RVs X.K m1 H1 v x → PoI X.K T m1 H1 (k v S1) R (fun cls d H' => W cls d σ H') → Q2 x H1) : tLA X.K T ξ W ga σ H Q2 := by
  refine ⟨m, S, ds, r, rs, ?_⟩
  have mono : ∀ {m1 H1} {x : RI}, Ext m H m1 H1 → PoI X.K T m H x R (fun cls d H' => W cls d σ H') → PoI X.K T m1 H1 x R (fun cls d H' => W cls d σ H') := fun {m1 H1 x} E h => by
    cases x with
    | ok l S2 => exact fun m' H' J E' => h m' H' J (E.trans E')
    | ex c fs S2 => exact fun m' H' cls d E' => h m' H' cls d (E.trans E')
    | no => exact h
  cases e : ga ds S with
  | ok v S1 =>
    rw [e] at h
    exact fun m1 H1 x E r1 rv => hq v S1 m1 H1 x E r1 rv (mono E h)
  | ex c fs S1 =>
    rw [e] at h
    exact h
  | no =>
    rw [e] at h
    exact h
theorem okRg_ok {i : Int} (h : okRg i = true) : -(2 ^ 62) ≤ i ∧ i < 2 ^ 62 := by
  unfold okRg at h
  rw [Bool.and_eq_true] at h
  exact ⟨of_decide_eq_true h.1, of_decide_eq_true h.2⟩
theorem il_rng1 {a : Expr} (hg : Gl X "range") (hm : X.mg "range" = none) (ha : PA X [a] (tLA X.K T ξ W ga)) (hs : starEach [a] X.env = [(false, eval a X.env)] := by rfl) : PI X tg (.Call (.Name "range" p) [a] [] pos) (tI X.K T ξ W (lRng1 ga)) :=
  pi_imp (pi_range1 hg hm ha hs) fun σ H R ⟨m, S, ds, r, rs, h⟩ => tLA.bindI (k := rng1O) (R := R) r rs h fun vs S1 m1 H1 xs E r1 rv h1 => by
    unfold rng1O at h1
    split at h1
    · obtain ⟨x, rfl, rx⟩ := rv.one
      split at h1
      · rename_i hz
        obtain ⟨z1, z2⟩ := okRg_ok hz
        exact ⟨_, by rw [show x = .int _ from rx], z1, z2, h1 m1 H1 _ Ext.refl r1 it_rng⟩
      · exact h1.elim
    · exact h1.elim
theorem il_rng2 {a b : Expr} (hg : Gl X "range") (hm : X.mg "range" = none) (ha : PA X [a, b] (tLA X.K T ξ W ga)) (hs : starEach [a, b] X.env = [(false, eval a X.env), (false, eval b X.env)] := by rfl) (hs2 : starEach [b] X.env = [(false, eval b X.env)] := by rfl) :
    PI X tg (.Call (.Name "range" p) [a, b] [] pos) (tI X.K T ξ W (lRng2 ga)) :=
  pi_imp (pi_range2 hg hm ha hs hs2) fun σ H R ⟨m, S, ds, r, rs, h⟩ => tLA.bindI (k := rng2O) (R := R) r rs h fun vs S1 m1 H1 xs E r1 rv h1 => by
    unfold rng2O at h1
    split at h1
    · obtain ⟨x, y, rfl, rx, ry⟩ := rv.two
      split at h1
      · rename_i hz
        rw [Bool.and_eq_true] at hz
        obtain ⟨z1, z2⟩ := okRg_ok hz.1
        obtain ⟨z3, z4⟩ := okRg_ok hz.2
        exact ⟨_, _, by rw [show x = .int _ from rx, show y = .int _ from ry], ⟨z1, z2, z3, z4⟩, h1 m1 H1 _ Ext.refl r1 it_rng⟩
      · exact h1.elim
    · exact h1.elim

/-! ### for -/
def forK (l : LIt) (lg : LG) (fb : LS) : Nat → Nat → Sl → Sto → RS
  | 0, _, ds, S => if l.fine S = true then .nx ds S else .no
  | k + 1, i, ds, S => match l.item i S with
    | none => .no
    | some v => match lg v S ds with
      | none => .no
      | some ds1 => match fb ds1 S with
        | .nx ds2 S2 => forK l lg fb k (i + 1) ds2 S2
        | .ct ds2 S2 => forK l lg fb k (i + 1) ds2 S2
        | .bk ds2 S2 => .nx ds2 S2
        | r => r
def forS (lg : LG) (fb : LS) (ds : Sl) : RI → RS
  | .ok l S => forK l lg fb l.n 0 ds S
  | .ex c fs S => .ex c fs ds S
  | .no => .no
def lFor (li : LI) (lg : LG) (fb : LS) : LS := fun ds S => forS lg fb ds (li ds S)
theorem sl_for (hp : PassesOwn (model X.prog X.w) X.A X.env X.xe) (hc : X.calm = true) (hi : PI X tg e (tI X.K T ξ W li)) (hg : PG X tg (tGL X.K T ξ lg)) (hb : PSs X sts (tLS X.K T ξ W b)) (hs : ∀ x, foldedSetIterable e X.env x = pure x := by intro _; rfl) :
    PS X (.For tg e sts [] pos) (tLS X.K T ξ W (lFor li lg b)) :=
  ps_imp (ps_for hp hc hi hg hb hs) fun D σ H ⟨m, S, ds, r, rs, h⟩ => by
    refine ⟨m, S, ds, r, rs, ?_⟩
    unfold lFor at h
    cases q : li ds S with
    | ex c fs S1 =>
      rw [q] at h
      exact fun m1 H1 cls d E r1 rx => h m1 H1 σ cls d E r1 (rs.mono E) rx
    | no => rw [q] at h; exact h
    | ok l S1 =>
      rw [q] at h
      intro m1 H1 J E1 r1 it
      refine ⟨fun i k σ' H' => i + k = l.n ∧ ∃ m' S' ds', Ext m1 H1 m' H' ∧ RelS X.K T m' S' H' ∧ RSl X.K ξ m' H' ds' σ' ∧ PoS X.K T ξ m' H' (forK l lg b k i ds' S') D W,
        ⟨l.n, Nat.zero_add _, m1, S1, ds, Ext.refl, r1, rs.mono E1, PoS.mono E1 h⟩, ?_⟩
      rintro i k σ' H' ⟨ek, m', S', ds', E', r', rs', h'⟩
      cases k with
      | zero =>
        unfold forK at h'
        split at h'
        · rename_i hf
          have ei : i = l.n := by omega
          subst ei
          exact .inl ⟨it.stop m' S' H' E' r' hf, h' m' H' σ' Ext.refl r' rs'⟩
        · exact h'.elim
      | succ k =>
        unfold forK at h'
        split at h'
        · exact h'.elim
        · rename_i v hv
          split at h'
          · exact h'.elim
          · rename_i ds1 hd
            have hi : i < l.n := by omega
            refine .inr ⟨it.go i m' S' H' v hi E' r' hv, fun σ2 H2 => i + 1 + k = l.n ∧ ∃ m' S' ds', Ext m1 H1 m' H2 ∧ RelS X.K T m' S' H2 ∧ RSl X.K ξ m' H2 ds' σ2 ∧ PoS X.K T ξ m' H2 (forK l lg b k (i + 1) ds' S') D W,
              fun σ2 H2 q => ⟨k, Nat.lt_succ_self k, q⟩, fun x H2 y => ?_⟩
            obtain ⟨E2, r2, rv2⟩ := it.yld i x H2 m' S' H' v hi E' r' hv y
            refine ⟨m', S', v, ds', ds1, r2, rs'.mono E2, rv2, hd, fun σ3 rs3 => ⟨m', S', ds1, r2, rs3, ?_⟩⟩
            have h2 := PoS.mono E2 h'
            cases e : b ds1 S' with
            | nx ds2 S2 =>
              rw [e] at h2
              exact fun m3 H3 σ4 E3 r3 rs4 => ⟨by omega, m3, S2, ds2, (E'.trans E2).trans E3, r3, rs4, PoS.mono E3 h2⟩
            | ct ds2 S2 =>
              rw [e] at h2
              exact fun m3 H3 σ4 E3 r3 rs4 => ⟨by omega, m3, S2, ds2, (E'.trans E2).trans E3, r3, rs4, PoS.mono E3 h2⟩
            | bk ds2 S2 => rw [e] at h2; exact h2
            | rt v S2 => rw [e] at h2; exact h2
            | ex c fs ds2 S2 => rw [e] at h2; exact h2
            | no => rw [e] at h2; exact h2

/-! ### list comprehensions -/
/-- the block's own slots forgotten -/
def wipeL (ds : Sl) : List Nat → Sl
  | [] => ds
  | v :: vs => (wipeL ds vs).set v none
theorem RSl.wipe {K : PySem.W.Frag} {ξ : Xi} {m : List Addr} {H : Hp} {ds : Sl} {σ : L2.St} (h : RSl K ξ m H ds σ) : ∀ vs : List Nat, RSl K ξ m H (wipeL ds vs) (L2.wipe σ vs)
  | [] => h
  | v :: vs => by
    have ih := RSl.wipe h vs
    unfold wipeL L2.wipe
    refine ⟨by simp [ih.len], fun i w e => ?_⟩
    by_cases hi : i = v
    · subst hi
      by_cases hl : i < (wipeL ds vs).length
      · rw [List.getElem?_set_self hl] at e; cases e
      · rw [List.getElem?_eq_none (by simpa using hl)] at e; cases e
    · rw [List.getElem?_set_ne (Ne.symm hi)] at e ⊢
      exact ih.at_ i w e
/-- a test in a comprehension -/
def lYes : LE := fun _ S => .ok (.bl true) S
def lcA (n : Nat) (u : LV) (S : Sto) (k : Sto → R) : R := match S[n]? with
  | some (.lst ys) => if small (ys.length + 1) = true then k (S.set n (.lst (ys ++ [u]))) else .no
  | _ => .no
def lcK (l : LIt) (lg : LG) (ft fe : LE) (ds : Sl) (n : Nat) : Nat → Nat → Sto → R
  | 0, _, S => if l.fine S = true then .ok (.ref n) S else .no
  | k + 1, i, S => match l.item i S with
    | none => .no
    | some v => match lg v S ds with
      | none => .no
      | some ds1 => match ft ds1 S with
        | .ok (.bl true) S1 => match fe ds1 S1 with
          | .ok u S2 => lcA n u S2 fun S3 => lcK l lg ft fe ds n k (i + 1) S3
          | _ => .no
        | .ok (.bl false) S1 => lcK l lg ft fe ds n k (i + 1) S1
        | _ => .no
noncomputable def lcR (t : Bool) (lg : LG) (ft fe : LE) (ds : Sl) : RI → R
  | .ok l S => gcG t S (lcK l lg ft fe ds S.length l.n 0 (S ++ [.lst []]))
  | .ex c fs S => .ex c fs S
  | .no => .no
noncomputable def lLcG (t : Bool) (li : LI) (lg : LG) (ft fe : LE) (vs : List Nat) : LE := fun ds S => lcR t lg ft fe (wipeL ds vs) (li ds S)
noncomputable abbrev lLc := lLcG false
noncomputable abbrev lLcT := lLcG true
/-- a target of a comprehension stores in the block's own slots alone -/
def tGC (K : PySem.W.Frag) (T : Env1) (ξ : Xi) (vs : List Nat) (g : LG) : TG := fun x σ H Q => ∃ m S v ds ds', RelS K T m S H ∧ RSl K ξ m H ds σ ∧ RV K m H v x ∧ g v S ds = some ds' ∧ ∀ σ', RSl K ξ m H ds' σ' → L2.wipe σ' vs = L2.wipe σ vs → Q σ' H
def tGCs (K : PySem.W.Frag) (T : Env1) (ξ : Xi) (vs : List Nat) (g : LGs) : TGs := fun xs σ H Q => ∃ m S us ds ds', RelS K T m S H ∧ RSl K ξ m H ds σ ∧ RVs K m H us xs ∧ g us S ds = some ds' ∧ ∀ σ', RSl K ξ m H ds' σ' → L2.wipe σ' vs = L2.wipe σ vs → Q σ' H
theorem wipe_get (σ : L2.St) (j : Nat) : ∀ vs : List Nat, (L2.wipe σ vs)[j]? = if j ∈ vs then (σ[j]?).map (fun _ => none) else σ[j]?
  | [] => by simp [L2.wipe]
  | v :: vs => by
    unfold L2.wipe
    by_cases h : v = j
    · subst h
      rw [if_pos List.mem_cons_self]
      by_cases hl : v < σ.length
      · rw [List.getElem?_set_self (by rw [L2.wipe_length]; exact hl), List.getElem?_eq_getElem hl]
        rfl
      · rw [List.getElem?_eq_none (by rw [List.length_set, L2.wipe_length]; omega), List.getElem?_eq_none (by omega)]
        rfl
    · rw [List.getElem?_set_ne h, wipe_get σ j vs]
      by_cases hm : j ∈ vs
      · rw [if_pos hm, if_pos (List.mem_cons_of_mem _ hm)]
      · rw [if_neg hm, if_neg (by rw [List.mem_cons]; rintro (q | q); exact h q.symm; exact hm q)]
theorem wipe_set {σ : L2.St} {i : Nat} {o : Option V} {vs : List Nat} (h : i ∈ vs) : L2.wipe (σ.set i o) vs = L2.wipe σ vs := by
  apply List.ext_getElem?
  intro j
  rw [wipe_get, wipe_get]
  by_cases hj : j ∈ vs
  · rw [if_pos hj, if_pos hj]
    by_cases e : i = j
    · subst e
      by_cases hl : i < σ.length
      · rw [List.getElem?_set_self hl, List.getElem?_eq_getElem hl]
        rfl
      · rw [List.getElem?_eq_none (by rw [List.length_set]; omega), List.getElem?_eq_none (by omega)]
    · rw [List.getElem?_set_ne e]
  · rw [if_neg hj, if_neg hj, List.getElem?_set_ne (fun e => hj (by rw [← e]; exact h))]
theorem gc_name (i : Nat) {x : Str} {vs : List Nat} (hN : X.N.Nodup) (hv : i ∈ vs) (hi : X.N[i]? = some x := by rfl) (hx : Loc X.env.scope x := by first | exact Or.inl rfl | exact Or.inr rfl) (hf : X.fn x = true ∨ X.env.scope.names.lookup x = some .local := by first | exact .inl rfl | exact .inr rfl | assumption) :
    PG X (.Name x pos) (tGC X.K T ξ vs (gNm i)) := pg_imp (pg_name hN hi hx hf) fun x σ H Q ⟨m, S, v, ds, ds', r, rs, rv, e, q⟩ => by
  cases e
  exact q _ (rs.set i (RVx.of rv)) (wipe_set hv)
theorem gcs_nil {vs : List Nat} : PGs X [] (tGCs X.K T ξ vs gsNil) := pgs_imp pgs_nil fun x σ H Q ⟨m, S, us, ds, ds', r, rs, rv, e, q⟩ => by
  cases us with
  | nil =>
    cases e
    exact ⟨rv.nilE, q σ rs rfl⟩
  | cons v r => cases e
theorem gcs_cons {e : Expr} {es : List Expr} {vs : List Nat} {lgs : LGs} (h1 : PG X e (tGC X.K T ξ vs lg)) (h2 : PGs X es (tGCs X.K T ξ vs lgs)) (hs : (assignEach (e :: es) X.env).map (·.2) = assign e X.env :: (assignEach es X.env).map (·.2) := by rfl) : PGs X (e :: es) (tGCs X.K T ξ vs (gsCons lg lgs)) :=
  pgs_imp (pgs_cons h1 h2 hs) fun xs σ H Q ⟨m, S, us, ds, ds', r, rs, rv, e, q⟩ => by
    cases us with
    | nil => cases e
    | cons v vr =>
      unfold RVs at rv
      obtain ⟨y, ys, rfl, h1, h2⟩ := rv
      unfold gsCons at e
      simp only at e
      split at e
      · rename_i ds1 hd
        exact ⟨y, ys, rfl, m, S, v, ds, ds1, r, rs, h1, hd, fun σ1 rs1 w1 => ⟨m, S, vr, ds1, ds', r, rs1, h2, e, fun σ2 rs2 w2 => q σ2 rs2 (w2.trans w1)⟩⟩
      · cases e
theorem gc_tup {es : List Expr} {j : Nat} {vs : List Nat} {lgs : LGs} (n : Nat) (hc : X.calm = true) (h : PGs X es (tGCs X.K T ξ vs lgs)) (hl : ∀ vs S ds ds', lgs vs S ds = some ds' → vs.length = n)
    (hn : (assignEach es X.env).length = n := by rfl) (hst : (assignEach es X.env).findIdx? (·.1) = none := by rfl) : PG X (.Tuple es j pos) (tGC X.K T ξ vs (gTp lgs)) :=
  pg_imp (pg_or (pg_tup hc h hn hst) (pg_unl hc h hn hst)) fun x σ H Q ⟨m, S, v, ds, ds', r, rs, rv, e, q⟩ => by
    unfold gTp at e
    split at e
    · obtain ⟨a, vs, rfl, ht, hs⟩ := rv.tupE
      exact .inl ⟨a, vs, rfl, SqT.of ht, by rw [← hs.len]; exact hl _ _ _ _ e, m, S, _, ds, ds', r, rs, hs, e, q⟩
    · unfold RV at rv
      obtain ⟨a, vs, rfl, ht, hs⟩ := rv
      exact .inl ⟨a, vs, rfl, ht _, by rw [← hs.len]; exact hl _ _ _ _ e, m, S, _, ds, ds', r, rs, hs, e, q⟩
    · obtain ⟨a, vs, rfl, na, ht, hs⟩ := rv.lstE
      exact .inr ⟨a, vs, rfl, SqL.of ht, by rw [← hs.len]; exact hl _ _ _ _ e, m, S, _, ds, ds', r, rs, hs, e, q⟩
    · split at e
      · rename_i hn2
        obtain ⟨a, zs, rfl, _, ha, hs⟩ := RV.lst r rv hn2
        exact .inr ⟨a, zs, rfl, SqL.of ha, by rw [← hs.len]; exact hl _ _ _ _ e, m, S, _, ds, ds', r, rs, hs, e, q⟩
      · cases e
    · cases e
theorem pt_yes : PTs X [] (tTest (tL X.K T ξ W lYes)) := ⟨fun pins s σ H Q I ⟨m, S, ds, r, rs, h⟩ => by
  obtain ⟨k, e, q⟩ := h.here r (x := .bl true) rfl
  cases e
  exact pts_nil.run pins s σ H Q I q⟩
theorem pt_one (h : PT X e (tTest (tL X.K T ξ W fe))) : PTs X [e] (tTest (tL X.K T ξ W fe)) := pts_one h
theorem lc_read {t : Bool} {li : LI} {ft fe : LE} {vs : List Nat} : ∀ σ H Q, tL X.K T ξ W (lLcG t li lg ft fe vs) σ H Q → tLc (tI X.K T ξ W li) (tGC X.K T ξ vs lg) (tTest (tL X.K T ξ WF ft)) (tL X.K T ξ WF fe) vs σ H Q :=
  fun σ H Q ⟨m, S, ds, r, rs, h⟩ => by
    refine ⟨m, S, ds, r, rs, ?_⟩
    unfold lLcG at h
    cases q : li ds S with
    | ex c fs S1 => rw [q] at h; exact h
    | no => rw [q] at h; exact h
    | ok l S1 =>
      rw [q] at h
      intro m1 H1 J E1 r1 it D hD
      have h0 : PoE X.K T m1 H1 (lcK l lg ft fe (wipeL ds vs) S1.length l.n 0 (S1 ++ [.lst []])) Q (fun cls d H' => W cls d σ H') := gcG_sound r1 (PoE.mono E1 h)
      have rs1 := (rs.mono E1).wipe vs
      have EA : Ext m1 H1 (m1 ++ [D]) (upd H1 D (.lst [])) := Ext.alloc r1 hD
      have rA : RelS X.K T (m1 ++ [D]) (S1 ++ [.lst []]) (upd H1 D (.lst [])) := r1.alloc hD ⟨[], upd_same, RVs.nil⟩
      have gD : (m1 ++ [D])[S1.length]? = some D := by rw [← r1.len, List.getElem?_append_right (Nat.le_refl _), Nat.sub_self] <;> rfl
      refine ⟨fun i k H' => i + k = l.n ∧ ∃ m' S', Ext (m1 ++ [D]) (upd H1 D (.lst [])) m' H' ∧ RelS X.K T m' S' H' ∧ PoE X.K T m' H' (lcK l lg ft fe (wipeL ds vs) S1.length k i S') Q (fun cls d H' => W cls d σ H'),
        ⟨l.n, Nat.zero_add _, m1 ++ [D], S1 ++ [.lst []], Ext.refl, rA, PoE.mono EA h0⟩, ?_⟩
      rintro i k H' ⟨ek, m', S', E', r', h'⟩
      have E0 := EA.trans E'
      cases k with
      | zero =>
        unfold lcK at h'
        split at h'
        · rename_i hf
          have ei : i = l.n := by omega
          subst ei
          refine .inl ⟨it.stop m' S' H' E0 r' hf, ?_⟩
          refine h' m' H' _ Ext.refl r' ?_
          unfold RV
          exact ⟨D, rfl, E'.get gD⟩
        · exact h'.elim
      | succ k =>
        unfold lcK at h'
        split at h'
        · exact h'.elim
        · rename_i v hv
          split at h'
          · exact h'.elim
          · rename_i ds1 hd
            have hi : i < l.n := by omega
            refine .inr ⟨it.go i m' S' H' v hi E0 r' hv, fun H2 => i + 1 + k = l.n ∧ ∃ m' S', Ext (m1 ++ [D]) (upd H1 D (.lst [])) m' H2 ∧ RelS X.K T m' S' H2 ∧ PoE X.K T m' H2 (lcK l lg ft fe (wipeL ds vs) S1.length k (i + 1) S') Q (fun cls d H' => W cls d σ H'),
              fun H2 q => ⟨k, Nat.lt_succ_self k, q⟩, fun x H2 y => ?_⟩
            obtain ⟨E2, r2, rv2⟩ := it.yld i x H2 m' S' H' v hi E0 r' hv y
            have E12 := E'.trans E2
            have rsT : RSl X.K ξ m' H2 (wipeL ds vs) (L2.wipe σ vs) := by
              have := (rs.mono E1).mono (E0.trans E2)
              exact this.wipe vs
            replace h' := PoE.mono E2 h'
            refine ⟨m', S', v, wipeL ds vs, ds1, r2, rsT, rv2, hd, fun σ2 rs2 w2 => ⟨?_, ?_⟩⟩
            · rw [w2]
              apply List.ext_getElem?
              intro j
              rw [wipe_get, wipe_get]
              by_cases hj : j ∈ vs
              · rw [if_pos hj, if_pos hj]
                cases σ[j]? <;> rfl
              · rw [if_neg hj]
            · refine ⟨m', S', ds1, r2, rs2, ?_⟩
              cases e1 : ft ds1 S' with
              | ok b S2 =>
                rw [e1] at h'
                intro m3 H3 z E3 r3 rz
                replace h' := PoE.mono E3 h'
                cases b with
                | bl b =>
                  refine ⟨b, rz, ?_⟩
                  cases b with
                  | true =>
                    refine ⟨m3, S2, ds1, r3, rs2.mono E3, ?_⟩
                    simp only at h'
                    cases e2 : fe ds1 S2 with
                    | ok u S3 =>
                      rw [e2] at h'
                      intro m4 H4 y E4 r4 ry
                      replace h' := PoE.mono E4 h'
                      have E14 := (E12.trans E3).trans E4
                      unfold lcA at h'
                      simp only at h'
                      split at h'
                      · rename_i ys hys
                        split at h'
                        · rename_i hz
                          have hz := small_ok hz
                          have gm : m4[S1.length]? = some D := E14.get gD
                          obtain ⟨vs4, ha4, hs4⟩ := r4.at gm hys
                          have EW : Ext m4 H4 m4 (upd H4 D (.lst (vs4 ++ [y]))) := Ext.write r4 (List.mem_of_getElem? gm) ha4
                          exact ⟨vs4, ha4, by rw [← hs4.len]; omega, by omega, m4, S3.set S1.length (.lst (ys ++ [u])), E14.trans EW, r4.write gm ha4 ⟨_, upd_same, (hs4.append (RVs.cons ry RVs.nil)).mono EW⟩, PoE.mono EW h'⟩
                        · exact h'.elim
                      · exact h'.elim
                    | ex c fs S3 => rw [e2] at h'; exact h'.elim
                    | no => rw [e2] at h'; exact h'.elim
                  | false => exact ⟨by omega, m3, S2, E12.trans E3, r3, h'⟩
                | _ => exact h'.elim
              | ex c fs S2 => rw [e1] at h'; exact h'.elim
              | no => rw [e1] at h'; exact h'.elim
variable {elt : Expr} {ifs : List Expr} {scope : Scope} {own : List (Str × Nat)} {ft : LE}
theorem pl_lc {t : Bool} (hc : X.calm = true) (hN : X.N.Nodup) (hi : PI X tg e (tI X.K T ξ W li)) (ok : BlkOk X.N X.env.scope scope own)
    (hg : ∀ (s : Shared) (H : Hp) (C : Addr) (cl : List (Str × Addr)) (fp : List Addr), PG (X.blk s H scope (compEnvC scope cl C X.env) fp) tg (tGC X.K T ξ (own.map (·.2)) lg))
    (ht : ∀ (s : Shared) (H : Hp) (C : Addr) (cl : List (Str × Addr)) (fp : List Addr), PTs (X.blk s H scope (compEnvC scope cl C X.env) fp) ifs (tTest (tL X.K T ξ WF ft)))
    (he : ∀ (s : Shared) (H : Hp) (C : Addr) (cl : List (Str × Addr)) (fp : List Addr), PE (X.blk s H scope (compEnvC scope cl C X.env) fp) elt (tL X.K T ξ WF fe)) (hs : ∀ x, foldedSetIterable e X.env x = pure x := by intro _; rfl) :
    PE X (.ListComp elt [⟨tg, e, ifs, 0⟩] scope pos) (tL X.K T ξ W (lLcG t li lg ft fe (own.map (·.2)))) := pe_imp (pe_lc hc hN hi ok hg ht he hs) lc_read
theorem sl_setLc {t : Bool} (i : Nat) {y : Str} {py spos : Pos} (hc : X.calm = true) (hN : X.N.Nodup) (hy : X.N[i]? = some y) (hyl : X.env.scope.names.lookup y = some .local)
    (hsw : swapsWith (.ListComp elt [⟨tg, e, ifs, 0⟩] scope pos) (some (.Name y py)) spos.line X.env = pure true) (hi : PI X tg e (tI X.K T ξ W li)) (ok : BlkOk X.N X.env.scope scope own)
    (hg : ∀ (s : Shared) (H : Hp) (C : Addr) (cl : List (Str × Addr)) (fp : List Addr), PG (X.blk s H scope (compEnvC scope cl C X.env) fp) tg (tGC X.K T ξ (own.map (·.2)) lg))
    (ht : ∀ (s : Shared) (H : Hp) (C : Addr) (cl : List (Str × Addr)) (fp : List Addr), PTs (X.blk s H scope (compEnvC scope cl C X.env) fp) ifs (tTest (tL X.K T ξ WF ft)))
    (he : ∀ (s : Shared) (H : Hp) (C : Addr) (cl : List (Str × Addr)) (fp : List Addr), PE (X.blk s H scope (compEnvC scope cl C X.env) fp) elt (tL X.K T ξ WF fe)) (hs : ∀ x, foldedSetIterable e X.env x = pure x := by intro _; rfl) :
    PS X (.Assign [.Name y py] (.ListComp elt [⟨tg, e, ifs, 0⟩] scope pos) spos) (tLS X.K T ξ W (lAsg (lLcG t li lg ft fe (own.map (·.2))) (gNm i))) :=
  ps_imp (ps_setLc hc hN hy hyl hsw hi ok hg ht he hs) fun D σ H ⟨m, S, ds, r, rs, h⟩ => lc_read σ H _ (tL.bindS r rs h fun v S1 m1 H1 x E r1 rs1 rv h1 => h1 m1 H1 _ Ext.refl r1 (rs1.set i (RVx.of rv)))
end
/-! ### {} -/
def lDnew : LE := fun _ S => .ok (.ref S.length) (S ++ [.dct []])
section
variable {X : Cx} {T : Env1} {ξ : Xi} {W : WX} {pos : Pos}
theorem fin_dct {K : PySem.W.Frag} {m : List Addr} {S : Sto} {H : Hp} {kvs : List (Key × LV)} {ws : List (Key × V)} {Q : VK} {W : XK} (r : RelS K T m S H) (hk : ws.map (·.1) = kvs.map (·.1)) (rv : RVs K m H (kvs.map (·.2)) (ws.map (·.2)))
    (h : PoE K T m H (.ok (.ref S.length) (S ++ [.dct kvs])) Q W) : ∀ p, H p = none → Q (.ref p) (upd H p (.dK ws)) := fun p hp => by
  have E : Ext m H (m ++ [p]) (upd H p (.dK ws)) := Ext.alloc r hp
  refine h _ _ _ E (r.alloc hp ⟨ws, upd_same, hk, rv.mono E⟩) ?_
  unfold RV
  exact ⟨p, rfl, by rw [← r.len, List.getElem?_append_right (Nat.le_refl _), Nat.sub_self] <;> rfl⟩
theorem pl_dnew : PE X (.Dict [] [] pos) (tL X.K T ξ W lDnew) := pe_imp pe_dnewK fun σ H Q ⟨m, S, ds, r, rs, h⟩ => fin_dct r rfl RVs.nil h
/-- a tuple of the module's -/
theorem pl_globT {x : Str} {vs : List LV} {xs : List V} (h : ∃ a, X.mg x = some (.ref a) ∧ ∀ H, SqT X.K H a xs) (hg : Gl X x) (rv : ∀ m H, RVs X.K m H vs xs) (hd : (x == ("__debug__" : Str)) = false := by decide) : PE X (.Name x pos) (tL X.K T ξ W (lC (.ktp vs))) := by
  obtain ⟨a, h1, h2⟩ := h
  refine pl_c (pe_glob (v := .ref a) hg h1 rfl hd) fun m H => ?_
  unfold RV
  exact ⟨a, xs, rfl, h2, rv m H⟩
end
/-! ### a def -/
section
variable {P : Program} {w : World} {K : PySem.W.Frag} {mg : Str → Option Value} {base : Heap} {T : Env1}
theorem fn_ok {t : Bool} {x qual : Str} {st : Stmt} {f : Addr} {fd : FuncData} {N ps : List Str} {k : Nat} {g : LS} (F : Fun K x qual st f fd) (S : FnScope N ps (defScope st))
    (hbody : ∀ (cdv : Value) (A : Around) (outer : List Env) (s : Shared) (H : Hp) (E : XK), Room k (A.deeper (envOfC qual (defScope st) s.heap.objs.size f cdv)) →
      PSs (cxOf (L2N.CX P w) P w K mg base N qual (defScope st) f cdv A outer s H E) (defBody st) (tLS K T ξ0 (fun cls d _ H => E cls d H) g)) : FnOk P w K mg base (L2N.CX P w) (k + 1) f fd ps (spF K T (mkFnG t ps.length N.length g)) := by
  obtain ⟨oc, od, kV, doc, pm, an, cdv, ct, osl, rfl, lk, hcd⟩ := F.ex
  refine fn_of lk hcd S (fun vs H Q E h => ?_) (fun A outer s H vs Q E hr h => ⟨_, hbody cdv A outer s H E hr, ?_⟩)
  · obtain ⟨m, S', xs, r, rv, h⟩ := h
    unfold mkFnG at h
    split at h
    · rename_i hl
      rw [← rv.len, hl]
    · exact h.elim
  · obtain ⟨m, S', xs, r, rv, h⟩ := h
    refine ⟨m, S', _, r, RSl.start rv, ?_⟩
    unfold mkFnG at h
    split at h
    · rename_i hl
      replace h := gcG_sound r h
      rw [hl]
      cases e : g (xs.map some ++ List.replicate (N.length - ps.length) none) S' with
      | nx ds S2 =>
        rw [e] at h
        exact fun m' H' σ' E' r' rs' => h m' H' .non E' r' rfl
      | rt v S2 =>
        rw [e] at h
        exact fun m' H' x E' r' rv' => h m' H' x E' r' rv'
      | ex c fs ds S2 =>
        rw [e] at h
        exact fun m' H' σ' cls d E' r' rs' rx => h m' H' cls d E' r' rx
      | bk ds S2 => rw [e] at h; exact h.elim
      | ct ds S2 => rw [e] at h; exact h.elim
      | no => rw [e] at h; exact h.elim
    · exact h.elim
/-- the law's own promise -/
def scrOk (K : PySem.W.Frag) (H : Hp) (a : Addr) (ns : List Int) : Prop := (∃ o, H a = some (.frz o (.lst (ns.map V.int)))) ∨ ∀ H', SqL K H' a (ns.map V.int)
def spTop (K : PySem.W.Frag) : Sp := fun vs H Q _ => ∃ a ns, vs = [.ref a] ∧ scrOk K H a ns ∧ ns.length ≤ 63 ∧ ∀ H', Q (.bl true) H'
theorem top_sp {H : Hp} {a : Addr} {ns : List Int} (hl : ns.length ≤ 63) (hO : Only H) (hS : SqL K H a (ns.map V.int)) : spTop K [.ref a] H (fun v _ => v = .bl true) fun _ _ _ => False := by
  refine ⟨a, ns, rfl, ?_, hl, fun _ => rfl⟩
  rcases hS with (h | ⟨o, h⟩) | h
  · rcases hO a with z | ⟨o, xs, z⟩
    · rw [z] at h; cases h
    · rw [z] at h; cases h
  · exact .inl ⟨o, h⟩
  · exact .inr fun _ => .inr h
theorem top_no {H : Hp} {s s' : Shared} {e : Value} (h : L2N.CX P w [] H s (fun _ _ _ => False) e s') : False := by
  obtain ⟨_, _, _, _, _, _, _, _, _, _, _, _, z⟩ := h
  exact z.elim
theorem top_law {f : Addr} {fd : FuncData} {ps : List Str} {k : Nat} {g : Fn} (F : FnOk P w K mg base (L2N.CX P w) k f fd ps (spF K T g)) (hg : ∀ ns : List Int, ns.length ≤ 63 → ∃ S, g [.scr ns] [] = .ok (.bl true) S) : FnOk P w K mg base (L2N.CX P w) k f fd ps (spTop K) :=
  F.imp fun vs H Q E ⟨a, ns, ev, hs, hl, q⟩ => by
    subst ev
    obtain ⟨S, e⟩ := hg ns hl
    refine ⟨[], [], [.scr ns], RelS.nil, RVs.cons (by unfold RV; exact ⟨a, rfl, hs⟩) RVs.nil, ?_⟩
    rw [e]
    intro m' H' x E' r' rv
    cases (show x = .bl true from rv)
    exact q H'
end
end LL


set_option Elab.async false
set_option linter.all false
set_option maxRecDepth 100000
set_option maxHeartbeats 2000000
/-! The logical layer: how it is reckoned with. -/
namespace LL
open PySem PySem.Spec PyProof.Rows L2

/-! ### results -/
def op2 (o : Op2) (v : LV) : R → R
  | .ok w S => o v w S
  | .ex c fs S => .ex c fs S
  | .no => .no
def op1 (o : Op2) (fb : LE) (ds : Sl) : R → R
  | .ok v S => op2 o v (fb ds S)
  | .ex c fs S => .ex c fs S
  | .no => .no
def un1 (o : Op1) : R → R
  | .ok v S => o v S
  | .ex c fs S => .ex c fs S
  | .no => .no
def and1 (fb : LE) (ds : Sl) : R → R
  | .ok (.bl true) S => fb ds S
  | .ok (.bl false) S => .ok (.bl false) S
  | .ok _ _ => .no
  | .ex c fs S => .ex c fs S
  | .no => .no
def or1 (fb : LE) (ds : Sl) : R → R
  | .ok (.bl true) S => .ok (.bl true) S
  | .ok (.bl false) S => fb ds S
  | .ok _ _ => .no
  | .ex c fs S => .ex c fs S
  | .no => .no
def not1 : R → R
  | .ok (.bl b) S => .ok (.bl !b) S
  | .ok _ _ => .no
  | .ex c fs S => .ex c fs S
  | .no => .no
def ite1 (fa fb : LE) (ds : Sl) : R → R
  | .ok (.bl true) S => fa ds S
  | .ok (.bl false) S => fb ds S
  | .ok _ _ => .no
  | .ex c fs S => .ex c fs S
  | .no => .no
def ch2 (o o' : Op2) (v : LV) (fc : LE) (ds : Sl) : R → R
  | .ok w S => match o v w S with
    | .ok (.bl true) S3 => op2 o' w (fc ds S3)
    | .ok (.bl false) S3 => .ok (.bl false) S3
    | .ok _ _ => .no
    | .ex c fs S => .ex c fs S
    | .no => .no
  | .ex c fs S => .ex c fs S
  | .no => .no
def ch3 (o' : Op2) (w : LV) (fc : LE) (ds : Sl) : R → R
  | .ok (.bl true) S3 => op2 o' w (fc ds S3)
  | .ok (.bl false) S3 => .ok (.bl false) S3
  | .ok _ _ => .no
  | .ex c fs S => .ex c fs S
  | .no => .no
def ch1 (o o' : Op2) (fb fc : LE) (ds : Sl) : R → R
  | .ok v S => ch2 o o' v fc ds (fb ds S)
  | .ex c fs S => .ex c fs S
  | .no => .no
def cons1 (fr : LA) (ds : Sl) : R → RL
  | .ok v S => consK v (fr ds S)
  | .ex c fs S => .ex c fs S
  | .no => .no
def app1 (o : OpN) : RL → R
  | .ok vs S => o vs S
  | .ex c fs S => .ex c fs S
  | .no => .no
def part1 (f : Option Int → Sto → R) : R → R
  | .ok (.int i) S => f (some i) S
  | .ok _ _ => .no
  | .ex c fs S => .ex c fs S
  | .no => .no
def sl3 (t : Bool) (v : LV) (l : Option Int) : R → R
  | .ok (.int i) S => slG t v l (some i) S
  | .ok _ _ => .no
  | .ex c fs S => .ex c fs S
  | .no => .no
def sl2h (t : Bool) (v : LV) (l : Option Int) (hi : Option LE) (ds : Sl) (S : Sto) : R := match hi with
  | none => slG t v l none S
  | some f => sl3 t v l (f ds S)
def sl2 (t : Bool) (v : LV) (hi : Option LE) (ds : Sl) : R → R
  | .ok (.int i) S => sl2h t v (some i) hi ds S
  | .ok _ _ => .no
  | .ex c fs S => .ex c fs S
  | .no => .no
def sl1 (t : Bool) (lo hi : Option LE) (ds : Sl) : R → R
  | .ok v S => match lo with
    | none => sl2h t v none hi ds S
    | some f => sl2 t v hi ds (f ds S)
  | .ex c fs S => .ex c fs S
  | .no => .no
def bm2 (o : OpM) (v : LV) : RL → R
  | .ok vs S => o v vs S
  | .ex c fs S => .ex c fs S
  | .no => .no
def bm1 (n : String) (o : OpM) (fa : LA) (ds : Sl) : R → R
  | .ok v S => if isT n v S = true then bm2 o v (fa ds S) else .no
  | .ex c fs S => .ex c fs S
  | .no => .no
def bm0 (n : String) (o : OpM) : R → R
  | .ok v S => if isT n v S = true then o v [] S else .no
  | .ex c fs S => .ex c fs S
  | .no => .no
def drop1 (ds : Sl) : R → RS
  | .ok _ S => .nx ds S
  | .ex c fs S => .ex c fs ds S
  | .no => .no
def ret1 (ds : Sl) : R → RS
  | .ok v S => .rt v S
  | .ex c fs S => .ex c fs ds S
  | .no => .no
def if1 (a b : LS) (ds : Sl) : R → RS
  | .ok (.bl true) S => a ds S
  | .ok (.bl false) S => b ds S
  | .ok _ _ => .no
  | .ex c fs S => .ex c fs ds S
  | .no => .no
def asg1 (g : LG) (ds : Sl) : R → RS
  | .ok v S => asgK g ds v S
  | .ex c fs S => .ex c fs ds S
  | .no => .no
def it1 : R → RI
  | .ok v S => iterO v S
  | .ex c fs S => .ex c fs S
  | .no => .no
def ita1 (f : List LV → Sto → RI) : RL → RI
  | .ok v S => f v S
  | .ex c fs S => .ex c fs S
  | .no => .no
section
variable {v w : LV} {vs fs : List LV} {ds : Sl} {S S' U : Sto} {o o' : Op2} {fa fb fc : LE} {fr : LA} {c n i : Nat} {x : Option LV} {a b : LS} {g : LG}
/-! ### how each is opened -/
@[simp] theorem e_var0 (h : isX v = false) : lVar 0 (some v :: ds) S = .ok v S := by simp [lVar, h]
@[simp] theorem e_varS : lVar (i + 1) (x :: ds) S = lVar i ds S := by simp [lVar]
@[simp] theorem e_c : lC v ds S = .ok v S := (rfl)
@[simp] theorem e_yes : lYes ds S = .ok (.bl true) S := (rfl)
@[simp] theorem e_op : lOp o fa fb ds S = op1 o fb ds (fa ds S) := by
  unfold lOp
  cases fa ds S with
  | ok v S1 =>
    show (fb ds S1).bind _ = op2 o v (fb ds S1)
    cases fb ds S1 <;> rfl
  | _ => rfl
@[simp] theorem e_un {o : Op1} : lUn o fa ds S = un1 o (fa ds S) := by unfold lUn; cases fa ds S <;> rfl
@[simp] theorem e_and : lAnd fa fb ds S = and1 fb ds (fa ds S) := by
  unfold lAnd
  cases fa ds S with
  | ok v S1 => cases v with
    | bl b => cases b <;> rfl
    | _ => rfl
  | _ => rfl
@[simp] theorem e_or : lOr fa fb ds S = or1 fb ds (fa ds S) := by
  unfold lOr
  cases fa ds S with
  | ok v S1 => cases v with
    | bl b => cases b <;> rfl
    | _ => rfl
  | _ => rfl
@[simp] theorem e_not : lNot fa ds S = not1 (fa ds S) := by
  unfold lNot
  cases fa ds S with
  | ok v S1 => cases v <;> rfl
  | _ => rfl
@[simp] theorem e_ite : lIte fc fa fb ds S = ite1 fa fb ds (fc ds S) := by
  unfold lIte
  cases fc ds S with
  | ok v S1 => cases v with
    | bl b => cases b <;> rfl
    | _ => rfl
  | _ => rfl
@[simp] theorem e_chain : lChain o o' fa fb fc ds S = ch1 o o' fb fc ds (fa ds S) := by
  unfold lChain
  cases fa ds S with
  | ok v S1 =>
    show (fb ds S1).bind _ = ch2 o o' v fc ds (fb ds S1)
    cases fb ds S1 with
    | ok w S2 =>
      show (o v w S2).bind _ = _
      unfold ch2
      simp only
      cases o v w S2 with
      | ok u S3 => cases u with
        | bl b => cases b with
          | true => show (fc ds S3).bind _ = op2 o' w (fc ds S3); cases fc ds S3 <;> rfl
          | false => rfl
        | _ => rfl
      | _ => rfl
    | _ => rfl
  | _ => rfl
@[simp] theorem e_nil : lNil ds S = .ok [] S := (rfl)
@[simp] theorem e_cons : lCons fa fr ds S = cons1 fr ds (fa ds S) := by unfold lCons; cases fa ds S <;> rfl
@[simp] theorem e_tup : lTup fr ds S = app1 mkTup (fr ds S) := by unfold lTup; cases fr ds S <;> rfl
@[simp] theorem e_lst : lLst fr ds S = app1 (mkLst false) (fr ds S) := by unfold lLst; cases fr ds S <;> rfl
@[simp] theorem e_lsT : lLsT fr ds S = app1 (mkLst true) (fr ds S) := by unfold lLsT; cases fr ds S <;> rfl
@[simp] theorem e_bi {o : OpN} : lBi o fr ds S = app1 o (fr ds S) := by unfold lBi; cases fr ds S <;> rfl
@[simp] theorem e_call {g : Fn} : lCall g fr ds S = app1 g (fr ds S) := by unfold lCall; cases fr ds S <;> rfl
@[simp] theorem e_sl {t : Bool} {lo hi : Option LE} : lSlG t fa lo hi ds S = sl1 t lo hi ds (fa ds S) := by
  unfold lSlG
  cases fa ds S with
  | ok v S1 =>
    have hh : ∀ l S2, partK hi ds S2 (fun h S3 => slG t v l h S3) = sl2h t v l hi ds S2 := fun l S2 => by
      cases hi with
      | none => rfl
      | some f =>
        show (f ds S2).bind _ = sl3 t v l (f ds S2)
        cases f ds S2 with
        | ok u S3 => cases u <;> rfl
        | _ => rfl
    cases lo with
    | none => exact hh none S1
    | some f =>
      show (f ds S1).bind _ = sl2 t v hi ds (f ds S1)
      cases f ds S1 with
      | ok u S2 => cases u with
        | int i => exact hh _ _
        | _ => rfl
      | _ => rfl
  | _ => rfl
@[simp] theorem e_bm {n : String} {o : OpM} : lBm n o fa fr ds S = bm1 n o fr ds (fa ds S) := by
  unfold lBm
  cases fa ds S with
  | ok v S1 =>
    show (if isT n v S1 = true then (fr ds S1).bind (fun vs S2 => o v vs S2) else .no) = (if isT n v S1 = true then bm2 o v (fr ds S1) else .no)
    cases fr ds S1 <;> rfl
  | _ => rfl
@[simp] theorem e_bm0 {n : String} {o : OpM} : lBm0 n o fa ds S = bm0 n o (fa ds S) := by unfold lBm0; cases fa ds S <;> rfl
@[simp] theorem e_seq : lSeq a b ds S = seqK b (a ds S) := (rfl)
@[simp] theorem e_nx : lNx ds S = .nx ds S := (rfl)
@[simp] theorem e_drop : lDrop fa ds S = drop1 ds (fa ds S) := by unfold lDrop; cases fa ds S <;> rfl
@[simp] theorem e_ret : lRet fa ds S = ret1 ds (fa ds S) := by unfold lRet; cases fa ds S <;> rfl
@[simp] theorem e_retN : lRetN ds S = .rt .non S := (rfl)
@[simp] theorem e_brk : lBrk ds S = .bk ds S := (rfl)
@[simp] theorem e_cnt : lCnt ds S = .ct ds S := (rfl)
@[simp] theorem e_if : lIf fc a b ds S = if1 a b ds (fc ds S) := by
  unfold lIf
  cases fc ds S with
  | ok v S1 => cases v with
    | bl b => cases b <;> rfl
    | _ => rfl
  | _ => rfl
@[simp] theorem e_asg : lAsg fa g ds S = asg1 g ds (fa ds S) := by unfold lAsg; cases fa ds S <;> rfl
@[simp] theorem e_iter : lIter fa ds S = it1 (fa ds S) := by unfold lIter; cases fa ds S <;> rfl
@[simp] theorem e_rng1 : lRng1 fr ds S = ita1 rng1O (fr ds S) := by unfold lRng1; cases fr ds S <;> rfl
@[simp] theorem e_rng2 : lRng2 fr ds S = ita1 rng2O (fr ds S) := by unfold lRng2; cases fr ds S <;> rfl
@[simp] theorem e_for {li : LI} {fb : LS} : lFor li g fb ds S = forS g fb ds (li ds S) := (rfl)
@[simp] theorem e_lc {t : Bool} {li : LI} {ft fe : LE} {us : List Nat} : lLcG t li g ft fe us ds S = lcR t g ft fe (wipeL ds us) (li ds S) := (rfl)
@[simp] theorem e_dnew : lDnew ds S = .ok (.ref S.length) (S ++ [.dct []]) := (rfl)
@[simp] theorem e_nm : asgK (gNm i) ds v S = .nx (ds.set i (some v)) S := (rfl)
theorem e_fn {N : Nat} {s : LS} (h : vs.length = n) : mkFn n N s vs S = gcF S (fin (s (vs.map some ++ List.replicate (N - n) none) S)) := by unfold mkFn mkFnG; rw [if_pos h]; rfl
theorem e_fnT {N : Nat} {s : LS} (h : vs.length = n) : mkFnT n N s vs S = gcT S (fin (s (vs.map some ++ List.replicate (N - n) none) S)) := by unfold mkFnT mkFnG; rw [if_pos h]; rfl
/-! ### what is behind -/
@[simp] theorem op1_ok : op1 o fb ds (.ok v S) = op2 o v (fb ds S) := (rfl)
@[simp] theorem op1_ex : op1 o fb ds (.ex c fs S) = .ex c fs S := (rfl)
@[simp] theorem op2_ok : op2 o v (.ok w S) = o v w S := (rfl)
@[simp] theorem op2_ex : op2 o v (.ex c fs S) = .ex c fs S := (rfl)
@[simp] theorem un1_ok {o : Op1} : un1 o (.ok v S) = o v S := (rfl)
@[simp] theorem un1_ex {o : Op1} : un1 o (.ex c fs S) = .ex c fs S := (rfl)
@[simp] theorem and1_t : and1 fb ds (.ok (.bl true) S) = fb ds S := (rfl)
@[simp] theorem and1_f : and1 fb ds (.ok (.bl false) S) = .ok (.bl false) S := (rfl)
@[simp] theorem and1_ex : and1 fb ds (.ex c fs S) = .ex c fs S := (rfl)
@[simp] theorem or1_t : or1 fb ds (.ok (.bl true) S) = .ok (.bl true) S := (rfl)
@[simp] theorem or1_f : or1 fb ds (.ok (.bl false) S) = fb ds S := (rfl)
@[simp] theorem or1_ex : or1 fb ds (.ex c fs S) = .ex c fs S := (rfl)
@[simp] theorem not1_ok {k : Bool} : not1 (.ok (.bl k) S) = .ok (.bl !k) S := (rfl)
@[simp] theorem not1_ex : not1 (.ex c fs S) = .ex c fs S := (rfl)
@[simp] theorem ite1_t : ite1 fa fb ds (.ok (.bl true) S) = fa ds S := (rfl)
@[simp] theorem ite1_f : ite1 fa fb ds (.ok (.bl false) S) = fb ds S := (rfl)
@[simp] theorem ite1_ex : ite1 fa fb ds (.ex c fs S) = .ex c fs S := (rfl)
@[simp] theorem ch1_ok : ch1 o o' fb fc ds (.ok v S) = ch2 o o' v fc ds (fb ds S) := (rfl)
@[simp] theorem ch2_ok : ch2 o o' v fc ds (.ok w S) = ch3 o' w fc ds (o v w S) := (rfl)
@[simp] theorem ch3_t : ch3 o' w fc ds (.ok (.bl true) S) = op2 o' w (fc ds S) := (rfl)
@[simp] theorem ch3_f : ch3 o' w fc ds (.ok (.bl false) S) = .ok (.bl false) S := (rfl)
@[simp] theorem cons1_ok : cons1 fr ds (.ok v S) = consK v (fr ds S) := (rfl)
@[simp] theorem cons1_ex : cons1 fr ds (.ex c fs S) = .ex c fs S := (rfl)
@[simp] theorem consK_ok : consK v (.ok vs S) = .ok (v :: vs) S := (rfl)
@[simp] theorem consK_ex : consK v (.ex c fs S) = .ex c fs S := (rfl)
@[simp] theorem app1_ok {o : OpN} : app1 o (.ok vs S) = o vs S := (rfl)
@[simp] theorem app1_ex {o : OpN} : app1 o (.ex c fs S) = .ex c fs S := (rfl)
@[simp] theorem sl1_nn {t : Bool} : sl1 t none none ds (.ok v S) = slG t v none none S := (rfl)
@[simp] theorem sl1_nh {t : Bool} : sl1 t none (some fb) ds (.ok v S) = sl3 t v none (fb ds S) := (rfl)
@[simp] theorem sl1_l {t : Bool} {hi : Option LE} : sl1 t (some fa) hi ds (.ok v S) = sl2 t v hi ds (fa ds S) := (rfl)
@[simp] theorem sl2_n {t : Bool} {k : Int} : sl2 t v none ds (.ok (.int k) S) = slG t v (some k) none S := (rfl)
@[simp] theorem sl2_h {t : Bool} {k : Int} : sl2 t v (some fb) ds (.ok (.int k) S) = sl3 t v (some k) (fb ds S) := (rfl)
@[simp] theorem sl3_ok {t : Bool} {k : Int} {l : Option Int} : sl3 t v l (.ok (.int k) S) = slG t v l (some k) S := (rfl)
theorem bm1_ok {n : String} {o : OpM} (h : isT n v S = true) : bm1 n o fr ds (.ok v S) = bm2 o v (fr ds S) := by unfold bm1; simp [h]
theorem bm0_ok {n : String} {o : OpM} (h : isT n v S = true) : bm0 n o (.ok v S) = o v [] S := by unfold bm0; simp [h]
@[simp] theorem bm1_l {o : OpM} {xs : List LV} : bm1 "list" o fr ds (.ok (.lst xs) S) = bm2 o (.lst xs) (fr ds S) := bm1_ok (by simp [isT])
@[simp] theorem bm1_s {o : OpM} {z : Str} : bm1 "str" o fr ds (.ok (.str z) S) = bm2 o (.str z) (fr ds S) := bm1_ok (by simp [isT])
@[simp] theorem bm2_ok {o : OpM} : bm2 o v (.ok vs S) = o v vs S := (rfl)
@[simp] theorem drop1_ok : drop1 ds (.ok v S) = .nx ds S := (rfl)
@[simp] theorem drop1_ex : drop1 ds (.ex c fs S) = .ex c fs ds S := (rfl)
@[simp] theorem ret1_ok : ret1 ds (.ok v S) = .rt v S := (rfl)
@[simp] theorem ret1_ex : ret1 ds (.ex c fs S) = .ex c fs ds S := (rfl)
@[simp] theorem if1_t : if1 a b ds (.ok (.bl true) S) = a ds S := (rfl)
@[simp] theorem if1_f : if1 a b ds (.ok (.bl false) S) = b ds S := (rfl)
@[simp] theorem if1_ex : if1 a b ds (.ex c fs S) = .ex c fs ds S := (rfl)
@[simp] theorem asg1_ok : asg1 g ds (.ok v S) = asgK g ds v S := (rfl)
@[simp] theorem asg1_ex : asg1 g ds (.ex c fs S) = .ex c fs ds S := (rfl)
@[simp] theorem seq_nx : seqK b (.nx ds S) = b ds S := (rfl)
@[simp] theorem seq_rt : seqK b (.rt v S) = .rt v S := (rfl)
@[simp] theorem seq_bk : seqK b (.bk ds S) = .bk ds S := (rfl)
@[simp] theorem seq_ct : seqK b (.ct ds S) = .ct ds S := (rfl)
@[simp] theorem seq_ex : seqK b (.ex c fs ds S) = .ex c fs ds S := (rfl)
@[simp] theorem fin_nx : fin (.nx ds S) = .ok .non S := (rfl)
@[simp] theorem fin_rt : fin (.rt v S) = .ok v S := (rfl)
@[simp] theorem fin_ex : fin (.ex c fs ds S) = .ex c fs S := (rfl)
@[simp] theorem it1_ok : it1 (.ok v S) = iterO v S := (rfl)
@[simp] theorem ita1_ok {f : List LV → Sto → RI} : ita1 f (.ok vs S) = f vs S := (rfl)
theorem if1_b {k : Bool} : if1 a b ds (.ok (.bl k) S) = if k = true then a ds S else b ds S := by cases k <;> rfl
theorem ite1_b {k : Bool} : ite1 fa fb ds (.ok (.bl k) S) = if k = true then fa ds S else fb ds S := by cases k <;> rfl
/-! ### what nobody holds is dropped -/
@[simp] theorem low_int {k : Int} : lowV n (.int k) = true := (rfl)
@[simp] theorem low_str {k : Str} : lowV n (.str k) = true := (rfl)
@[simp] theorem low_bl {k : Bool} : lowV n (.bl k) = true := (rfl)
@[simp] theorem low_non : lowV n .non = true := (rfl)
@[simp] theorem low_scr {ns : List Int} : lowV n (.scr ns) = true := (rfl)
@[simp] theorem low_tup : lowV n (.tup vs) = lowVs n vs := (rfl)
@[simp] theorem low_ktp : lowV n (.ktp vs) = lowVs n vs := (rfl)
@[simp] theorem low_ref {k : Nat} : lowV n (.ref k) = decide (k < n) := (rfl)
@[simp] theorem lows_nil : lowVs n [] = true := (rfl)
@[simp] theorem lows_cons : lowVs n (v :: vs) = (lowV n v && lowVs n vs) := (rfl)
@[simp] theorem low_lst : lowV n (.lst vs) = lowVs n vs := (rfl)
theorem gc_bl {S S' : Sto} {k : Bool} : ∃ S2, gcF S (.ok (.bl k) S') = .ok (.bl k) S2 := by
  unfold gcF
  simp only
  cases gcS S S' S'.length with
  | some S2 => simp only; rw [frz_low rfl]; exact ⟨_, rfl⟩
  | none => exact ⟨_, rfl⟩
@[simp] theorem gcG_t {r : R} : gcG true S r = gcT S r := by unfold gcG; rw [if_pos rfl]
@[simp] theorem gcG_f {r : R} : gcG false S r = gcF S r := by unfold gcG; rw [if_neg (by simp)]
@[simp] theorem newL_t : newL true vs S = .ok (.ref S.length) (S ++ [.lst vs]) := (rfl)
@[simp] theorem newL_f : newL false vs S = .ok (.lst vs) S := (rfl)
@[simp] theorem mkLst_ok {t : Bool} (h : vs.length ≤ 16777216) : mkLst t vs S = newL t vs S := by unfold mkLst small; rw [if_pos (decide_eq_true h)]
@[simp] theorem mkTup_ok (h : vs.length ≤ 16777216) : mkTup vs S = .ok (.tup vs) S := by unfold mkTup small; rw [if_pos (decide_eq_true h)]
@[simp] theorem get_app0 : (S ++ U)[S.length]? = U[0]? := by rw [List.getElem?_append_right (Nat.le_refl _), Nat.sub_self]
@[simp] theorem get_app {k : Nat} : (S ++ U)[S.length + k]? = U[k]? := by rw [List.getElem?_append_right (Nat.le_add_right _ _), Nat.add_sub_cancel_left]
theorem set_app0 {o : LO} : (S ++ U).set S.length o = S ++ U.set 0 o := by
  rw [List.set_append_right _ _ (Nat.le_refl _), Nat.sub_self]
theorem set_app {k : Nat} {o : LO} : (S ++ U).set (S.length + k) o = S ++ U.set k o := by
  rw [List.set_append_right _ _ (Nat.le_add_right _ _), Nat.add_sub_cancel_left]
end
/-! ### loops over what is known -/
def forL (lg : LG) (fb : LS) : List LV → Sl → Sto → RS
  | [], ds, S => .nx ds S
  | v :: vs, ds, S => match lg v S ds with
    | none => .no
    | some ds1 => match fb ds1 S with
      | .nx ds2 S2 => forL lg fb vs ds2 S2
      | .ct ds2 S2 => forL lg fb vs ds2 S2
      | .bk ds2 S2 => .nx ds2 S2
      | r => r
theorem for_ofAux (lg : LG) (fb : LS) (xs : List LV) : ∀ (k i : Nat) (ds : Sl) (S : Sto), i + k = xs.length → forK (itOf xs) lg fb k i ds S = forL lg fb (xs.drop i) ds S
  | 0, i, ds, S, h => by
    have : xs.drop i = [] := List.drop_eq_nil_of_le (by omega)
    rw [this]
    rfl
  | k + 1, i, ds, S, h => by
    have hi : i < xs.length := by omega
    rw [List.drop_eq_getElem_cons hi]
    have e : xs[i]? = some xs[i] := List.getElem?_eq_getElem hi
    unfold forK forL
    show (match xs[i]? with | none => RS.no | some v => _) = _
    rw [e]
    simp only
    cases lg xs[i] S ds with
    | none => rfl
    | some ds1 =>
      simp only
      cases fb ds1 S with
      | nx ds2 S2 => exact for_ofAux lg fb xs k (i + 1) ds2 S2 (by omega)
      | ct ds2 S2 => exact for_ofAux lg fb xs k (i + 1) ds2 S2 (by omega)
      | _ => rfl
theorem forS_of {lg : LG} {fb : LS} {xs : List LV} {ds : Sl} {S : Sto} : forS lg fb ds (.ok (itOf xs) S) = forL lg fb xs ds S := by
  show forK (itOf xs) lg fb xs.length 0 ds S = _
  rw [for_ofAux lg fb xs _ _ _ _ (by omega), List.drop_zero]
@[simp] theorem forS_ex {lg : LG} {fb : LS} {ds : Sl} {S : Sto} {c : Nat} {fs : List LV} : forS lg fb ds (.ex c fs S) = .ex c fs ds S := (rfl)
/-- what is walked is known -/
def ItIs (S : Sto) (l : LIt) (xs : List LV) : Prop := l.n = xs.length ∧ ∀ U : Sto, (∀ i v, xs[i]? = some v → l.item i (S ++ U) = some v) ∧ l.fine (S ++ U) = true
theorem ItIs.n {S : Sto} {l : LIt} {xs : List LV} (h : ItIs S l xs) : l.n = xs.length := h.1
theorem ItIs.item {S : Sto} {l : LIt} {xs : List LV} (h : ItIs S l xs) {i : Nat} {v : LV} (e : xs[i]? = some v) : l.item i S = some v := by
  have := (h.2 []).1 i v e
  rwa [List.append_nil] at this
theorem ItIs.fine {S : Sto} {l : LIt} {xs : List LV} (h : ItIs S l xs) : l.fine S = true := by
  have := (h.2 []).2
  rwa [List.append_nil] at this
theorem ItIs.of {S : Sto} {xs : List LV} : ItIs S (itOf xs) xs := ⟨rfl, fun U => ⟨fun i v e => e, rfl⟩⟩
theorem ItIs.ref {S : Sto} {n : Nat} {xs : List LV} (h : S[n]? = some (.lst xs)) : ItIs S (itRef n xs.length) xs := ⟨rfl, fun U => by
  have hn : (S ++ U)[n]? = some (.lst xs) := by rw [List.getElem?_append_left (List.getElem?_eq_some_iff.mp h).1]; exact h
  refine ⟨fun i v e => ?_, ?_⟩
  · show refI n xs.length i (S ++ U) = _
    unfold refI
    rw [hn]
    simp [e]
  · show refF n xs.length (S ++ U) = _
    unfold refF
    rw [hn]
    simp⟩
theorem ItIs.app {S U : Sto} {l : LIt} {xs : List LV} (h : ItIs S l xs) : ItIs (S ++ U) l xs := ⟨h.1, fun V => by
  rw [List.append_assoc]
  exact h.2 (U ++ V)⟩
/-- a comprehension that leaves the store -/
theorem lcK_map {β : Type} {lg : LG} {ft fe : LE} {ds : Sl} {S : Sto} {l : LIt} {ws : List β} {g : β → LV} (p : β → Bool) (f : β → LV) (hl : ItIs S l (ws.map g)) (hs : ws.length ≤ 16777216)
    (h : ∀ b ∈ ws, ∀ acc, ∃ ds1, lg (g b) (S ++ [.lst acc]) ds = some ds1 ∧ ft ds1 (S ++ [.lst acc]) = .ok (.bl (p b)) (S ++ [.lst acc]) ∧ (p b = true → fe ds1 (S ++ [.lst acc]) = .ok (f b) (S ++ [.lst acc]))) :
    ∀ (k i : Nat) (acc : List LV), i + k = ws.length → acc.length ≤ i → lcK l lg ft fe ds S.length k i (S ++ [.lst acc]) = .ok (.ref S.length) (S ++ [.lst (acc ++ ((ws.drop i).filter p).map f)])
  | 0, i, acc, e, _ => by
    have : ws.drop i = [] := List.drop_eq_nil_of_le (by omega)
    rw [this]
    unfold lcK
    rw [if_pos hl.app.fine]
    simp
  | k + 1, i, acc, e, ha => by
    have hi : i < ws.length := by omega
    rw [List.drop_eq_getElem_cons hi]
    obtain ⟨ds1, h1, h2, h3⟩ := h ws[i] (List.getElem_mem hi) acc
    unfold lcK
    rw [hl.app.item (v := g ws[i]) (by rw [List.getElem?_map, List.getElem?_eq_getElem hi]; rfl)]
    simp only
    rw [h1]
    simp only
    rw [h2]
    cases ht : p ws[i] with
    | true =>
      simp only
      rw [h3 ht]
      simp only
      unfold lcA
      rw [show (S ++ [LO.lst acc])[S.length]? = some (.lst acc) by rw [get_app0]; rfl]
      simp only
      rw [if_pos (by unfold small; exact decide_eq_true (by omega)), set_app0]
      show lcK l lg ft fe ds S.length k (i + 1) (S ++ [.lst (acc ++ [f ws[i]])]) = _
      rw [lcK_map p f hl hs h k (i + 1) _ (by omega) (by simp; omega), List.filter_cons, if_pos ht, List.map_cons, List.append_assoc]
      rfl
    | false =>
      simp only
      rw [lcK_map p f hl hs h k (i + 1) _ (by omega) (by omega), List.filter_cons, if_neg (by rw [ht]; simp)]
theorem lows_all {n : Nat} {vs : List LV} : lowVs n vs = true ↔ ∀ v ∈ vs, lowV n v = true := by
  induction vs with
  | nil => exact ⟨fun _ v h => (by cases h), fun _ => rfl⟩
  | cons v vs ih =>
    rw [lows_cons, Bool.and_eq_true, ih]
    constructor
    · rintro ⟨h1, h2⟩ w hw
      rcases List.mem_cons.mp hw with rfl | hw
      · exact h1
      · exact h2 w hw
    · exact fun h => ⟨h v (List.mem_cons_self ..), fun w hw => h w (List.mem_cons_of_mem _ hw)⟩
theorem lcR_map {β : Type} {t : Bool} {lg : LG} {ft fe : LE} {ds : Sl} {S : Sto} {l : LIt} {ws : List β} {g : β → LV} (p : β → Bool) (f : β → LV) (hl : ItIs S l (ws.map g)) (hs : ws.length ≤ 16777216)
    (h : ∀ b ∈ ws, ∀ acc, ∃ ds1, lg (g b) (S ++ [.lst acc]) ds = some ds1 ∧ ft ds1 (S ++ [.lst acc]) = .ok (.bl (p b)) (S ++ [.lst acc]) ∧ (p b = true → fe ds1 (S ++ [.lst acc]) = .ok (f b) (S ++ [.lst acc])))
    (hlow : ∀ b ∈ ws, p b = true → lowV S.length (f b) = true) :
    lcR t lg ft fe ds (.ok l S) = newL t ((ws.filter p).map f) S := by
  show gcG t S (lcK l lg ft fe ds S.length l.n 0 (S ++ [.lst []])) = _
  rw [hl.n, List.length_map, lcK_map p f hl hs h ws.length 0 [] (by omega) (by simp), List.drop_zero, List.nil_append]
  have low : lowVs S.length ((ws.filter p).map f) = true := lows_all.mpr fun v hv => by
    obtain ⟨b, hb, rfl⟩ := List.mem_map.mp hv
    obtain ⟨h1, h2⟩ := List.mem_filter.mp hb
    exact hlow b h1 h2
  cases t with
  | true => rw [gcG_t, gcT_new0 rfl low]; rfl
  | false => rw [gcG_f, gc_frz0 rfl low]; rfl
/-- .. without a test -/
theorem lcR_all {β : Type} {t : Bool} {lg : LG} {fe : LE} {ds : Sl} {S : Sto} {l : LIt} {ws : List β} {g : β → LV} (f : β → LV) (hl : ItIs S l (ws.map g)) (hs : ws.length ≤ 16777216)
    (h : ∀ b ∈ ws, ∀ acc, ∃ ds1, lg (g b) (S ++ [.lst acc]) ds = some ds1 ∧ fe ds1 (S ++ [.lst acc]) = .ok (f b) (S ++ [.lst acc])) (hlow : ∀ b ∈ ws, lowV S.length (f b) = true) :
    lcR t lg lYes fe ds (.ok l S) = newL t (ws.map f) S := by
  rw [lcR_map (fun _ => true) f hl hs (fun b hb acc => by
    obtain ⟨ds1, h1, h2⟩ := h b hb acc
    exact ⟨ds1, h1, e_yes, fun _ => h2⟩) fun b hb _ => hlow b hb, List.filter_eq_self.mpr fun _ _ => rfl]
/-! ### for -/
/-- one turn -/
def turn (lg : LG) (fb : LS) (v : LV) (ds : Sl) (S : Sto) : RS := match lg v S ds with
  | none => .no
  | some ds1 => match fb ds1 S with
    | .ct ds2 S2 => .nx ds2 S2
    | r => r
/-- for, in general: what is kept (a), what is not looked at (j) -/
theorem forK_gen {α β J : Type} {lg : LG} {fb : LS} {l : LIt} {ws : List β} {g : β → LV} (D : α → J → Sl) (T : α → Sto) (step : α → β → Except RS α) (P : α → Prop) (hl : ∀ a, P a → ItIs (T a) l (ws.map g))
    (h : ∀ b ∈ ws, ∀ a j, P a → match step a b with
      | .ok a' => P a' ∧ ∃ j', turn lg fb (g b) (D a j) (T a) = .nx (D a' j') (T a')
      | .error r => turn lg fb (g b) (D a j) (T a) = r ∧ (match r with | .nx _ _ => False | .ct _ _ => False | .bk _ _ => False | _ => True)) :
    ∀ (k i : Nat) (a : α) (j : J), i + k = ws.length → P a → match (ws.drop i).foldlM step a with
      | .ok a' => P a' ∧ ∃ j', forK l lg fb k i (D a j) (T a) = .nx (D a' j') (T a')
      | .error r => forK l lg fb k i (D a j) (T a) = r
  | 0, i, a, j, e, p => by
    have : ws.drop i = [] := List.drop_eq_nil_of_le (by omega)
    rw [this]
    refine ⟨p, j, ?_⟩
    unfold forK
    rw [if_pos (hl a p).fine]
  | k + 1, i, a, j, e, p => by
    have hi : i < ws.length := by omega
    rw [List.drop_eq_getElem_cons hi, List.foldlM_cons]
    have q := h ws[i] (List.getElem_mem hi) a j p
    have it := (hl a p).item (i := i) (v := g ws[i]) (by rw [List.getElem?_map, List.getElem?_eq_getElem hi]; rfl)
    unfold forK
    rw [it]
    simp only
    unfold turn at q
    cases hd : lg (g ws[i]) (T a) (D a j) with
    | none =>
      rw [hd] at q
      cases hs : step a ws[i] with
      | ok a' =>
        rw [hs] at q
        obtain ⟨_, _, q⟩ := q
        cases q
      | error r =>
        rw [hs] at q
        exact q.1
    | some ds1 =>
      rw [hd] at q
      simp only at q ⊢
      cases hs : step a ws[i] with
      | ok a' =>
        rw [hs] at q
        obtain ⟨pa, j', q⟩ := q
        have ih := forK_gen D T step P hl h k (i + 1) a' j' (by omega) pa
        show match (ws.drop (i + 1)).foldlM step a' with | .ok a' => _ | .error r => _
        cases hf : fb ds1 (T a) with
        | nx ds2 S2 =>
          rw [hf] at q
          cases q
          exact ih
        | ct ds2 S2 =>
          rw [hf] at q
          cases q
          exact ih
        | _ => rw [hf] at q; cases q
      | error r =>
        rw [hs] at q
        obtain ⟨q, q2⟩ := q
        show (match fb ds1 (T a) with | .nx ds2 S2 => forK l lg fb k (i + 1) ds2 S2 | .ct ds2 S2 => forK l lg fb k (i + 1) ds2 S2 | .bk ds2 S2 => .nx ds2 S2 | r => r) = r
        cases hf : fb ds1 (T a) with
        | nx ds2 S2 => rw [hf] at q; subst q; exact q2.elim
        | ct ds2 S2 => rw [hf] at q; subst q; exact q2.elim
        | bk ds2 S2 => rw [hf] at q; subst q; exact q2.elim
        | _ => rw [hf] at q; exact q
theorem for_gen {α β J : Type} {lg : LG} {fb : LS} {l : LIt} {ws : List β} {g : β → LV} (D : α → J → Sl) (T : α → Sto) (step : α → β → Except RS α) (P : α → Prop) (hl : ∀ a, P a → ItIs (T a) l (ws.map g))
    (h : ∀ b ∈ ws, ∀ a j, P a → match step a b with
      | .ok a' => P a' ∧ ∃ j', turn lg fb (g b) (D a j) (T a) = .nx (D a' j') (T a')
      | .error r => turn lg fb (g b) (D a j) (T a) = r ∧ (match r with | .nx _ _ => False | .ct _ _ => False | .bk _ _ => False | _ => True)) (a : α) (j : J) (p : P a) :
    match ws.foldlM step a with
      | .ok a' => P a' ∧ ∃ j', forS lg fb (D a j) (.ok l (T a)) = .nx (D a' j') (T a')
      | .error r => forS lg fb (D a j) (.ok l (T a)) = r := by
  have := forK_gen D T step P hl h ws.length 0 a j (by omega) p
  rw [List.drop_zero] at this
  have e : forS lg fb (D a j) (.ok l (T a)) = forK l lg fb ws.length 0 (D a j) (T a) := by
    show forK l lg fb l.n 0 _ _ = _
    rw [(hl a p).n, List.length_map]
  rw [e]
  exact this
theorem foldlM_ok {α β ε : Type} (f : α → β → α) : ∀ (ws : List β) (a : α), ws.foldlM (fun a b => (.ok (f a b) : Except ε α)) a = .ok (ws.foldl f a)
  | [], a => rfl
  | b :: ws, a => by rw [List.foldlM_cons, List.foldl_cons]; exact foldlM_ok f ws (f a b)
/-- .. each turn a step -/
theorem for_fold {α β J : Type} {lg : LG} {fb : LS} {l : LIt} {ws : List β} {g : β → LV} (D : α → J → Sl) (T : α → Sto) (f : α → β → α) (P : α → Prop) (hl : ∀ a, P a → ItIs (T a) l (ws.map g))
    (h : ∀ b ∈ ws, ∀ a j, P a → P (f a b) ∧ ∃ j', turn lg fb (g b) (D a j) (T a) = .nx (D (f a b) j') (T (f a b))) (a : α) (j : J) (p : P a) :
    P (ws.foldl f a) ∧ ∃ j', forS lg fb (D a j) (.ok l (T a)) = .nx (D (ws.foldl f a) j') (T (ws.foldl f a)) := by
  have := for_gen (lg := lg) (fb := fb) (l := l) (ws := ws) (g := g) D T (fun a b => .ok (f a b)) P hl (fun b hb a j p => h b hb a j p) a j p
  rw [foldlM_ok] at this
  exact this
/-- .. a hit ends it -/
theorem for_find {β J : Type} {lg : LG} {fb : LS} {l : LIt} {S : Sto} {ws : List β} {g : β → LV} (D : J → Sl) (p : β → Bool) (r : β → RS) (hl : ItIs S l (ws.map g))
    (h : ∀ b ∈ ws, ∀ j, (p b = false → ∃ j', turn lg fb (g b) (D j) S = .nx (D j') S) ∧ (p b = true → turn lg fb (g b) (D j) S = r b ∧ (match r b with | .nx _ _ => False | .ct _ _ => False | .bk _ _ => False | _ => True))) (j : J) :
    match ws.find? p with
      | some b => forS lg fb (D j) (.ok l S) = r b
      | none => ∃ j', forS lg fb (D j) (.ok l S) = .nx (D j') S := by
  have := for_gen (α := Unit) (lg := lg) (fb := fb) (l := l) (ws := ws) (g := g) (fun _ => D) (fun _ => S) (fun _ b => if p b = true then .error (r b) else .ok ()) (fun _ => True) (fun _ _ => hl) (fun b hb _ j _ => by
    obtain ⟨h1, h2⟩ := h b hb j
    cases hp : p b with
    | true => simp only [if_true]; exact h2 hp
    | false => exact ⟨trivial, h1 hp⟩) () j trivial
  have e : ∀ ws : List β, ws.foldlM (fun (_ : Unit) b => if p b = true then (.error (r b) : Except RS Unit) else .ok ()) () = match ws.find? p with | some b => .error (r b) | none => .ok () := by
    intro ws
    induction ws with
    | nil => rfl
    | cons b ws ih =>
      rw [List.foldlM_cons, List.find?_cons]
      cases hp : p b with
      | true => rfl
      | false => exact ih
  rw [e] at this
  cases hf : ws.find? p with
  | some b => rw [hf] at this; exact this
  | none => rw [hf] at this; exact this.2
/-! ### operators on what is known -/
/-- the signs of a text; the text of one sign -/
def tl (z : Str) : List Nat := z.cps.toList
def one (c : Nat) : Str := ⟨#[c]⟩
theorem signs_tl (z : Str) : LL.signs z = (tl z).map fun c => .str (one c) := (rfl)
section
variable {i j : Int} {y z : Str} {S : Sto} {p q : Bool} {v w : LV} {vs us : List LV}
@[simp] theorem add_ii {t : Bool} : addG t (.int i) (.int j) S = .ok (.int (i + j)) S := (rfl)
theorem add_ss {t : Bool} (h : y.length + z.length ≤ 16777216) : addG t (.str y) (.str z) S = .ok (.str (y ++ z)) S := by simp [addG, small, h]
theorem add_ll {t : Bool} {xs ys : List LV} (hv : lsO v S = some xs) (hw : lsO w S = some ys) (h : xs.length + ys.length ≤ 16777216) : addG t v w S = newL t (xs ++ ys) S := by
  have hn : small (xs.length + ys.length) = true := by unfold small; exact decide_eq_true h
  unfold addG
  split
  · cases hv
  · cases hv
  · cases hv
  · simp only [hv, hw, hn, if_true]
@[simp] theorem ls_l {xs : List LV} : lsO (.lst xs) S = some xs := (rfl)
theorem ls_r {n : Nat} {xs : List LV} (h : S[n]? = some (.lst xs)) : lsO (.ref n) S = some xs := by simp [lsO, h]
theorem add_tt {t : Bool} (h : vs.length + us.length ≤ 16777216) : addG t (.tup vs) (.tup us) S = .ok (.tup (vs ++ us)) S := by simp [addG, small, h]
@[simp] theorem sub_ii : subL (.int i) (.int j) S = .ok (.int (i - j)) S := (rfl)
theorem mul_l {t : Bool} (h : -(2 ^ 64) < i) (h2 : i < 2 ^ 64) : mulG t (.int i) (.int j) S = .ok (.int (i * j)) S := by
  have : okMul i j = true := by simp only [okMul, Bool.or_eq_true, Bool.and_eq_true, decide_eq_true_eq]; exact .inl (.inl ⟨h, h2⟩)
  simp only [mulG, this, if_true]
theorem mul_r {t : Bool} (h : -(2 ^ 64) < j) (h2 : j < 2 ^ 64) : mulG t (.int i) (.int j) S = .ok (.int (i * j)) S := by
  have : okMul i j = true := by simp only [okMul, Bool.or_eq_true, Bool.and_eq_true, decide_eq_true_eq]; exact .inl (.inr ⟨h, h2⟩)
  simp only [mulG, this, if_true]
theorem mul_b {t : Bool} (h : -bigB ≤ i ∧ i ≤ bigB) (h2 : -bigB ≤ j ∧ j ≤ bigB) : mulG t (.int i) (.int j) S = .ok (.int (i * j)) S := by
  have : okMul i j = true := by simp only [okMul, Bool.or_eq_true, Bool.and_eq_true, decide_eq_true_eq]; exact .inr ⟨⟨⟨h.1, h.2⟩, h2.1⟩, h2.2⟩
  simp only [mulG, this, if_true]
theorem div_ii (h : 0 < j) (h2 : j ≤ 10 ^ 70) : divL (.int i) (.int j) S = .ok (.int (i / j)) S := by
  have : okDiv j = true := by unfold okDiv bigB; rw [decide_eq_true h, decide_eq_true h2]; rfl
  simp only [divL, this, if_true]
theorem mod_ii (h : 0 < j) : modL (.int i) (.int j) S = .ok (.int (i % j)) S := by simp only [modL, h, if_true]
theorem pow_ii (h : 0 ≤ j) (h2 : j ≤ 1000000) (h3 : i.natAbs < 2 ^ 64) : powL (.int i) (.int j) S = .ok (.int (i ^ j.toNat)) S := by
  have : okPow i j = true := by simp only [okPow, Bool.and_eq_true, decide_eq_true_eq]; exact ⟨⟨h, h2⟩, h3⟩
  simp only [powL, this, if_true]
@[simp] theorem neg_i : negL (.int i) S = .ok (.int (-i)) S := (rfl)
@[simp] theorem lt_ii : ltL (.int i) (.int j) S = .ok (.bl (decide (i < j))) S := (rfl)
@[simp] theorem le_ii : leL (.int i) (.int j) S = .ok (.bl (decide (i ≤ j))) S := (rfl)
@[simp] theorem gt_ii : gtL (.int i) (.int j) S = .ok (.bl (decide (j < i))) S := (rfl)
@[simp] theorem ge_ii : geL (.int i) (.int j) S = .ok (.bl (decide (j ≤ i))) S := (rfl)
@[simp] theorem lt_ss : ltL (.str y) (.str z) S = .ok (.bl (sLt y z)) S := (rfl)
@[simp] theorem le_ss : leL (.str y) (.str z) S = .ok (.bl (!sLt z y)) S := (rfl)
@[simp] theorem gt_ss : gtL (.str y) (.str z) S = .ok (.bl (sLt z y)) S := (rfl)
@[simp] theorem ge_ss : geL (.str y) (.str z) S = .ok (.bl (!sLt y z)) S := (rfl)
@[simp] theorem eq_ii : eqL (.int i) (.int j) S = .ok (.bl (decide (i = j))) S := (rfl)
theorem tl_beq (y z : Str) : decide (y = z) = (tl y == tl z) := by
  by_cases h : y = z
  · subst h
    rw [decide_eq_true rfl, beq_self_eq_true]
  · rw [decide_eq_false h]
    symm
    exact beq_false_of_ne fun e => h (TL.ext_tl e)
@[simp] theorem eq_ss : eqL (.str y) (.str z) S = .ok (.bl (tl y == tl z)) S := by rw [← tl_beq]; rfl
@[simp] theorem eq_bb : eqL (.bl p) (.bl q) S = .ok (.bl (decide (p = q))) S := (rfl)
@[simp] theorem eq_nn : eqL .non .non S = .ok (.bl true) S := (rfl)
@[simp] theorem eq_in : eqL (.int i) .non S = .ok (.bl false) S := (rfl)
@[simp] theorem eq_ni : eqL .non (.int i) S = .ok (.bl false) S := (rfl)
@[simp] theorem eq_sn : eqL (.str y) .non S = .ok (.bl false) S := (rfl)
@[simp] theorem eq_ns : eqL .non (.str y) S = .ok (.bl false) S := (rfl)
@[simp] theorem eq_is : eqL (.int i) (.str y) S = .ok (.bl false) S := (rfl)
@[simp] theorem eq_si : eqL (.str y) (.int i) S = .ok (.bl false) S := (rfl)
@[simp] theorem ne_ii : neL (.int i) (.int j) S = .ok (.bl (!decide (i = j))) S := (rfl)
@[simp] theorem ne_ss : neL (.str y) (.str z) S = .ok (.bl (!(tl y == tl z))) S := by rw [← tl_beq]; rfl
@[simp] theorem ne_bb : neL (.bl p) (.bl q) S = .ok (.bl (!decide (p = q))) S := (rfl)
@[simp] theorem ne_nn : neL .non .non S = .ok (.bl false) S := (rfl)
@[simp] theorem ne_in : neL (.int i) .non S = .ok (.bl true) S := (rfl)
@[simp] theorem ne_ni : neL .non (.int i) S = .ok (.bl true) S := (rfl)
@[simp] theorem ne_sn : neL (.str y) .non S = .ok (.bl true) S := (rfl)
@[simp] theorem is_n : isL v .non S = .ok (.bl (isN v)) S := by cases v <;> rfl
@[simp] theorem isnot_n : isnotL v .non S = .ok (.bl (!isN v)) S := by cases v <;> rfl
@[simp] theorem is_bb : isL (.bl p) (.bl q) S = .ok (.bl (decide (p = q))) S := (rfl)
@[simp] theorem isnot_bb : isnotL (.bl p) (.bl q) S = .ok (.bl (!decide (p = q))) S := (rfl)
@[simp] theorem isN_n : isN .non = true := (rfl)
@[simp] theorem isN_i : isN (.int i) = false := (rfl)
@[simp] theorem isN_s : isN (.str y) = false := (rfl)
@[simp] theorem isN_b : isN (.bl p) = false := (rfl)
@[simp] theorem isN_t : isN (.tup vs) = false := (rfl)
@[simp] theorem isN_r {n : Nat} : isN (.ref n) = false := (rfl)
@[simp] theorem isX_n : isX .non = false := (rfl)
@[simp] theorem isX_i : isX (.int i) = false := (rfl)
@[simp] theorem isX_s : isX (.str y) = false := (rfl)
@[simp] theorem isX_b : isX (.bl p) = false := (rfl)
@[simp] theorem isX_t : isX (.tup vs) = false := (rfl)
@[simp] theorem isX_r {n : Nat} : isX (.ref n) = false := (rfl)
@[simp] theorem isX_c {ns : List Int} : isX (.scr ns) = false := (rfl)
@[simp] theorem in_ss : inL (.str y) (.str z) S = .ok (.bl (inT y z)) S := (rfl)
@[simp] theorem nin_ss : notinL (.str y) (.str z) S = .ok (.bl (!inT y z)) S := (rfl)
@[simp] theorem inT_1 {c : Nat} : inT (one c) z = decide (c ∈ tl z) := by simp [inT, tl, one]
theorem str_i (h : -(10 ^ 70) ≤ i) (h2 : i ≤ 10 ^ 70) : strL [.int i] S = .ok (.str (toString i)) S := by
  have : okNum i = true := by unfold okNum bigB; rw [decide_eq_true h, decide_eq_true h2]; rfl
  simp only [strL, this, if_true]
theorem len_s (h : z.length ≤ 16777216) : lenL [.str z] S = .ok (.int z.length) S := by simp [lenL, lenO, okStr, small, h]
@[simp] theorem len_c {ns : List Int} : lenL [.scr ns] S = .ok (.int ns.length) S := (rfl)
@[simp] theorem len_t : lenL [.tup vs] S = .ok (.int vs.length) S := (rfl)
@[simp] theorem isi_i {n : String} : isiL [.int i, .ty n] S = (match isiT "int" n with | some b => .ok (.bl b) S | none => .no) := (rfl)
@[simp] theorem isi_b {n : String} : isiL [.bl p, .ty n] S = (match isiT "bool" n with | some b => .ok (.bl b) S | none => .no) := (rfl)
@[simp] theorem isi_s {n : String} : isiL [.str y, .ty n] S = (match isiT "str" n with | some b => .ok (.bl b) S | none => .no) := (rfl)
@[simp] theorem isi_n {n : String} : isiL [.non, .ty n] S = (match isiT "NoneType" n with | some b => .ok (.bl b) S | none => .no) := (rfl)
@[simp] theorem isi_t {n : String} : isiL [.tup vs, .ty n] S = (match isiT "tuple" n with | some b => .ok (.bl b) S | none => .no) := (rfl)
theorem isi_l {n k : String} {S : Sto} {m : Nat} {xs : List LV} (h : S[m]? = some (.lst xs)) : isiL [.ref m, .ty n] S = (match isiT "list" n with | some b => .ok (.bl b) S | none => .no) := by
  simp only [isiL, kindL, h]
  all_goals (cases isiT _ n <;> rfl)
theorem isi_d {n k : String} {S : Sto} {m : Nat} {xs} (h : S[m]? = some (.dct xs)) : isiL [.ref m, .ty n] S = (match isiT "dict" n with | some b => .ok (.bl b) S | none => .no) := by
  simp only [isiL, kindL, h]
  all_goals (cases isiT _ n <;> rfl)
theorem sl_s {t : Bool} {lo hi : Option Int} (h : z.length ≤ 16777216) : slG t (.str z) lo hi S = .ok (.str (cutS z lo hi)) S := by simp [slG, okStr, small, h]
theorem sl_ls {t : Bool} {lo hi : Option Int} {xs : List LV} (h : lsO v S = some xs) : slG t v lo hi S = newL t (cutL xs lo hi) S := by
  unfold slG
  split
  · cases h
  · cases h
  · cases h
  · simp only [h]
@[simp] theorem sl_tp {t : Bool} {lo hi : Option Int} : slG t (.tup vs) lo hi S = .ok (.tup (cutL vs lo hi)) S := (rfl)
@[simp] theorem len_l : lenL [.lst vs] S = .ok (.int vs.length) S := (rfl)
@[simp] theorem iter_l : iterO (.lst vs) S = .ok (itOf vs) S := (rfl)
@[simp] theorem isN_l : isN (.lst vs) = false := (rfl)
@[simp] theorem isX_l : isX (.lst vs) = false := (rfl)
@[simp] theorem isi_ls {n : String} : isiL [.lst vs, .ty n] S = (match isiT "list" n with | some b => .ok (.bl b) S | none => .no) := (rfl)
@[simp] theorem iter_s : iterO (.str z) S = .ok (itOf (LL.signs z)) S := (rfl)
@[simp] theorem iter_c {ns : List Int} : iterO (.scr ns) S = .ok (itOf (ns.map .int)) S := (rfl)
@[simp] theorem iter_t : iterO (.tup vs) S = .ok (itOf vs) S := (rfl)
@[simp] theorem iter_k : iterO (.ktp vs) S = .ok (itOf vs) S := (rfl)
theorem rng1_e (h : -(2 ^ 62) ≤ j) (h2 : j < 2 ^ 62) : rng1O [.int j] S = .ok (itOf (rng 0 j.toNat)) S := by
  have : okRg j = true := by simp only [okRg, Bool.and_eq_true, decide_eq_true_eq]; exact ⟨h, h2⟩
  simp only [rng1O, this, if_true]
theorem rng2_e (h : -(2 ^ 62) ≤ i) (h2 : i < 2 ^ 62) (h3 : -(2 ^ 62) ≤ j) (h4 : j < 2 ^ 62) : rng2O [.int i, .int j] S = .ok (itOf (rng i (j - i).toNat)) S := by
  have : (okRg i && okRg j) = true := by simp only [okRg, Bool.and_eq_true, decide_eq_true_eq]; exact ⟨⟨h, h2⟩, h3, h4⟩
  simp only [rng2O, this, if_true]
@[simp] theorem isiT_ii : isiT "int" "int" = some true := by decide
@[simp] theorem isiT_ib : isiT "int" "bool" = some false := by decide
@[simp] theorem isiT_is : isiT "int" "str" = some false := by decide
@[simp] theorem isiT_il : isiT "int" "list" = some false := by decide
@[simp] theorem isiT_it : isiT "int" "tuple" = some false := by decide
@[simp] theorem isiT_bi : isiT "bool" "int" = some true := by decide
@[simp] theorem isiT_bb : isiT "bool" "bool" = some true := by decide
@[simp] theorem isiT_bs : isiT "bool" "str" = some false := by decide
@[simp] theorem isiT_bl : isiT "bool" "list" = some false := by decide
@[simp] theorem isiT_bt : isiT "bool" "tuple" = some false := by decide
@[simp] theorem isiT_si : isiT "str" "int" = some false := by decide
@[simp] theorem isiT_sb : isiT "str" "bool" = some false := by decide
@[simp] theorem isiT_ss : isiT "str" "str" = some true := by decide
@[simp] theorem isiT_sl : isiT "str" "list" = some false := by decide
@[simp] theorem isiT_st : isiT "str" "tuple" = some false := by decide
@[simp] theorem isiT_ni : isiT "NoneType" "int" = some false := by decide
@[simp] theorem isiT_nb : isiT "NoneType" "bool" = some false := by decide
@[simp] theorem isiT_ns : isiT "NoneType" "str" = some false := by decide
@[simp] theorem isiT_nl : isiT "NoneType" "list" = some false := by decide
@[simp] theorem isiT_nt : isiT "NoneType" "tuple" = some false := by decide
@[simp] theorem isiT_ti : isiT "tuple" "int" = some false := by decide
@[simp] theorem isiT_tb : isiT "tuple" "bool" = some false := by decide
@[simp] theorem isiT_ts : isiT "tuple" "str" = some false := by decide
@[simp] theorem isiT_tl : isiT "tuple" "list" = some false := by decide
@[simp] theorem isiT_tt : isiT "tuple" "tuple" = some true := by decide
@[simp] theorem isiT_li : isiT "list" "int" = some false := by decide
@[simp] theorem isiT_lb : isiT "list" "bool" = some false := by decide
@[simp] theorem isiT_ls : isiT "list" "str" = some false := by decide
@[simp] theorem isiT_ll : isiT "list" "list" = some true := by decide
@[simp] theorem isiT_lt : isiT "list" "tuple" = some false := by decide
@[simp] theorem isiT_di : isiT "dict" "int" = some false := by decide
@[simp] theorem isiT_db : isiT "dict" "bool" = some false := by decide
@[simp] theorem isiT_ds : isiT "dict" "str" = some false := by decide
@[simp] theorem isiT_dl : isiT "dict" "list" = some false := by decide
@[simp] theorem isiT_dt : isiT "dict" "tuple" = some false := by decide
end
end LL


set_option Elab.async false
set_option linter.all false
set_option maxRecDepth 100000
set_option maxHeartbeats 2000000
/-! The logical layer: texts by their signs, subscripts, comparing lists. -/
namespace LL
open PySem PySem.Spec PyProof.Rows L2

theorem tl_ext {y z : Str} (h : tl y = tl z) : y = z := TL.ext_tl h
theorem tl_eq {y z : Str} : y = z ↔ tl y = tl z := ⟨fun h => h ▸ rfl, tl_ext⟩
theorem deq (y z : Str) : decide (y = z) = decide (tl y = tl z) := by
  by_cases h : y = z
  · rw [decide_eq_true h, decide_eq_true (tl_eq.mp h)]
  · rw [decide_eq_false h, decide_eq_false fun k => h (tl_eq.mpr k)]
@[simp] theorem tl_one (c : Nat) : tl (one c) = [c] := (rfl)
@[simp] theorem tl_emp : tl ("" : Str) = [] := (rfl)
@[simp] theorem len_one (c : Nat) : (one c).length = 1 := (rfl)
theorem filter_not_empty {α : Type} (p : α → Bool) : ∀ l : List α, (l.filter (fun c => !p c)).isEmpty = l.all p
  | [] => rfl
  | a :: l => by
    rw [List.filter_cons, List.all_cons]
    cases h : p a
    · simp
    · simp [filter_not_empty p l]
theorem tl_app (y z : Str) : tl (y ++ z) = tl y ++ tl z := TL.tl_append y z
theorem tl_len (z : Str) : z.length = (tl z).length := TL.len_tl z
theorem app_len (y z : Str) : (y ++ z).length = y.length + z.length := by rw [tl_len, tl_app, List.length_append, ← tl_len, ← tl_len]
theorem len_tl (z : Str) : (tl z).length = z.length := (tl_len z).symm
theorem tl_mk (l : List Nat) : tl ⟨l.toArray⟩ = l := (rfl)
theorem tl_cut (z : Str) (lo hi : Option Int) : tl (cutS z lo hi) = ((tl z).drop (HT.sIx z.length 0 lo)).take (HT.sIx z.length z.length hi - HT.sIx z.length 0 lo) := (rfl)
theorem cut_to (z : Str) {k : Int} (h : 0 ≤ k) : tl (cutS z none (some k)) = (tl z).take k.toNat := by
  rw [tl_cut]
  show ((tl z).drop 0).take ((if k < 0 then (k + (z.length : Int)).toNat else min k.toNat z.length) - 0) = _
  rw [if_neg (by omega), List.drop_zero, Nat.sub_zero, tl_len, ← List.take_take, List.take_length]
theorem cut_from (z : Str) {k : Int} (h : 0 ≤ k) : tl (cutS z (some k) none) = (tl z).drop k.toNat := by
  rw [tl_cut]
  show ((tl z).drop (if k < 0 then (k + (z.length : Int)).toNat else min k.toNat z.length)).take (z.length - (if k < 0 then (k + (z.length : Int)).toNat else min k.toNat z.length)) = _
  rw [if_neg (by omega), tl_len]
  by_cases c : k.toNat ≤ (tl z).length
  · rw [Nat.min_eq_left c]
    exact List.take_of_length_le (by rw [List.length_drop]; exact Nat.le_refl _)
  · rw [Nat.min_eq_right (by omega), List.drop_length, List.drop_eq_nil_of_le (by omega)]
    simp
theorem cut_last (z : Str) : tl (cutS z (some (-1)) none) = (tl z).drop ((tl z).length - 1) := by
  rw [tl_cut]
  show ((tl z).drop (if (-1 : Int) < 0 then (-1 + (z.length : Int)).toNat else min (-1 : Int).toNat z.length)).take (z.length - (if (-1 : Int) < 0 then (-1 + (z.length : Int)).toNat else min (-1 : Int).toNat z.length)) = _
  rw [if_pos (by decide), tl_len, show (-1 + ((tl z).length : Int)).toNat = (tl z).length - 1 by omega]
  exact List.take_of_length_le (by rw [List.length_drop]; exact Nat.le_refl _)
theorem cut_len (z : Str) (lo hi : Option Int) : (cutS z lo hi).length ≤ z.length := cutS_length z lo hi
/-- a cell of a script; a sign of a text -/
def cell (ns : List Int) (k : Int) : Int := ns.getD k.toNat 0
def atN (l : List Nat) (i : Int) : Nat := l.getD i.toNat 0
/-- the sign at each of some numbers -/
def codes (g : Int → Nat) (lo : Int) (n : Nat) : List Nat := (List.range n).map fun k : Nat => g (lo + (k : Int))
theorem codes_len (g : Int → Nat) (lo : Int) (n : Nat) : (codes g lo n).length = n := by simp [codes]
theorem codes_all {g : Int → Nat} {lo : Int} {n m : Nat} (h : ∀ k : Nat, k < n → g (lo + k) < m) : ∀ c ∈ codes g lo n, c < m := fun c hc => by
  obtain ⟨k, hk, rfl⟩ := List.mem_map.mp hc
  exact h k (List.mem_range.mp hk)
theorem getD_lt {l : List Nat} {i m : Nat} (h : ∀ c ∈ l, c < m) (hi : i < l.length) : l.getD i 0 < m := by
  rw [List.getD_eq_getElem?_getD, List.getElem?_eq_getElem hi]
  exact h _ (List.getElem_mem hi)
theorem atN_lt {l : List Nat} {i : Int} {m : Nat} (h : ∀ c ∈ l, c < m) (h0 : 0 ≤ i) (hi : i < l.length) : atN l i < m := getD_lt h (by omega)
section
variable {i j : Int} {y z : Str} {S : Sto} {v w : LV} {vs us : List LV}
theorem atI_nn {α : Type} {xs : List α} {j : Int} (h : 0 ≤ j) : atI xs j = xs[j.toNat]? := by
  unfold atI ixN
  rw [if_pos h]
  by_cases c : j < xs.length
  · rw [if_pos c]; rfl
  · rw [if_neg c, List.getElem?_eq_none (by omega)]; rfl
theorem atI_m1 {α : Type} {xs : List α} : atI xs (-1) = xs[xs.length - 1]? := by
  unfold atI ixN
  rw [if_neg (by omega)]
  by_cases c : -(xs.length : Int) ≤ -1
  · rw [if_pos c, show (-1 + (xs.length : Int)).toNat = xs.length - 1 by omega]; rfl
  · rw [if_neg c, List.getElem?_eq_none (by omega)]; rfl
theorem ix_c {ns : List Int} (h : 0 ≤ j) (h2 : j < ns.length) : ixL (.scr ns) (.int j) S = .ok (.int (cell ns j)) S := by
  unfold cell
  simp only [ixL, ixO, atI_nn h]
  have hl : j.toNat < ns.length := by omega
  rw [List.getElem?_eq_getElem hl, List.getD_eq_getElem?_getD, List.getElem?_eq_getElem hl]
  rfl
theorem ix_s (h : 0 ≤ j) (h2 : j < z.length) (h3 : z.length ≤ 16777216) : ixL (.str z) (.int j) S = .ok (.str (one (atN (tl z) j))) S := by
  unfold atN
  have hs : okStr z = true := by unfold okStr small; exact decide_eq_true h3
  simp only [ixL, ixO, atI_nn h, hs, if_true]
  have hl : j.toNat < (tl z).length := by rw [len_tl]; omega
  rw [show z.cps.toList = tl z from rfl, List.getElem?_eq_getElem hl, List.getD_eq_getElem?_getD, List.getElem?_eq_getElem hl]
  rfl
theorem ix_s1 (h2 : 0 < z.length) (h3 : z.length ≤ 16777216) : ixL (.str z) (.int (-1)) S = .ok (.str (one ((tl z).getD ((tl z).length - 1) 0))) S := by
  have hs : okStr z = true := by unfold okStr small; exact decide_eq_true h3
  simp only [ixL, ixO, atI_m1, hs, if_true]
  have hl : (tl z).length - 1 < (tl z).length := by rw [len_tl]; omega
  rw [show z.cps.toList = tl z from rfl, List.getElem?_eq_getElem hl, List.getD_eq_getElem?_getD, List.getElem?_eq_getElem hl]
  rfl
theorem ix_s0 {a : Nat} {l : List Nat} (h : tl z = a :: l) (h3 : z.length ≤ 16777216) : ixL (.str z) (.int 0) S = .ok (.str (one a)) S := by
  rw [ix_s (by omega) (by rw [tl_len, h]; simp) h3, h]; rfl
theorem ix_sl {c : Nat} (h : (tl z).getLast? = some c) (h3 : z.length ≤ 16777216) : ixL (.str z) (.int (-1)) S = .ok (.str (one c)) S := by
  have hl : 0 < z.length := by
    rw [tl_len]
    cases e : tl z with
    | nil => rw [e] at h; cases h
    | cons a l => simp
  rw [ix_s1 hl h3, List.getD_eq_getElem?_getD, ← List.getLast?_eq_getElem?, h]; rfl
theorem ix_l {n : Nat} {xs : List LV} {u : LV} (hn : S[n]? = some (.lst xs)) (h : 0 ≤ j) (hu : xs[j.toNat]? = some u) : ixL (.ref n) (.int j) S = .ok u S := by
  simp only [ixL, ixO, hn, atI_nn h, hu]
theorem ix_t {xs : List LV} {u : LV} (h : 0 ≤ j) (hu : xs[j.toNat]? = some u) : ixL (.tup xs) (.int j) S = .ok u S := by
  simp only [ixL, ixO, atI_nn h, hu]
/-- lists of texts compared with the empty list -/
theorem seqO_strs (S : Sto) (f : Nat) : ∀ zs : List Str, seqO ((zs.map LV.str).map (dat S f)) = some (zs.map PyData.str)
  | [] => rfl
  | z :: zs => by
    rw [List.map_cons, List.map_cons, show dat S f (.str z) = some (.str z) by cases f <;> rfl]
    unfold seqO
    rw [seqO_strs S f zs]
    rfl
theorem strs_lay : ∀ zs : List Str, (∀ z ∈ zs, PyData.strOk z = true) → PyData.canLayAll0 (zs.map PyData.str) = true ∧ PyData.depthAll (zs.map PyData.str) = 0
  | [], _ => ⟨rfl, rfl⟩
  | z :: zs, h => by
    have ih := strs_lay zs fun y hy => h y (List.mem_cons_of_mem _ hy)
    rw [List.map_cons]
    unfold PyData.canLayAll0 PyData.depthAll PyData.canLay0 PyData.depth
    rw [h z (List.mem_cons_self ..), ih.1, ih.2]
    exact ⟨rfl, rfl⟩
theorem eqv_strs_nil {n k : Nat} {zs : List Str} (hn : S[n]? = some (.lst (zs.map .str))) (hk : S[k]? = some (.lst [])) (h : ∀ z ∈ zs, PyData.strOk z = true) : eqV2 (.ref n) (.ref k) S = some zs.isEmpty := by
  have l := strs_lay zs h
  have d1 : dat S 60 (.ref n) = some (.list (zs.map .str)) := by
    show (match S[n]? with | some (.lst xs) => _ | _ => none) = _
    rw [hn]
    simp only
    rw [seqO_strs]
  have d2 : dat S 60 (.ref k) = some (.list []) := by
    show (match S[k]? with | some (.lst xs) => _ | _ => none) = _
    rw [hk]
    rfl
  unfold eqV2
  rw [show eqS (.ref n) (.ref k) = none from rfl]
  simp only
  rw [d1, d2]
  simp only
  have s1 : SeqAt.shaped (.list (zs.map .str)) = true := by
    unfold SeqAt.shaped PyData.canLay0 PyData.depth
    rw [l.1, l.2]
    rfl
  rw [s1, show SeqAt.shaped (.list []) = true from rfl]
  cases zs <;> rfl
theorem eq_strs_nil {n k : Nat} {zs : List Str} (hn : S[n]? = some (.lst (zs.map .str))) (hk : S[k]? = some (.lst [])) (h : ∀ z ∈ zs, PyData.strOk z = true) : eqL (.ref n) (.ref k) S = .ok (.bl zs.isEmpty) S := by
  unfold eqL; rw [eqv_strs_nil hn hk h]
theorem ne_strs_nil {n k : Nat} {zs : List Str} (hn : S[n]? = some (.lst (zs.map .str))) (hk : S[k]? = some (.lst [])) (h : ∀ z ∈ zs, PyData.strOk z = true) : neL (.ref n) (.ref k) S = .ok (.bl !zs.isEmpty) S := by
  unfold neL; rw [eqv_strs_nil hn hk h]
end
end LL


set_option Elab.async false
set_option linter.all false
set_option maxRecDepth 100000
set_option maxHeartbeats 2000000
/-! The logical layer: own exception classes: raise, except, isinstance of what was caught. -/
namespace LL
open PySem PySem.Spec PyProof.Rows L2

/-- what is known of an own class under ValueError -/
structure ExF (K : PySem.W.Frag) (mg : Str → Option Value) (x : Str) (C : Addr) : Prop where
  g : mg x = some (.ref C)
  k : PySem.W.keepIn K (.ref C) = true
  s : PySem.W.subIn K (.ref C) (.type "BaseException") = some true
  t : PySem.W.typeIn K (.ref C) = some (.type "type")
  c : ExcC K C
  v : PySem.W.subIn K (.ref C) (.type "ValueError") = some true
  r : PySem.W.subIn K (.ref C) (.ref C) = some true
theorem ExF.cls {K : PySem.W.Frag} {mg : Str → Option Value} {x : Str} {C : Addr} (F : ExF K mg x C) : (PySem.W.clsIn K C).isSome = true := by
  obtain ⟨cd, hc, _⟩ := PySem.W.any_some F.c.hd
  rw [hc]; rfl
theorem ExF.kit {K : PySem.W.Frag} {mg : Str → Option Value} {x : Str} {C D : Addr} {b : Bool} (F : ExF K mg x C) (h : PySem.W.subIn K (.ref D) (.ref C) = some b) : PySem.W.kitOne K (.ref D) (.ref C) = some b := by
  unfold PySem.W.kitOne PySem.W.kitCls
  have e2 : ((PySem.W.clsIn K C).isSome && PySem.W.typeIn K (.ref C) == some (.type "type")) = true := by rw [F.cls, F.t]; rfl
  split
  · rename_i e
    have : D = C := Value.ref.inj (beq_iff_eq.mp e)
    cases b with
    | true => rfl
    | false => subst this; rw [F.r] at h; cases h
  · show (if ((PySem.W.clsIn K C).isSome && PySem.W.typeIn K (.ref C) == some (.type "type")) = true then PySem.W.subIn K (.ref D) (.ref C) else none) = some b
    rw [if_pos e2]; exact h
theorem ExF.exm {K : PySem.W.Frag} {mg : Str → Option Value} {x : Str} {C D : Addr} {b : Bool} (F : ExF K mg x C) (h : PySem.W.subIn K (.ref D) (.ref C) = some b) : PySem.W.exmOne K (.ref D) (.ref C) = some b :=
  PySem.W.exm_ref F.s F.c.hd F.t h
theorem ExF.kitV {K : PySem.W.Frag} {mg : Str → Option Value} {x : Str} {C : Addr} (F : ExF K mg x C) : PySem.W.kitOne K (.ref C) (.type "ValueError") = some true := by
  unfold PySem.W.kitOne PySem.W.kitCls
  rw [if_neg (by simp)]
  show (if PySem.W.kitMeta "ValueError" = true then PySem.W.subIn K (.ref C) (.type "ValueError") else none) = some true
  rw [if_pos (by decide)]
  exact F.v
/-! ### isinstance of a caught exception that may have a dict -/
section
open PySem.W PySem.Calls
variable {prog : Program} {w : World} {A : Around} {E : Value → Shared → Prop} {s : Shared} {K : PySem.W.Frag} {x D : Addr} {ox : Obj} {od : Option Obj}
/-- what finds the class of the exception at x: a data descriptor, whatever its own dict holds -/
theorem own_class {Q : Option Value → Shared → Prop} (C : ExcC K D) (hX : K.In s.heap) (hI : InstAt s.heap x ox D od) (fin : Q (some (.ref D)) { s with toks := s.toks + 1 }) : wpAny (model prog w) A (getAttr? (.ref x) "__class__") Q E s := by
  have fnd : findObj K D od "__class__" = some (.bind (.builtin "getset_descriptor.__get__") (.builtin "object.__class__")) := by
    obtain ⟨cd, hc, _⟩ := any_some C.hd
    unfold findObj
    rw [hc, Option.bind_some, C.ha, Option.bind_some]
    simp [C.hn, C.ht]
  obtain ⟨hh, gs, dr, tk, os⟩ := s
  have typ := hI.type (M := model prog w)
  have lk1 := looks_findIn (M := model prog w) hX C.hg
  have lk2 := looks_findIn (M := model prog w) hX C.hk
  have lk3 := looks_find (M := model prog w) hX hI fnd
  have under : Looks (model prog w) hh (isInstance (.ref x) (.type "BaseException")) true := typ.andThen (looks_subIn hX C.hs)
  have other : (Value.builtin "BaseException.__getattribute__" == Value.builtin "object.__getattribute__") = false := by decide +kernel
  have f0 : (false && onTheHeap (Value.builtin "BaseException.__getattribute__")) = false := rfl
  have f1 : (onTheHeap (Value.ref D) && Value.builtin "BaseException.__getattribute__" == Value.builtin "object.__getattribute__") = false := by rw [other]; rfl
  unfold getAttr? getAttrBy? getAttrBy
  refine wpAny_bind (wpAny_mkText (wpAny_bind (wpAny_attempt (wpAny_holding (wpAny_bind (typ.at (wpAny_bind (lk1.at ?_))))))))
  show wpAny _ _ (if (onTheHeap (Value.ref D) && Value.builtin "BaseException.__getattribute__" == Value.builtin "object.__getattribute__") = true then _ else _) _ _ _
  rw [if_neg (by rw [f1]; exact Bool.false_ne_true)]
  unfold getAttrByItsOwn hookBefore
  refine wpAny_bind ?_
  rw [if_pos (show onTheHeap (Value.ref D) = true by rfl)]
  refine lk2.at (wpAny_bind (wpAny_attempt (wpAny_holding ?_)))
  unfold callGetattribute
  rw [if_neg (by rw [f0]; exact Bool.false_ne_true)]
  unfold boundAndCalled
  rw [PySem.F.excAttr_ValueError.ga.bind (.ref x)]
  refine wpAny_bind (wpAny_pure ?_)
  show wpAny _ _ (call (.builtin "BaseException.__getattribute__") [.ref x, .str "__class__" tk]) _ _ _
  refine wpAny_call (codeAny_call_builtin PySem.F.excAttr_ValueError.ga.plain PySem.F.entry_bexc_ga (@check_slot (model prog w) _ _ ⟨hh, gs, dr, tk + 1, os⟩ "BaseException.__getattribute__" "BaseException" "__getattribute__" (.ref x) [.str "__class__" tk] [] _ (by decide +kernel) (by decide +kernel) under (PySem.F.args_bexc_ga (.ref x) (.str "__class__" tk)) ?_))
  unfold Builtin.«object.__getattribute__»
  refine wpAny_bind (wpAny_of_eq (a := ((Value.ref x : Value), [Value.str "__class__" tk])) (by first | rfl | (simp only [slotArgs]; rfl)) ?_)
  refine wpAny_bind (wpAny_pure (wpAny_bind (typ.at (wpAny_bind (lk3.at ?_)))))
  show wpAny _ _ (holding [Value.builtin "object.__class__"] (call (.builtin "getset_descriptor.__get__") [.builtin "object.__class__", .ref x, .ref D]) >>= ret) _ _ _
  refine wpAny_bind (wpAny_holding (wpAny_call (class_get (s := ⟨hh, gs, dr, tk + 1, os⟩) (ox := ox) (od := od) hX hI C.hm ?_)))
  refine wpAny_pure ?_
  show wpAny _ _ (handedOut (.ref D)) _ _ _
  rw [handedOut_of (v := .ref D) rfl]
  first
    | exact wpAny_pure (wpAny_pure fin)
    | exact wpAny_pure fin
    | exact wpAny_pure (wpAny_bind (wpAny_pure (wpAny_pure fin)))
theorem kitx_own (C : ExcC K D) : KitX K (.ref x) (.ref D) (fun h => ∃ ox od, InstAt h x ox D od) where
  ty := fun _ _ _ hI => by obtain ⟨_, _, hI⟩ := hI; exact hI.type
  it := fun _ _ hX _ => by
    obtain ⟨cd, hc, _⟩ := any_some C.hd
    unfold clsIn at hc
    split at hc
    · rename_i ho
      exact fun A2 Q2 E2 s2 kept q => by
        unfold isType loadHead
        exact wpAny_bind (wpAny_loadPart (kept _ _ (hX _ _ ho)) (wpAny_pure q))
    · cases hc
  ne := fun h tp dd its n sl hX there => Bool.eq_false_iff.mpr fun q => by
    obtain ⟨cd, hc, _⟩ := any_some C.hd
    have same : D = tp := Value.ref.inj (beq_iff_eq.mp q)
    subst same
    unfold clsIn at hc
    split at hc
    · rename_i ho
      cases (hX _ _ ho).symm.trans there
    · cases hc
  ca := fun hX hI k => by obtain ⟨_, _, hI⟩ := hI; exact own_class C hX hI k
end
/-- where the exception at a of the class D stands -/
theorem inst_own {X : Cx} {a D : Addr} {oe : Obj} {pn pins : List (Addr × Obj)} {σ : L2.St} {H : Hp} {s : Shared} {d : Option Addr} (I : Inv (X.suite a ((a, oe) :: pn)) pins σ H s) (hz : Zc (.ref D) d oe) (hf : ∃ vs, oe.data = .fields vs) (dx : d = none ∨ ∃ dd fx, d = some dd ∧ H dd = some (.xd fx)) :
    ∃ ox od, PySem.W.InstAt s.heap a ox D od := by
  obtain ⟨there, _⟩ := I.pin (a, oe) (List.mem_append_left _ List.mem_cons_self)
  obtain ⟨vs, hv⟩ := hf
  have no : PySem.W.notCls oe = true := by unfold PySem.W.notCls; rw [hv] <;> rfl
  rcases dx with rfl | ⟨dd, fx, rfl, hd⟩
  · exact ⟨oe, none, there, hz.1, no, by rw [hz.2]; trivial⟩
  · obtain ⟨mA, ns, _⟩ := (show ObjOk X.prog X.w H s.heap dd (.xd fx) from I.hok dd _ hd)
    obtain ⟨o, ho, _⟩ := lookIn_ns ns
    exact ⟨oe, some o, there, hz.1, no, by rw [hz.2]; exact ho⟩
def rIsD (K : PySem.W.Frag) (D a : Addr) (d : Option Addr) : List V → Hp → VK → Prop := fun xs H Q => ∃ (c : V) (cv : Value) (b : Bool), xs = [.ref a, c] ∧ (∀ u, RelV c u → u = cv) ∧ PySem.W.kitOne K (.ref D) cv = some b ∧ (d = none ∨ ∃ dd fx, d = some dd ∧ H dd = some (.xd fx)) ∧ Q (.bl b) H
theorem call_isD {X : Cx} {a D : Addr} {oe : Obj} {pn : List (Addr × Obj)} {d : Option Addr} (C : ExcC X.K D) (hz : Zc (.ref D) d oe) (hf : ∃ vs, oe.data = .fields vs) : CallR (X.suite a ((a, oe) :: pn)) (.builtin "isinstance") (rIsD X.K D a d) := fun pins s σ H xs us Q I r h => by
  obtain ⟨c, cv, b, rfl, is, e, dx, q⟩ := h
  obtain ⟨u1, u2, rfl, r1, r2⟩ := vals2 r
  cases (show u1 = Value.ref a from r1)
  cases is _ r2
  exact PySem.W.kia_one (kitx_own C) I.kIn (inst_own I hz hf dx) e (fun z => nomatch z) fun tk => ⟨.bl b, H, I.kept (t' := tk) fun _ _ z => z, rfl, q⟩
/-- raise C('m'), c the code of C -/
def lRaise (c : Nat) : LS := fun ds S => .ex c [] ds S
/-- an exception that the suite holds -/
def ξE (T : Env1) (a : Addr) (cls : Value) (d : Option Addr) : Xi := fun b c d' => b = a ∧ cls = .ref (T.ca c) ∧ d' = d
def noX (ds : Sl) : Bool := ds.all fun x => match x with
  | some v => !isX v
  | none => true
def aft (ds : Sl) (S : Sto) (k : Sl → Sto → RS) : RS := if noX ds = true then k ds S else .no
def aftI (i : Nat) : RS → RS
  | .nx ds S => aft (ds.set i none) S .nx
  | .bk ds S => aft (ds.set i none) S .bk
  | .ct ds S => aft (ds.set i none) S .ct
  | .rt v S => .rt v S
  | .ex _ _ _ _ => .no
  | .no => .no
def aft0 : RS → RS
  | .nx ds S => aft ds S .nx
  | .bk ds S => aft ds S .bk
  | .ct ds S => aft ds S .ct
  | .rt v S => .rt v S
  | .ex _ _ _ _ => .no
  | .no => .no
/-- try: a except C as n: b -/
def tryK (i : Nat) (hit : Nat → Option Bool) (b : LS) : RS → RS
  | .ex c fs ds S => match hit c with
    | some true => aftI i (b (ds.set i (some (.exc c fs))) S)
    | some false => .ex c fs ds S
    | none => .no
  | r => r
def lTryAs (i : Nat) (hit : Nat → Option Bool) (a b : LS) : LS := fun ds S => tryK i hit b (a ds S)
def try0 (hit : Nat → Option Bool) (b : LS) : RS → RS
  | .ex c fs ds S => match hit c with
    | some true => aft0 (b ds S)
    | some false => .ex c fs ds S
    | none => .no
  | r => r
def lTry (hit : Nat → Option Bool) (a b : LS) : LS := fun ds S => try0 hit b (a ds S)
/-- what a table of codes tells -/
def hitA : List (Nat × Bool) → Nat → Option Bool
  | [], _ => none
  | (c, b) :: l, d => if c = d then some b else hitA l d
def AllP (P : Nat → Bool → Prop) : List (Nat × Bool) → Prop
  | [] => True
  | (c, b) :: l => P c b ∧ AllP P l
theorem hit_all {P : Nat → Bool → Prop} : ∀ {l : List (Nat × Bool)}, AllP P l → ∀ c b, hitA l c = some b → P c b
  | [], _, c, b, h => by cases h
  | (d, e) :: l, a, c, b, h => by
    unfold hitA at h
    split at h
    · rename_i q
      subst q
      cases h
      exact a.1
    · exact hit_all a.2 c b h
/-- isinstance(e, C) -/
def lIsE (i : Nat) (f : Nat → Option Bool) : LE := fun ds S => match ds[i]? with
  | some (some (.exc c _)) => match f c with
    | some b => .ok (.bl b) S
    | none => .no
  | _ => .no
section
variable {X : Cx} {T : Env1} {W : WX} {x n : Str} {i : Nat} {c : Value} {C : Addr} {fb fsu : LS} {hit : Nat → Option Bool} {body suite : List Stmt} {b₀ : Stmt} {np pos pos' pos2 : Pos}
theorem sl_raise {m : Str} {j k : Nat} {p p2 : Pos} (hc : X.calm = true) (tk : L2N.Takes X W) (F : ExF X.K X.mg x C) (hq : PySem.W.excIn X.K C [.type "ValueError", .type "Exception", .type "BaseException", .type "object"] "ValueError.__new__" = true) (hC : T.ca k = C) (hg : Gl X x) (hdb : (x == ("__debug__" : Str)) = false := by decide) :
    PS X (.Raise (some (.Call (.Name x p) [.Constant (.str m) j p2] [] pos)) none pos2) (tLS X.K T ξ0 W (lRaise k)) :=
  ps_imp (L2N.ps_raise hc tk (L2N.pmk_own PySem.F.excBase_ValueError hq F.g F.k (raises_own F.s F.t) hg hdb)) fun D σ H ⟨m, S, ds, r, rs, h⟩ => by
    have := h m H σ (.ref C) none Ext.refl r rs ⟨by rw [hC], .inl ⟨rfl, rfl⟩⟩
    exact this
theorem RSl.of0 {K : PySem.W.Frag} {ξ : Xi} {m : List Addr} {H : Hp} {ds : Sl} {σ : L2.St} (h : RSl K ξ0 m H ds σ) : RSl K ξ m H ds σ := ⟨h.len, fun i v e => by
  obtain ⟨x, h1, h2⟩ := h.at_ i v e
  refine ⟨x, h1, ?_⟩
  cases v with
  | exc c fs =>
    obtain ⟨a, _, _, h3, _⟩ := h2
    exact h3.elim
  | _ => exact h2⟩
theorem RSl.un0 {K : PySem.W.Frag} {ξ : Xi} {m : List Addr} {H : Hp} {ds : Sl} {σ : L2.St} (h : RSl K ξ m H ds σ) (n : noX ds = true) : RSl K ξ0 m H ds σ := ⟨h.len, fun i v e => by
  obtain ⟨x, h1, h2⟩ := h.at_ i v e
  refine ⟨x, h1, ?_⟩
  have := List.all_eq_true.mp n _ (List.mem_of_getElem? e)
  exact RVx.of (h2.un (by simpa using this))⟩
theorem RSl.clr {K : PySem.W.Frag} {ξ : Xi} {m : List Addr} {H : Hp} {ds : Sl} {σ : L2.St} (h : RSl K ξ m H ds σ) (i : Nat) : RSl K ξ m H (ds.set i none) (σ.set i none) := ⟨by simp [h.len], fun j w e => by
  by_cases hj : j = i
  · subst hj
    by_cases hl : j < ds.length
    · rw [List.getElem?_set_self hl] at e; cases e
    · rw [List.getElem?_eq_none (by simpa using hl)] at e; cases e
  · rw [List.getElem?_set_ne (Ne.symm hj)] at e ⊢
    exact h.at_ j w e⟩
theorem aft_in {ds : Sl} {S : Sto} {k : Sl → Sto → RS} {K : PySem.W.Frag} {m : List Addr} {H : Hp} {D : Ends} {W : WX} (h : PoS K T ξ0 m H (aft ds S k) D W) : noX ds = true ∧ PoS K T ξ0 m H (k ds S) D W := by
  unfold aft at h
  split at h
  · rename_i e
    exact ⟨e, h⟩
  · exact h.elim
theorem sl_try_as (hN : X.N.Nodup) (hc : Names X x (.ref C)) (tk : L2N.Takes X W)
    (hh : ∀ c b, hit c = some b → PySem.W.exmOne X.K (.ref (T.ca c)) (.ref C) = some b)
    (hb : ∀ (W : WX) (pn : List (Addr × Obj)) (xe : Value → Shared → Prop), L2N.Takes (X.tr pn xe) W → PassesOwn (model X.prog X.w) X.A X.env xe → PSs (X.tr pn xe) body (tLS X.K T ξ0 W fb))
    (hsu : ∀ (a : Addr) (oe : Obj) (cls : Value) (d : Option Addr) (pn : List (Addr × Obj)), L2N.Zn cls d oe → (∃ vs, oe.data = .fields vs) → PSs (X.suite a ((a, oe) :: pn)) (b₀ :: suite) (tLS X.K T (ξE T a cls d) (fun _ _ _ _ => False) fsu))
    (hi : X.N[i]? = some n := by rfl) (hln : X.env.kindOf n = some .local := by rfl) (hs : X.stack = X.env :: X.outer := by rfl) (hf : X.env.frame = some X.env.locals := by rfl) :
    PS X (.Try body [.ExceptHandler (some (.Name x np)) (some n) (b₀ :: suite) pos'] [] [] pos) (tLS X.K T ξ0 W (lTryAs i hit fb fsu)) :=
  ps_imp (L2N.ps_try_as (tb := fun W => tLS X.K T ξ0 W fb) (ts := fun a cls d => tLS X.K T (ξE T a cls d) (fun _ _ _ _ => False) fsu) (Wout := W) hs hf hN hi hln hc tk hb hsu) fun D σ H ⟨m, S, ds, r, rs, h⟩ => by
    refine ⟨m, S, ds, r, rs, ?_⟩
    unfold lTryAs at h
    cases q : fb ds S with
    | nx ds1 S1 => rw [q] at h; exact h
    | rt ds1 S1 => rw [q] at h; exact h
    | bk ds1 S1 => rw [q] at h; exact h
    | ct ds1 S1 => rw [q] at h; exact h
    | no => rw [q] at h; exact h.elim
    | ex c fs ds1 S1 =>
      rw [q] at h
      · unfold tryK at h
        simp only at h
        split at h
        · rename_i e
          intro m1 H1 σ1 cls d E r1 rs1 rx
          obtain ⟨ec, ed⟩ := rx
          subst ec
          refine ⟨true, hh _ _ e, fun _ a _ => ?_, fun z => nomatch z⟩
          refine ⟨m1, S1, _, r1, (RSl.of0 rs1).set i (v := .exc c fs) ⟨a, d, rfl, ⟨rfl, rfl, rfl⟩, ed⟩, ?_⟩
          replace h := PoS.mono E h
          cases q2 : fsu (ds1.set i (some (.exc c fs))) S1 with
          | nx ds2 S2 =>
            rw [q2] at h
            obtain ⟨e2, h⟩ := aft_in h
            exact fun m2 H2 σ2 E2 r2 rs2 => h m2 H2 _ E2 r2 ((rs2.clr i).un0 e2)
          | bk ds2 S2 =>
            rw [q2] at h
            obtain ⟨e2, h⟩ := aft_in h
            exact fun m2 H2 σ2 E2 r2 rs2 => h m2 H2 _ E2 r2 ((rs2.clr i).un0 e2)
          | ct ds2 S2 =>
            rw [q2] at h
            obtain ⟨e2, h⟩ := aft_in h
            exact fun m2 H2 σ2 E2 r2 rs2 => h m2 H2 _ E2 r2 ((rs2.clr i).un0 e2)
          | rt v S2 => rw [q2] at h; exact h
          | ex => rw [q2] at h; exact h.elim
          | no => rw [q2] at h; exact h.elim
        · rename_i e
          intro m1 H1 σ1 cls d E r1 rs1 rx
          obtain ⟨ec, ed⟩ := rx
          subst ec
          exact ⟨false, hh _ _ e, fun z => absurd z (by decide), fun _ => h m1 H1 σ1 _ d E r1 rs1 ⟨rfl, ed⟩⟩
        · exact h.elim
theorem sl_try (hc : Names X x (.ref C)) (tk : L2N.Takes X W)
    (hh : ∀ c b, hit c = some b → PySem.W.exmOne X.K (.ref (T.ca c)) (.ref C) = some b)
    (hb : ∀ (W : WX) (pn : List (Addr × Obj)) (xe : Value → Shared → Prop), L2N.Takes (X.tr pn xe) W → PassesOwn (model X.prog X.w) X.A X.env xe → PSs (X.tr pn xe) body (tLS X.K T ξ0 W fb))
    (hsu : ∀ (a : Addr) (oe : Obj) (cls : Value) (d : Option Addr) (pn : List (Addr × Obj)), L2N.Zn cls d oe → (∃ vs, oe.data = .fields vs) → PSs (X.suite a ((a, oe) :: pn)) (b₀ :: suite) (tLS X.K T ξ0 (fun _ _ _ _ => False) fsu))
    (hs : X.stack = X.env :: X.outer := by rfl) (hf : X.env.frame = some X.env.locals := by rfl) :
    PS X (.Try body [.ExceptHandler (some (.Name x np)) none (b₀ :: suite) pos'] [] [] pos) (tLS X.K T ξ0 W (lTry hit fb fsu)) :=
  ps_imp (L2N.ps_try_many (tb := fun W => tLS X.K T ξ0 W fb) (Wout := W) hs hf tk hb (.cons (ts := fun a cls d => tLS X.K T ξ0 (fun _ _ _ _ => False) fsu) hc hsu .nil)) fun D σ H ⟨m, S, ds, r, rs, h⟩ => by
    refine ⟨m, S, ds, r, rs, ?_⟩
    unfold lTry at h
    cases q : fb ds S with
    | nx ds1 S1 => rw [q] at h; exact h
    | rt ds1 S1 => rw [q] at h; exact h
    | bk ds1 S1 => rw [q] at h; exact h
    | ct ds1 S1 => rw [q] at h; exact h
    | no => rw [q] at h; exact h.elim
    | ex c fs ds1 S1 =>
      rw [q] at h
      · unfold try0 at h
        simp only at h
        split at h
        · rename_i e
          intro m1 H1 σ1 cls d E r1 rs1 rx
          obtain ⟨ec, ed⟩ := rx
          subst ec
          refine ⟨true, hh _ _ e, fun _ a _ => ?_, fun z => nomatch z⟩
          refine ⟨m1, S1, _, r1, rs1, ?_⟩
          replace h := PoS.mono E h
          cases q2 : fsu ds1 S1 with
          | nx ds2 S2 =>
            rw [q2] at h
            obtain ⟨e2, h⟩ := aft_in h
            exact h
          | bk ds2 S2 =>
            rw [q2] at h
            obtain ⟨e2, h⟩ := aft_in h
            exact h
          | ct ds2 S2 =>
            rw [q2] at h
            obtain ⟨e2, h⟩ := aft_in h
            exact h
          | rt v S2 => rw [q2] at h; exact h
          | ex => rw [q2] at h; exact h.elim
          | no => rw [q2] at h; exact h.elim
        · rename_i e
          intro m1 H1 σ1 cls d E r1 rs1 rx
          obtain ⟨ec, ed⟩ := rx
          subst ec
          exact ⟨false, hh _ _ e, fun z => absurd z (by decide), fun _ => h m1 H1 σ1 _ d E r1 rs1 ⟨rfl, ed⟩⟩
        · exact h.elim
/-- the context is this one -/
def XIs (X : Cx) : Prop := True
theorem xis {X : Cx} {W : WX} (tk : L2N.Takes X W) : XIs X := trivial
theorem pl_isE {a : Addr} {oe : Obj} {cls : Value} {d : Option Addr} {pn : List (Addr × Obj)} {f : Nat → Option Bool} {y : Str} {cv : Value} {eC : Expr} {cx : V} {p pe : Pos} (hX : XIs X) (hz : L2N.Zn cls d oe) (hv : ∃ vs, oe.data = .fields vs)
    (hC : PE (X.suite a ((a, oe) :: pn)) eC (tC cx)) (hu : ∀ u, RelV cx u → u = cv)
    (hf : ∀ c b, f c = some b → ExcC X.K (T.ca c) ∧ PySem.W.kitOne X.K (.ref (T.ca c)) cv = some b)
    (hg : Gl X "isinstance") (hm : X.mg "isinstance" = none) (hN : X.N[i]? = some y := by rfl) (hvv : Vis X.env.scope y := by first | exact Or.inl rfl | exact Or.inr (Or.inl rfl) | exact Or.inr (Or.inr rfl)) (hd : (y == ("__debug__" : Str)) = false := by decide)
    (hcd : (y == ("__classdict__" : Str)) = false := by decide)
    (he : starEach (.Name y pe :: [eC]) X.env = (false, eval (.Name y pe) X.env) :: starEach [eC] X.env := by rfl) (hpl : (backTo pos (starEach [eC] X.env)).any (·.1) = false := by rfl) (hst : starEach (eC :: []) X.env = (false, eval eC X.env) :: starEach [] X.env := by rfl) :
    PE (X.suite a ((a, oe) :: pn)) (.Call (.Name "isinstance" p) [.Name y pe, eC] [] pos) (tL X.K T (ξE T a cls d) W (lIsE i f)) := by
  refine ⟨fun pins s σ H Q I h => ?_⟩
  obtain ⟨m, S, ds, r, rs, h⟩ := h
  unfold lIsE at h
  split at h
  · rename_i c fs hi
    split at h
    · rename_i b hb
      obtain ⟨xx, h1, h2⟩ := rs.at_ i _ hi
      obtain ⟨a', d', rfl, ⟨ea, ec, ed⟩, xd⟩ := h2
      subst ea ec ed
      obtain ⟨C0, k0⟩ := hf c b hb
      have dx : d' = none ∨ ∃ dd fx, d' = some dd ∧ H dd = some (.xd fx) := by
        rcases xd with ⟨_, e⟩ | ⟨_, _, dd, _, e, _, e2, _⟩
        · exact .inl e
        · exact .inr ⟨dd, _, e, e2⟩
      refine (pe_callB (X := X.suite a' ((a', oe) :: pn)) (call_isD (X := X) (a := a') (D := T.ca c) (oe := oe) (pn := pn) C0 hz.zc hv) hg hm (by decide +kernel) (pa_cons (pe_var (i := i) hN hvv hd hcd) (pa_cons hC pa_nil hst) he) (by decide) (by decide) he hpl).run pins s σ H Q I ?_
      exact ⟨_, h1, cx, cv, b, rfl, hu, k0, dx, h.here r rfl⟩
    · exact h.elim
  · exact h.elim
/-- an own class by its name; a built-in one -/
theorem pe_exc (F : ExF X.K X.mg x C) (hg : Gl X x) (hd : (x == ("__debug__" : Str)) = false := by decide) : PE X (.Name x pos) (tC (.ref C)) := pe_glob hg F.g rfl hd
theorem pe_exV (hg : Gl X "ValueError") (hm : X.mg "ValueError" = none) : PE X (.Name "ValueError" pos) (tC (.ty "ValueError")) := pe_bltn (v := .ty "ValueError") hg hm (by decide +kernel) rfl (by decide) (by decide)
end
/-! ### reckoning -/
section
variable {i c : Nat} {hit : Nat → Option Bool} {a b : LS} {ds : Sl} {S : Sto} {v : LV} {fs : List LV}
theorem e_raise : lRaise c ds S = .ex c [] ds S := (rfl)
theorem e_tryAs : lTryAs i hit a b ds S = tryK i hit b (a ds S) := (rfl)
theorem e_try : lTry hit a b ds S = try0 hit b (a ds S) := (rfl)
@[simp] theorem tryK_nx : tryK i hit b (.nx ds S) = .nx ds S := (rfl)
@[simp] theorem tryK_rt : tryK i hit b (.rt v S) = .rt v S := (rfl)
@[simp] theorem tryK_bk : tryK i hit b (.bk ds S) = .bk ds S := (rfl)
@[simp] theorem tryK_ct : tryK i hit b (.ct ds S) = .ct ds S := (rfl)
theorem tryK_t (h : hit c = some true) : tryK i hit b (.ex c fs ds S) = aftI i (b (ds.set i (some (.exc c fs))) S) := by unfold tryK; simp only [h]
theorem tryK_f (h : hit c = some false) : tryK i hit b (.ex c fs ds S) = .ex c fs ds S := by unfold tryK; simp only [h]
@[simp] theorem try0_nx : try0 hit b (.nx ds S) = .nx ds S := (rfl)
@[simp] theorem try0_rt : try0 hit b (.rt v S) = .rt v S := (rfl)
@[simp] theorem try0_bk : try0 hit b (.bk ds S) = .bk ds S := (rfl)
@[simp] theorem try0_ct : try0 hit b (.ct ds S) = .ct ds S := (rfl)
theorem try0_t (h : hit c = some true) : try0 hit b (.ex c fs ds S) = aft0 (b ds S) := by unfold try0; simp only [h]
theorem try0_f (h : hit c = some false) : try0 hit b (.ex c fs ds S) = .ex c fs ds S := by unfold try0; simp only [h]
@[simp] theorem aftI_rt : aftI i (.rt v S) = .rt v S := (rfl)
@[simp] theorem aft0_rt : aft0 (.rt v S) = .rt v S := (rfl)
@[simp] theorem aftI_nx : aftI i (.nx ds S) = aft (ds.set i none) S .nx := (rfl)
@[simp] theorem aft0_nx : aft0 (.nx ds S) = aft ds S .nx := (rfl)
@[simp] theorem aftI_ct : aftI i (.ct ds S) = aft (ds.set i none) S .ct := (rfl)
@[simp] theorem aft0_ct : aft0 (.ct ds S) = aft ds S .ct := (rfl)
theorem aft_ok {k : Sl → Sto → RS} (h : noX ds = true) : aft ds S k = k ds S := by unfold aft; rw [if_pos h]
@[simp] theorem noX_nil : noX [] = true := (rfl)
@[simp] theorem noX_none : noX (none :: ds) = noX ds := by simp [noX]
@[simp] theorem noX_some : noX (some v :: ds) = (!isX v && noX ds) := by simp [noX]
@[simp] theorem isE_S {f : Nat → Option Bool} {x : Option LV} : lIsE (i + 1) f (x :: ds) S = lIsE i f ds S := by simp [lIsE]
theorem isE_0 {f : Nat → Option Bool} {k : Bool} (h : f c = some k) : lIsE 0 f (some (.exc c fs) :: ds) S = .ok (.bl k) S := by simp [lIsE, h]
end
end LL


set_option Elab.async false
set_option linter.all false
set_option maxRecDepth 100000
set_option maxHeartbeats 2000000
/-! The logical layer: o[i] = v. -/
namespace LL
open PySem PySem.Spec PyProof.Rows L2

/-- a dict of values with a key written -/
def putL {κ : Type} [DecidableEq κ] (kvs : List (κ × LV)) (k : κ) (v : LV) : List (κ × LV) :=
  if (kvs.any fun kv => decide (kv.1 = k)) = true then kvs.map (fun kv => if kv.1 = k then (kv.1, v) else kv) else kvs ++ [(k, v)]
def putO (o i v : LV) (S : Sto) : Option Sto := match o with
  | .ref n => match S[n]? with
    | some (.lst xs) => match i with
      | .int k => match ixN xs.length k with
        | some j => some (S.set n (.lst (xs.set j v)))
        | none => none
      | _ => none
    | some (.dct kvs) => match keyL i with
      | some k => if small (kvs.length + 1) = true then some (S.set n (.dct (putL kvs k v))) else none
      | none => none
    | some (.dcT kvs) => match i with
      | .tup xs => match keysL xs with
        | some k => if small (kvs.length + 1) = true then some (S.set n (.dcT (putL kvs k v))) else none
        | none => none
      | _ => none
    | _ => none
  | _ => none
def lSub (fv fo fi : LE) : LS := fun ds S => bindS (fv ds S) ds fun v S1 => bindS (fo ds S1) ds fun o S2 => bindS (fi ds S2) ds fun i S3 => match putO o i v S3 with
  | some S4 => .nx ds S4
  | none => .no
section
variable {K : PySem.W.Frag} {T : Env1} {m : List Addr} {H : Hp} {S : Sto}
theorem RVs.setAt {v : LV} {x : V} (rv : RV K m H v x) : ∀ {vs : List LV} {xs : List V} (j : Nat), RVs K m H vs xs → RVs K m H (vs.set j v) (xs.set j x)
  | [], xs, j, h => by rw [h.nilE]; exact RVs.nil
  | u :: vs, xs, j, h => by
    unfold RVs at h
    obtain ⟨y, r, rfl, h1, h2⟩ := h
    cases j with
    | zero => exact RVs.cons rv h2
    | succ j => exact RVs.cons h1 (RVs.setAt rv j h2)
theorem put_rel {κ : Type} [DecidableEq κ] {v : LV} {x : V} (k : κ) (rv : RV K m H v x) : ∀ {kvs : List (κ × LV)} {ws : List (κ × V)}, ws.map (·.1) = kvs.map (·.1) → RVs K m H (kvs.map (·.2)) (ws.map (·.2)) →
    (putK ws k x).map (·.1) = (putL kvs k v).map (·.1) ∧ RVs K m H ((putL kvs k v).map (·.2)) ((putK ws k x).map (·.2)) := by
  intro kvs ws e h
  have ea : (ws.any fun kv => decide (kv.1 = k)) = (kvs.any fun kv => decide (kv.1 = k)) := by
    have := congrArg (fun l : List κ => l.any fun z => decide (z = k)) e
    simpa [List.any_map, Function.comp_def] using this
  unfold putK putL
  rw [ea]
  split
  · rename_i ca
    clear ca ea
    induction kvs generalizing ws with
    | nil =>
      have : ws = [] := by simpa using e
      subst this
      exact ⟨rfl, RVs.nil⟩
    | cons p kvs ih =>
      cases ws with
      | nil => simp at e
      | cons q ws =>
        simp only [List.map_cons, List.cons.injEq] at e h ⊢
        unfold RVs at h
        obtain ⟨y, r, e2, h1, h2⟩ := h
        simp only [List.cons.injEq] at e2
        obtain ⟨rfl, rfl⟩ := e2
        have i := ih e.2 h2
        by_cases c : p.1 = k
        · have c2 : q.1 = k := e.1.trans c
          rw [if_pos c, if_pos c2]
          exact ⟨⟨e.1, i.1⟩, RVs.cons rv i.2⟩
        · have c2 : ¬ q.1 = k := fun z => c (e.1.symm.trans z)
          rw [if_neg c, if_neg c2]
          exact ⟨⟨e.1, i.1⟩, RVs.cons h1 i.2⟩
  · rw [List.map_append, List.map_append, List.map_append, List.map_append, e]
    exact ⟨rfl, h.append (RVs.cons rv RVs.nil)⟩
end
/-- .. by values, lists and dicts -/
def rSetU : TSet := fun o i v H Q => rSetL o i v H Q ∨ rSetD o i v H Q
theorem set_U {X : Cx} (hu : X.A.units + 1 < cLine) : PSet X rSetU := fun pins s σ H o i v ov iv u Q I ro ri rv h => h.elim (set_list pins s σ H o i v ov iv u Q I ro ri rv) (set_dict hu pins s σ H o i v ov iv u Q I ro ri rv)
section
variable {X : Cx} {T : Env1} {ξ : Xi} {W : WX} {k : Nat} {fv fo fi : LE} {e o i : Expr} {pos pos' : Pos}
theorem put_ok {m : List Addr} {S S4 : Sto} {H : Hp} {vo vi v : LV} {xo xi x : V} {Q : Hp → Prop} (r : RelS X.K T m S H) (ro : RV X.K m H vo xo) (ri : RV X.K m H vi xi) (rv : RV X.K m H v x) (e : putO vo vi v S = some S4)
    (h : ∀ H', Ext m H m H' → RelS X.K T m S4 H' → Q H') : rSetU xo xi x H Q := by
  unfold putO at e
  split at e
  · rename_i n
    split at e
    · rename_i xs hn
      split at e
      · rename_i k
        split at e
        · rename_i j hj
          cases e
          obtain ⟨a, zs, rfl, hm, ha, hs⟩ := ro.lst r hn
          refine .inl ⟨a, zs, k, j, rfl, ri, ha, by rw [← hs.len]; exact hj, ?_⟩
          have E : Ext m H m (upd H a (.lst (zs.set j x))) := Ext.write r (List.mem_of_getElem? hm) ha
          exact h _ E (r.write hm ha ⟨_, upd_same, (RVs.setAt rv j hs).mono E⟩)
        · cases e
      · cases e
    · rename_i kvs hn
      split at e
      · rename_i k hk
        split at e
        · rename_i hz
          cases e
          unfold RV at ro
          obtain ⟨a, rfl, hm⟩ := ro
          obtain ⟨ws, h1, h2, h3⟩ := r.ob n a _ hm hn
          have hl : ws.length = kvs.length := by have := congrArg List.length h2; simpa using this
          refine .inr ⟨a, upd H a (.dK (putK ws k x)), rfl, ?_, ?_⟩
          · rw [keyL_ok hk ri]
            have := small_ok hz
            exact DPut.k h1 (by omega)
          · have E : Ext m H m (upd H a (.dK (putK ws k x))) := Ext.write r (List.mem_of_getElem? hm) h1
            have p := put_rel k rv h2 h3
            exact h _ E (r.write hm h1 ⟨_, upd_same, p.1, p.2.mono E⟩)
        · cases e
      · cases e
    · rename_i kvs hn
      split at e
      · rename_i xs
        split at e
        · rename_i k hk
          split at e
          · rename_i hz
            cases e
            unfold RV at ro
            obtain ⟨a, rfl, hm⟩ := ro
            obtain ⟨ws, h1, h2, h3⟩ := r.ob n a _ hm hn
            have hl : ws.length = kvs.length := by have := congrArg List.length h2; simpa using this
            obtain ⟨b, us, rfl, hb, hu⟩ := ri.tupE
            have eu := keysL_ok hk hu
            subst eu
            refine .inr ⟨a, upd H a (.dT (putK ws k x)), rfl, ?_, ?_⟩
            · have := small_ok hz
              exact DPut.t h1 hb (by omega)
            · have E : Ext m H m (upd H a (.dT (putK ws k x))) := Ext.write r (List.mem_of_getElem? hm) h1
              have p := put_rel k rv h2 h3
              exact h _ E (r.write hm h1 ⟨_, upd_same, p.1, p.2.mono E⟩)
          · cases e
        · cases e
      · cases e
    · cases e
  · cases e
theorem sl_sub (hr : Room k X.A) (he : PE X e (tL X.K T ξ W fv)) (ho : PE X o (tL X.K T ξ W fo)) (hi : PE X i (tL X.K T ξ W fi))
    (ha : ∀ v, assign (.Subscript o i pos') X.env v = (do
      let ov ← holding [v] (eval o X.env)
      let iv ← holding [v, ov] (eval i X.env)
      standAt pos'
      holding [v, ov, iv] (setItem ov iv v)
      release [v, ov, iv] []) := by intro _; rfl)
    (hs : swapsWithSole [.Subscript o i pos'] e pos.line X.env = pure false := by rfl) (hw : swappedStores [.Subscript o i pos'] e X.env = pure none := by rfl)
    (h1 : (assignEach [.Subscript o i pos'] X.env).map (·.2) = [assign (.Subscript o i pos') X.env] := by rfl) : PS X (.Assign [.Subscript o i pos'] e pos) (tLS X.K T ξ W (lSub fv fo fi)) :=
  ps_imp (ps_asg he (pg_sub ho hi (set_U (hu_of hr)) ha) hs hw h1) fun D σ H ⟨m, S, ds, r, rs, h⟩ =>
    tL.bindS r rs h fun v S1 m1 H1 x E r1 rs1 rv h1 => tL.bindS r1 rs1 h1 fun vo S2 m2 H2 xo E2 r2 rs2 ro h2 => tL.bindS r2 rs2 h2 fun vi S3 m3 H3 xi E3 r3 rs3 ri h3 => by
      split at h3
      · rename_i S4 e4
        exact put_ok r3 (ro.mono E3) ri ((rv.mono E2).mono E3) e4 fun H' E' r' => h3 _ _ _ E' r' (rs3.mono E')
      · exact h3.elim
end
/-! ### reckoning -/
def sub3 (v o : LV) (ds : Sl) : R → RS
  | .ok i S => match putO o i v S with
    | some S4 => .nx ds S4
    | none => .no
  | .ex c fs S => .ex c fs ds S
  | .no => .no
def sub2 (v : LV) (fi : LE) (ds : Sl) : R → RS
  | .ok o S => sub3 v o ds (fi ds S)
  | .ex c fs S => .ex c fs ds S
  | .no => .no
def sub1 (fo fi : LE) (ds : Sl) : R → RS
  | .ok v S => sub2 v fi ds (fo ds S)
  | .ex c fs S => .ex c fs ds S
  | .no => .no
section
variable {v o i : LV} {fv fo fi : LE} {ds : Sl} {S S4 : Sto} {n : Nat} {xs : List LV} {k : Int}
theorem e_sub : lSub fv fo fi ds S = sub1 fo fi ds (fv ds S) := by
  unfold lSub
  cases fv ds S with
  | ok v S1 =>
    show bindS (fo ds S1) ds _ = sub2 v fi ds (fo ds S1)
    cases fo ds S1 with
    | ok o S2 =>
      show bindS (fi ds S2) ds _ = sub3 v o ds (fi ds S2)
      cases fi ds S2 <;> rfl
    | _ => rfl
  | _ => rfl
@[simp] theorem sub1_ok : sub1 fo fi ds (.ok v S) = sub2 v fi ds (fo ds S) := (rfl)
@[simp] theorem sub2_ok : sub2 v fi ds (.ok o S) = sub3 v o ds (fi ds S) := (rfl)
theorem sub3_ok (h : putO o i v S = some S4) : sub3 v o ds (.ok i S) = .nx ds S4 := by unfold sub3; simp only [h]
theorem put_l (hn : S[n]? = some (.lst xs)) (h : 0 ≤ k) (h2 : k < xs.length) : putO (.ref n) (.int k) v S = some (S.set n (.lst (xs.set k.toNat v))) := by
  simp only [putO, hn, ixN, h, h2, if_true]
end
end LL


set_option Elab.async false
set_option linter.all false
set_option maxRecDepth 100000
set_option maxHeartbeats 2000000
/-! The logical layer: texts that may be handled, joins, numbers in texts, loops as folds. -/
namespace LL
open PySem PySem.Spec PyProof.Rows L2

/-- a text that may be handled -/
structure Fine (n : Nat) (z : Str) : Prop where
  len : z.length ≤ n
  sg : ∀ c ∈ tl z, c < 128
theorem Fine.mono {n m : Nat} {z : Str} (h : Fine n z) (k : n ≤ m) : Fine m z := ⟨Nat.le_trans h.len k, h.sg⟩
theorem Fine.app {n m : Nat} {y z : Str} (h : Fine n y) (k : Fine m z) : Fine (n + m) (y ++ z) := ⟨by rw [app_len]; have := h.len; have := k.len; omega, fun c hc => by
  rw [tl_app, List.mem_append] at hc
  rcases hc with hc | hc
  · exact h.sg c hc
  · exact k.sg c hc⟩
theorem Fine.cut {n : Nat} {z : Str} (h : Fine n z) (lo hi : Option Int) : Fine n (cutS z lo hi) := ⟨Nat.le_trans (cut_len z lo hi) h.len, fun c hc => by
  rw [tl_cut] at hc
  exact h.sg c (List.mem_of_mem_drop (List.mem_of_mem_take hc))⟩
theorem Fine.one {c : Nat} (h : c < 128) : Fine 1 (one c) := ⟨Nat.le_refl _, fun d hd => by
  have : d = c := by simpa using hd
  omega⟩
theorem Fine.ok {n : Nat} {z : Str} (h : Fine n z) : PyData.strOk z = true := by
  unfold PyData.strOk
  rw [← Array.all_toList, List.all_eq_true]
  intro c hc
  have := h.sg c hc
  simp
  omega
/-- a comprehension of those signs of a text that a test lets by -/
theorem lc_signs {t : Bool} (i : Nat) (ft : LE) (ds : Sl) (z : Str) (S : Sto) (p : Nat → Bool) (hz : z.length ≤ 16777216) (hi : i < ds.length) (h : ∀ c ∈ tl z, ∀ S, ft (ds.set i (some (.str (one c)))) S = .ok (.bl (p c)) S) :
    lcR t (gNm i) ft (lVar i) ds (.ok (itOf (LL.signs z)) S) = newL t (((tl z).filter p).map fun c => .str (one c)) S := by
  rw [signs_tl]
  refine lcR_map p (fun c => .str (one c)) .of (by rw [len_tl]; exact hz) (fun c hc acc => ⟨_, rfl, h c hc _, fun _ => ?_⟩) fun _ _ _ => rfl
  show (match (ds.set i (some (.str (one c))))[i]? with | some (some v) => if isX v = true then R.no else .ok v _ | _ => .no) = _
  rw [List.getElem?_set_self hi]
  rfl
theorem take1 (a : List Nat) (c : Nat) : (a.take 1 == [c]) = (a.head? == some c) := by
  cases a <;> simp
theorem dropl (a : List Nat) (c : Nat) : (a.drop (a.length - 1) == [c]) = (a.getLast? == some c) := by
  rcases List.eq_nil_or_concat a with rfl | ⟨b, d, rfl⟩
  · simp
  · simp
theorem tl_sp : tl (" " : Str) = [32] := rfl
abbrev digT : Str := ("0123456789" : Str)
/-- a number without its sign -/
def absN (a : List Nat) : List Nat := if (a.take 1 == [45]) = true then a.drop 1 else a
/-- the number that a text writes -/
def numN (a : List Nat) : Option Int :=
  if (30 : Int) < a.length then none
  else if (absN a == []) = true then none
  else if (absN a).all (fun c => decide (c ∈ tl digT)) = false then none
  else if ((absN a).head? == some 48 && !(a == [48])) = true then none
  else some (if (a.take 1 == [45]) = true then -((NumText.digitsVal (absN a) : Nat) : Int) else ((NumText.digitsVal (absN a) : Nat) : Int))
def optV : Option Int → LV
  | some i => .int i
  | none => .non
theorem digT_iff (c : Nat) : c ∈ tl digT ↔ 48 ≤ c ∧ c ≤ 57 := by
  rw [show tl digT = [48, 49, 50, 51, 52, 53, 54, 55, 56, 57] from rfl]
  simp
  omega
theorem all_dig {a : List Nat} (h : a.all (fun c => decide (c ∈ tl digT)) = true) : NumText.AllDigits a := fun c hc => by
  have := List.all_eq_true.mp h c hc
  exact (digT_iff c).mp (of_decide_eq_true this)
theorem absN_len (a : List Nat) : (absN a).length ≤ a.length := by
  unfold absN
  split
  · rw [List.length_drop]; omega
  · exact Nat.le_refl _
theorem intText_num {z : Str} (h1 : z.length ≤ 640) (h2 : absN (tl z) ≠ []) (h3 : NumText.AllDigits (absN (tl z))) : intText? z = some (if ((tl z).take 1 == [45]) = true then -((NumText.digitsVal (absN (tl z)) : Nat) : Int) else ((NumText.digitsVal (absN (tl z)) : Nat) : Int)) := by
  unfold absN at h2 h3 ⊢
  cases c : ((tl z).take 1 == [45]) with
  | true =>
    simp only [c, if_true] at h2 h3 ⊢
    cases e : tl z with
    | nil => rw [e] at c; cases c
    | cons a l =>
      rw [e] at c h2 h3
      simp at c h2 h3 ⊢
      subst c
      exact intText_neg e h3 h2 (by omega)
  | false =>
    rw [c] at h2 h3
    exact intText_digits h3 h2 (by omega)
theorem tl_mi : tl ("-" : Str) = [45] := rfl
theorem tl_0 : tl ("0" : Str) = [48] := rfl
theorem head_ix {z : Str} (h : tl z ≠ []) : ∃ a l, tl z = a :: l := by
  cases e : tl z with
  | nil => exact absurd e h
  | cons a l => exact ⟨a, l, rfl⟩
/-- the number's text without its sign -/
def absS (z : Str) : Str := if (tl (cutS z none (some 1)) == [45]) = true then cutS z (some 1) none else z
theorem tl_absS (z : Str) : tl (absS z) = absN (tl z) := by
  unfold absS absN
  rw [cut_to z (by omega), show (1 : Int).toNat = 1 from rfl]
  cases c : ((tl z).take 1 == [45]) with
  | true =>
    simp only [if_true]
    exact cut_from z (by omega)
  | false => rfl
theorem dig_ix (c : Nat) (h : 48 ≤ c ∧ c ≤ 57) (S : Sto) : sindexL (.str digT) [.str (one c)] S = .ok (.int ((c : Int) - 48)) S := by
  have : c = 48 ∨ c = 49 ∨ c = 50 ∨ c = 51 ∨ c = 52 ∨ c = 53 ∨ c = 54 ∨ c = 55 ∨ c = 56 ∨ c = 57 := by omega
  rcases this with rfl | rfl | rfl | rfl | rfl | rfl | rfl | rfl | rfl | rfl <;> with_unfolding_all rfl
theorem head_take (a : List Nat) (c d : Nat) (l : List Nat) (h : a = c :: l) : (a.take 1 == [d]) = (c == d) := by
  subst h; simp
theorem joinL_one : ∀ cs : List Nat, TL.joinL [] (cs.map fun c => [c]) = cs
  | [] => rfl
  | [c] => rfl
  | c :: d :: l => by
    have ih := joinL_one (d :: l)
    show [c] ++ ([] ++ TL.joinL [] ((d :: l).map fun c => [c])) = _
    rw [ih]; rfl
theorem join_one (cs : List Nat) : tl (Txt.join ("" : Str) (cs.map one)) = cs := by
  have e : Txt.join (SX.S []) ((cs.map fun c => [c]).map SX.S) = SX.S (TL.joinL [] (cs.map fun c => [c])) := SX.join_S _ _
  rw [joinL_one, List.map_map] at e
  have e2 : Txt.join ("" : Str) (cs.map one) = SX.S cs := e
  rw [e2]
  rfl
theorem strsL_map : ∀ ys : List Str, strsL (ys.map LV.str) = some ys
  | [] => rfl
  | y :: ys => by
    have ih := strsL_map ys
    unfold strsL at ih ⊢
    rw [List.map_cons, List.map_cons]
    unfold seqO
    rw [ih]
theorem sum_one (cs : List Nat) : (((cs.map one).map (·.length)).sum + (cs.map one).length * ("" : Str).length) = cs.length := by
  have : ("" : Str).length = 0 := rfl
  rw [this, Nat.mul_zero, Nat.add_zero]
  induction cs with
  | nil => rfl
  | cons c cs ih => simp at ih ⊢; omega
/-- one-sign texts joined -/
theorem join_ones {v : LV} {S : Sto} {cs : List Nat} (h : lsO v S = some (cs.map fun c => .str (one c))) (hl : cs.length ≤ 16777216) : joinL2 (.str ("" : Str)) [v] S = .ok (.str (Txt.join ("" : Str) (cs.map one))) S := by
  rw [show (cs.map fun c => LV.str (one c)) = (cs.map one).map LV.str by rw [List.map_map]; rfl] at h
  have hi : itemsO v S = some ((cs.map one).map LV.str) := by
    unfold itemsO
    split
    · cases h
    · cases h
    · cases h
    · exact h
  simp only [joinL2, hi, strsL_map, sum_one, hl, decide_true, if_true]
theorem fine_join {n : Nat} {cs : List Nat} (h : cs.length ≤ n) (k : ∀ c ∈ cs, c < 128) : Fine n (Txt.join ("" : Str) (cs.map one)) := ⟨by rw [tl_len, join_one]; exact h, by rw [join_one]; exact k⟩
theorem mem_rng {v : LV} {lo : Int} {n : Nat} (h : v ∈ rng lo n) : ∃ k : Nat, k < n ∧ v = .int (lo + k) := by
  unfold rng at h
  obtain ⟨k, hk, rfl⟩ := List.mem_map.mp h
  exact ⟨k, List.mem_range.mp hk, rfl⟩
/-- one-sign texts, one for each number -/
theorem lc_ones {t : Bool} (i : Nat) (fe : LE) (ds : Sl) (lo : Int) (n : Nat) (S : Sto) (g : Int → Nat) (hn : n ≤ 16777216) (h : ∀ k : Nat, k < n → ∀ S, fe (ds.set i (some (.int (lo + k)))) S = .ok (.str (one (g (lo + k)))) S) :
    lcR t (gNm i) lYes fe ds (.ok (itOf (rng lo n)) S) = newL t ((codes g lo n).map fun c => .str (one c)) S := by
  unfold rng
  rw [lcR_all (fun k : Nat => .str (one (g (lo + (k : Int))))) .of (by simpa using hn) (fun k hk acc => ⟨_, rfl, h k (List.mem_range.mp hk) _⟩) fun _ _ => rfl]
  unfold codes
  rw [List.map_map]
  rfl
abbrev abcT : Str := ("abcdefghijklmnopqrstuvwxyz" : Str)
theorem abc_len : abcT.length = 26 := by decide
theorem abc_sg : ∀ c ∈ tl abcT, c < 128 := by decide
theorem tl_int (i : Int) : tl (toString i : Str) = if i < 0 then 45 :: TL.numL i.natAbs else TL.numL i.natAbs := by
  cases i with
  | ofNat n =>
    rw [if_neg (by simp)]
    exact TL.tl_num n
  | negSucc n =>
    rw [if_pos (Int.negSucc_lt_zero n)]
    show TL.tl (Str.ofString ("-" ++ Nat.repr (n + 1))) = _
    rw [TL.tl_ofString, String.toList_append, List.map_append]
    have := TL.tl_num (n + 1)
    rw [TL.tl_ofString] at this
    exact congrArg (List.cons 45) this
theorem fine_int {i : Int} {k : Nat} (hk : 0 < k) (h : i.natAbs < 10 ^ k) : Fine (k + 1) (toString i : Str) := by
  have hl := TL.numL_len hk h
  have hd := TL.numL_digits i.natAbs
  refine ⟨?_, fun c hc => ?_⟩
  · rw [tl_len, tl_int]
    split
    · rw [List.length_cons]; omega
    · omega
  · rw [tl_int] at hc
    split at hc
    · rcases List.mem_cons.mp hc with rfl | hc
      · decide
      · have := hd c hc; omega
    · have := hd c hc; omega

/-! ### loops as folds -/
section
variable {α β : Type} {S : Sto} {lg : LG} {fb : LS} {fc : LE}
/-- for, each turn a step -/
theorem forL_fold (D : α → Option LV → Sl) (g : β → LV) (f : α → β → α) (P : α → Prop) (hg : ∀ a x b, lg (g b) S (D a x) = some (D a (some (g b)))) :
    ∀ (xs : List β) (a : α) (x : Option LV), (∀ a b, b ∈ xs → P a → fb (D a (some (g b))) S = .nx (D (f a b) (some (g b))) S ∧ P (f a b)) → P a → ∃ x', forL lg fb (xs.map g) (D a x) S = .nx (D (xs.foldl f a) x') S ∧ P (xs.foldl f a)
  | [], a, x, _, p => ⟨x, rfl, p⟩
  | b :: xs, a, x, h, p => by
    obtain ⟨h1, p1⟩ := h a b (List.mem_cons_self ..) p
    obtain ⟨x', h2, p2⟩ := forL_fold D g f P hg xs (f a b) (some (g b)) (fun a b hb => h a b (List.mem_cons_of_mem _ hb)) p1
    refine ⟨x', ?_, p2⟩
    rw [List.map_cons, List.foldl_cons, ← h2]
    conv => lhs; unfold forL
    rw [hg]
    simp only
    rw [h1]
/-- for, which a hit ends -/
theorem forL_exit (D : Option LV → Sl) (g : β → LV) (p : β → Bool) (v : LV) (hg : ∀ x b, lg (g b) S (D x) = some (D (some (g b)))) :
    ∀ (xs : List β) (x : Option LV), (∀ b ∈ xs, fb (D (some (g b))) S = if p b = true then .rt v S else .nx (D (some (g b))) S) → ∃ x', forL lg fb (xs.map g) (D x) S = if xs.any p = true then .rt v S else .nx (D x') S
  | [], x, _ => ⟨x, rfl⟩
  | b :: xs, x, h => by
    have h1 := h b (List.mem_cons_self ..)
    obtain ⟨x', h2⟩ := forL_exit D g p v hg xs (some (g b)) (fun b hb => h b (List.mem_cons_of_mem _ hb))
    refine ⟨x', ?_⟩
    rw [List.map_cons, List.any_cons]
    conv => lhs; unfold forL
    rw [hg]
    simp only
    rw [h1]
    cases p b with
    | true => simp
    | false => simpa using h2
/-- while, each turn a step that comes nearer -/
theorem wh_run (D : α → Sl) (c : α → Bool) (f : α → α) (P : α → Prop) (μ : α → Nat) (hc : ∀ a, P a → fc (D a) S = .ok (.bl (c a)) S)
    (hb : ∀ a, P a → c a = true → fb (D a) S = .nx (D (f a)) S ∧ P (f a) ∧ μ (f a) < μ a) : ∀ (n : Nat) (a : α), P a → μ a < n → ∃ b, P b ∧ c b = false ∧ lWh n fc fb (D a) S = .nx (D b) S
  | 0, a, _, h => absurd h (Nat.not_lt_zero _)
  | n + 1, a, p, h => by
    have h1 := hc a p
    cases e : c a with
    | false =>
      refine ⟨a, p, e, ?_⟩
      unfold lWh whK
      rw [h1, e]
      rfl
    | true =>
      obtain ⟨h2, p2, m2⟩ := hb a p e
      obtain ⟨b, pb, eb, hb2⟩ := wh_run D c f P μ hc hb n (f a) p2 (by omega)
      refine ⟨b, pb, eb, ?_⟩
      rw [← hb2]
      unfold lWh
      conv => lhs; unfold whK
      rw [h1, e]
      show (match fb (D a) S with | .nx ds2 S2 => whK fc fb n ds2 S2 | .ct ds2 S2 => whK fc fb n ds2 S2 | .bk ds2 S2 => .nx ds2 S2 | r => r) = _
      rw [h2]
end
theorem e_wh {n : Nat} {fc : LE} {fb : LS} {ds : Sl} {S : Sto} : lWh n fc fb ds S = whK fc fb n ds S := (rfl)
end LL


set_option Elab.async false
set_option linter.all false
set_option maxRecDepth 100000
set_option maxHeartbeats 2000000
/-! The logical layer: the calendar in plain numbers; tuples of numbers compared. -/
namespace LL
open PySem PySem.Spec PyProof.Rows L2

def leap (y : Int) : Bool := decide (y % 4 = 0) && (!decide (y % 100 = 0) || decide (y % 400 = 0))
def ahead (y : Int) : Int := 365 * (y - 2000) + ((y - 2000 + 3) / 4 - (y - 2000 + 99) / 100 + (y - 2000 + 399) / 400)
def longT : List Int := [31, 28, 31, 30, 31, 30, 31, 31, 30, 31, 30, 31]
def mlen (y m : Int) : Int := if m = 2 ∧ leap y = true then 29 else longT.getD (m - 1).toNat 0
def cumT : List Int := [0, 31, 59, 90, 120, 151, 181, 212, 243, 273, 304, 334, 365]
def befo (y m : Int) : Int := cumT.getD (m - 1).toNat 0 + (if 2 < m ∧ leap y = true then 1 else 0)
theorem m12 {m : Int} (h : 1 ≤ m) (h2 : m ≤ 12) : m = 1 ∨ m = 2 ∨ m = 3 ∨ m = 4 ∨ m = 5 ∨ m = 6 ∨ m = 7 ∨ m = 8 ∨ m = 9 ∨ m = 10 ∨ m = 11 ∨ m = 12 := by omega
theorem befo_step {y m : Int} (h : 1 ≤ m) (h2 : m ≤ 12) : befo y (m + 1) = befo y m + mlen y m := by
  cases hl : leap y <;> rcases m12 h h2 with rfl | rfl | rfl | rfl | rfl | rfl | rfl | rfl | rfl | rfl | rfl | rfl <;> simp [befo, mlen, cumT, longT, hl]
theorem befo_1 (y : Int) : befo y 1 = 0 := by simp [befo, cumT]
theorem befo_13 (y : Int) : befo y 13 = 365 + (if leap y = true then 1 else 0) := by simp [befo, cumT]
theorem mlen_b {y m : Int} (h : 1 ≤ m) (h2 : m ≤ 12) : 28 ≤ mlen y m ∧ mlen y m ≤ 31 := by
  cases hl : leap y <;> rcases m12 h h2 with rfl | rfl | rfl | rfl | rfl | rfl | rfl | rfl | rfl | rfl | rfl | rfl <;> simp [mlen, longT, hl]
theorem befo_b {y m : Int} (h : 1 ≤ m) (h2 : m ≤ 12) : 0 ≤ befo y m ∧ befo y m ≤ 335 := by
  cases hl : leap y <;> rcases m12 h h2 with rfl | rfl | rfl | rfl | rfl | rfl | rfl | rfl | rfl | rfl | rfl | rfl <;> simp [befo, cumT, hl]
theorem befo_le {y m : Int} (h : 1 ≤ m) (h2 : m ≤ 12) : befo y m + mlen y m ≤ befo y 13 := by
  cases hl : leap y <;> rcases m12 h h2 with rfl | rfl | rfl | rfl | rfl | rfl | rfl | rfl | rfl | rfl | rfl | rfl <;> simp [befo, mlen, cumT, longT, hl]
theorem befo_mono {y m n : Int} (h : 1 ≤ m) (h2 : m < n) (h3 : n ≤ 12) : befo y m + mlen y m ≤ befo y n := by
  cases hl : leap y <;> rcases m12 (m := m) (by omega) (by omega) with rfl | rfl | rfl | rfl | rfl | rfl | rfl | rfl | rfl | rfl | rfl | rfl <;>
  rcases m12 (m := n) (by omega) (by omega) with rfl | rfl | rfl | rfl | rfl | rfl | rfl | rfl | rfl | rfl | rfl | rfl <;> first | omega | simp [befo, mlen, cumT, longT, hl]
theorem ahead_step {y : Int} (h : 2000 ≤ y) : ahead (y + 1) = ahead y + befo y 13 := by
  rw [befo_13]
  unfold ahead leap
  by_cases h4 : y % 4 = 0 <;> by_cases h1 : y % 100 = 0 <;> by_cases h0 : y % 400 = 0 <;> simp [h4, h1, h0] <;> omega
theorem ahead_2000 : ahead 2000 = 0 := by decide
theorem ahead_2400 : ahead 2400 = 146097 := by decide
theorem ahead_mono {y z : Int} (h : 2000 ≤ y) (h2 : y ≤ z) : ahead y ≤ ahead z := by unfold ahead; omega
theorem ahead_lt {y z : Int} (h : 2000 ≤ y) (h2 : y < z) : ahead (y + 1) ≤ ahead z := ahead_mono (by omega) (by omega)
theorem ahead_guess {d : Int} (h : 0 ≤ d) : ahead (2000 + d / 366) ≤ d := by unfold ahead; omega
/-- a day's parts -/
structure Day (y m p : Int) : Prop where
  y0 : 2000 ≤ y
  y1 : y ≤ 2399
  m0 : 1 ≤ m
  m1 : m ≤ 12
  p0 : 1 ≤ p
  p1 : p ≤ mlen y m
def dayN (y m p : Int) : Int := ahead y + befo y m + p - 1
theorem Day.in_year {y m p : Int} (h : Day y m p) : ahead y ≤ dayN y m p ∧ dayN y m p < ahead (y + 1) := by
  have h1 := befo_le (y := y) h.m0 h.m1
  have h2 := befo_b (y := y) h.m0 h.m1
  have h3 := ahead_step h.y0
  have := h.p0
  have := h.p1
  unfold dayN
  omega
theorem Day.range {y m p : Int} (h : Day y m p) : 0 ≤ dayN y m p ∧ dayN y m p ≤ 146096 := by
  have h1 := h.in_year
  have h2 := ahead_mono (y := 2000) (z := y) (by omega) h.y0
  have h3 := ahead_mono (y := y + 1) (z := 2400) (by have := h.y0; omega) (by have := h.y1; omega)
  rw [ahead_2000] at h2
  rw [ahead_2400] at h3
  omega
theorem Day.uniq {y m p y' m' p' : Int} (h : Day y m p) (h' : Day y' m' p') (e : dayN y m p = dayN y' m' p') : y = y' ∧ m = m' ∧ p = p' := by
  have a := h.in_year
  have b := h'.in_year
  have ey : y = y' := by
    rcases Int.lt_trichotomy y y' with c | c | c
    · have := ahead_lt h.y0 c; omega
    · exact c
    · have := ahead_lt h'.y0 c; omega
  subst ey
  have em : m = m' := by
    have := h.p0; have := h.p1; have := h'.p0; have := h'.p1
    unfold dayN at e
    rcases Int.lt_trichotomy m m' with c | c | c
    · have := befo_mono (y := y) h.m0 c h'.m1; omega
    · exact c
    · have := befo_mono (y := y) h'.m0 c h.m1; omega
  subst em
  unfold dayN at e
  exact ⟨rfl, rfl, by omega⟩
/-- the day behind -/
theorem Day.next {y m p : Int} (h : Day y m p) (hd : dayN y m p < 146096) :
    (p < mlen y m ∧ Day y m (p + 1) ∧ dayN y m (p + 1) = dayN y m p + 1) ∨ (p = mlen y m ∧ m < 12 ∧ Day y (m + 1) 1 ∧ dayN y (m + 1) 1 = dayN y m p + 1) ∨ (p = mlen y m ∧ m = 12 ∧ Day (y + 1) 1 1 ∧ dayN (y + 1) 1 1 = dayN y m p + 1) := by
  obtain ⟨y0, y1, m0, m1, p0, p1⟩ := h
  by_cases c : p < mlen y m
  · exact .inl ⟨c, ⟨y0, y1, m0, m1, by omega, by omega⟩, by unfold dayN; omega⟩
  · have ep : p = mlen y m := by omega
    by_cases cm : m < 12
    · refine .inr (.inl ⟨ep, cm, ⟨y0, y1, by omega, by omega, by omega, ?_⟩, ?_⟩)
      · have := mlen_b (y := y) (m := m + 1) (by omega) (by omega); omega
      · have := befo_step (y := y) m0 m1
        unfold dayN; omega
    · have em : m = 12 := by omega
      subst em
      have hs := ahead_step y0
      have hb := befo_step (y := y) (m := 12) (by omega) (by omega)
      have hb' : befo y 13 = befo y 12 + mlen y 12 := hb
      have h1 := befo_1 (y + 1)
      have hy : y + 1 ≤ 2399 := by
        rcases Int.lt_or_le 2398 y with c | c
        · have : y = 2399 := by omega
          subst this
          have := ahead_2400
          unfold dayN at hd
          rw [show (2399 : Int) + 1 = 2400 by omega, this] at hs
          omega
        · omega
      refine .inr (.inr ⟨ep, rfl, ⟨by omega, hy, by omega, by omega, by omega, ?_⟩, ?_⟩)
      · have := mlen_b (y := y + 1) (m := 1) (by omega) (by omega); omega
      · unfold dayN; omega
/-- a month by its number -/
def monY (k : Int) : Int := 2000 + k / 12
def monM (k : Int) : Int := 1 + k % 12
def monF (k : Int) : Int := ahead (monY k) + befo (monY k) (monM k)
def monL (k : Int) : Int := monF k + mlen (monY k) (monM k) - 1
theorem monM_b (k : Int) : 1 ≤ monM k ∧ monM k ≤ 12 := by unfold monM; omega
theorem mon_day {k p : Int} (h : 0 ≤ k) (h2 : k ≤ 4799) (h3 : 1 ≤ p) (h4 : p ≤ mlen (monY k) (monM k)) : Day (monY k) (monM k) p := ⟨by unfold monY; omega, by unfold monY; omega, (monM_b k).1, (monM_b k).2, h3, h4⟩
theorem mon_of (y m : Int) (h : 1 ≤ m) (h2 : m ≤ 12) : monY (12 * (y - 2000) + m - 1) = y ∧ monM (12 * (y - 2000) + m - 1) = m := by unfold monY monM; omega
theorem mon_next {k : Int} (h : 0 ≤ k) : monF (k + 1) = monL k + 1 := by
  unfold monL monF
  by_cases c : k % 12 = 11
  · have e1 : monY (k + 1) = monY k + 1 := by unfold monY; omega
    have e2 : monM (k + 1) = 1 := by unfold monM; omega
    have e3 : monM k = 12 := by unfold monM; omega
    rw [e1, e2, e3, befo_1, ahead_step (by unfold monY; omega)]
    have hb : befo (monY k) 13 = befo (monY k) 12 + mlen (monY k) 12 := befo_step (y := monY k) (m := 12) (by omega) (by omega)
    omega
  · have e1 : monY (k + 1) = monY k := by unfold monY; omega
    have e2 : monM (k + 1) = monM k + 1 := by unfold monM; omega
    rw [e1, e2, befo_step (monM_b k).1 (monM_b k).2]
    omega
theorem monF_0 : monF 0 = 0 := by decide
theorem monL_4799 : monL 4799 = 146096 := by decide
theorem day_of_mon (k p : Int) : dayN (monY k) (monM k) p = monF k + p - 1 := rfl
/-! ### values by their kind -/
structure Okv (S : Sto) (v : LV) : Prop where
  nx : isX v = false
  kd : ∃ k, kindL v S = some k
def wI : LV → Option Int
  | .int i => some i
  | _ => none
def wS : LV → Option Str
  | .str z => some z
  | _ => none
theorem wI_some {v : LV} {i : Int} (h : wI v = some i) : v = .int i := by
  cases v with
  | int k => injection h with h; rw [h]
  | _ => cases h
theorem wS_some {v : LV} {i : Str} (h : wS v = some i) : v = .str i := by
  cases v with
  | str k => injection h with h; rw [h]
  | _ => cases h
theorem kind_ref {n : Nat} {S : Sto} {k : String} (h : kindL (.ref n) S = some k) : k = "list" ∨ k = "dict" := by
  unfold kindL at h
  cases e : S[n]? with
  | none => simp [e] at h
  | some o => cases o <;> simp [e] at h <;> first | exact .inl h.symm | exact .inr h.symm
theorem kind_int {v : LV} {S : Sto} (h : kindL v S = some "int") : ∃ i, wI v = some i := by
  cases v with
  | int k => exact ⟨k, rfl⟩
  | ref n => rcases kind_ref h with e | e <;> exact absurd e (by decide)
  | non => exact absurd h (by simp [kindL])
  | bl b => exact absurd h (by simp [kindL])
  | str b => exact absurd h (by simp [kindL])
  | tup b => exact absurd h (by simp [kindL])
  | _ => exact absurd h (by simp [kindL])
theorem kind_str {v : LV} {S : Sto} (h : kindL v S = some "str") : ∃ z, v = .str z := by
  cases v with
  | str k => exact ⟨k, rfl⟩
  | ref n => rcases kind_ref h with e | e <;> exact absurd e (by decide)
  | non => exact absurd h (by simp [kindL])
  | bl b => exact absurd h (by simp [kindL])
  | int b => exact absurd h (by simp [kindL])
  | tup b => exact absurd h (by simp [kindL])
  | _ => exact absurd h (by simp [kindL])
theorem isi_str {v : LV} {S : Sto} (o : Okv S v) (w : wS v = none) : isiL [v, .ty "str"] S = .ok (.bl false) S := by
  obtain ⟨nx, k, hk⟩ := o
  have : k ≠ "str" := fun e => by
    subst e
    obtain ⟨z, rfl⟩ := kind_str hk
    cases w
  simp [isiL, hk, isiT, this]
theorem Okv.int {S : Sto} (i : Int) : Okv S (.int i) := ⟨rfl, _, rfl⟩
theorem Okv.str {S : Sto} (i : Str) : Okv S (.str i) := ⟨rfl, _, rfl⟩
theorem Okv.bl {S : Sto} (i : Bool) : Okv S (.bl i) := ⟨rfl, _, rfl⟩
theorem Okv.non {S : Sto} : Okv S .non := ⟨rfl, _, rfl⟩
theorem Okv.tup {S : Sto} (xs : List LV) : Okv S (.tup xs) := ⟨rfl, _, rfl⟩
theorem Okv.lst {S : Sto} {n : Nat} {xs : List LV} (h : S[n]? = some (.lst xs)) : Okv S (.ref n) := ⟨rfl, "list", by simp [kindL, h]⟩
theorem Okv.dct {S : Sto} {n : Nat} {xs} (h : S[n]? = some (.dct xs)) : Okv S (.ref n) := ⟨rfl, "dict", by simp [kindL, h]⟩
/-- the day that parts write -/
def dayOpt : Option Int → Option Int → Option Int → Option (Int × Int × Int)
  | some y, some m, some p => if 2000 ≤ y ∧ y ≤ 2399 ∧ 1 ≤ m ∧ m ≤ 12 ∧ 1 ≤ p ∧ p ≤ mlen y m then some (y, m, p) else none
  | _, _, _ => none
theorem dayOpt_day {a b c : Option Int} {y m p : Int} (h : dayOpt a b c = some (y, m, p)) : Day y m p := by
  unfold dayOpt at h
  split at h
  · split at h
    · rename_i q
      cases h
      exact ⟨q.1, q.2.1, q.2.2.1, q.2.2.2.1, q.2.2.2.2.1, q.2.2.2.2.2⟩
    · cases h
  · cases h
theorem dayOpt_of {y m p : Int} (h : Day y m p) : dayOpt (some y) (some m) (some p) = some (y, m, p) := if_pos ⟨h.y0, h.y1, h.m0, h.m1, h.p0, h.p1⟩
theorem cut_mid (z : Str) {i j : Int} (h : 0 ≤ i) (h2 : i ≤ j) : tl (cutS z (some i) (some j)) = ((tl z).drop i.toNat).take (j.toNat - i.toNat) := by
  rw [tl_cut]
  show ((tl z).drop (if i < 0 then (i + (z.length : Int)).toNat else min i.toNat z.length)).take ((if j < 0 then (j + (z.length : Int)).toNat else min j.toNat z.length) - (if i < 0 then (i + (z.length : Int)).toNat else min i.toNat z.length)) = _
  rw [if_neg (by omega), if_neg (by omega), tl_len]
  by_cases c : i.toNat ≤ (tl z).length
  · rw [Nat.min_eq_left c]
    by_cases d : j.toNat ≤ (tl z).length
    · rw [Nat.min_eq_left d]
    · rw [Nat.min_eq_right (by omega), List.take_of_length_le (by rw [List.length_drop]; omega), List.take_of_length_le (by rw [List.length_drop]; omega)]
  · rw [Nat.min_eq_right (a := i.toNat) (by omega), List.drop_length, List.drop_eq_nil_of_le (by omega)]
    simp
theorem ten {l : List Nat} (h : l.length = 10) : ∃ a b c d e f g i j k, l = [a, b, c, d, e, f, g, i, j, k] := by
  match l, h with
  | [a, b, c, d, e, f, g, i, j, k], _ => exact ⟨a, b, c, d, e, f, g, i, j, k, rfl⟩
/-- the parts that a text writes -/
def dateOpt (l : List Nat) : Option (Int × Int × Int) := match l with
  | [a, b, c, d, e, f, g, i, j, k] => if (e == 45 && i == 45 && [a, b, c, d, f, g, j, k].all fun x => decide (x ∈ tl digT)) = true then
      dayOpt (some (NumText.digitsVal [a, b, c, d] : Nat)) (some (NumText.digitsVal [f, g] : Nat)) (some (NumText.digitsVal [j, k] : Nat)) else none
  | _ => none
theorem int_dig {z : Str} {S : Sto} {l : List Nat} (e : tl z = l) (hl : l.length ≤ 640) (hn : l ≠ []) (h : l.all (fun x => decide (x ∈ tl digT)) = true) : intL [.str z] S = .ok (.int (NumText.digitsVal l : Nat)) S := by
  have hz : z.length ≤ 640 := by rw [tl_len, e]; exact hl
  have := intText_digits (x := z) (by rw [show z.cps.toList = tl z from rfl, e]; exact all_dig h) (by rw [show z.cps.toList = tl z from rfl, e]; exact hn) (by omega)
  rw [show z.cps.toList = tl z from rfl, e] at this
  simp [intL, this, hz]
theorem dateOpt_day {l : List Nat} {y m p : Int} (h : dateOpt l = some (y, m, p)) : Day y m p := by
  unfold dateOpt at h
  split at h
  · split at h
    · exact dayOpt_day h
    · cases h
  · cases h
theorem num4 {n : Nat} (h : 1000 ≤ n) (h2 : n < 10000) : TL.numL n = [48 + n / 1000, 48 + n / 100 % 10, 48 + n / 10 % 10, 48 + n % 10] := by
  rw [TL.numL_step (by omega), TL.numL_step (by omega), TL.numL_step (by omega), TL.numL_lt (by omega)]
  simp
  omega
theorem date_text {y m p : Int} (h : Day y m p) : dateOpt (tl (toString y : Str) ++ [45, 48 + (m / 10).toNat, 48 + (m % 10).toNat, 45, 48 + (p / 10).toNat, 48 + (p % 10).toNat]) = some (y, m, p) := by
  have hb := mlen_b (y := y) h.m0 h.m1
  have y0 := h.y0
  have y1 := h.y1
  have p0 := h.p0
  have p1 := h.p1
  have m0 := h.m0
  have m1 := h.m1
  obtain ⟨n, rfl⟩ := Int.eq_ofNat_of_zero_le (show 0 ≤ y by omega)
  obtain ⟨a, rfl⟩ := Int.eq_ofNat_of_zero_le (show 0 ≤ m by omega)
  obtain ⟨b, rfl⟩ := Int.eq_ofNat_of_zero_le (show 0 ≤ p by omega)
  rw [tl_int, if_neg (by omega), show ((n : Int)).natAbs = n by omega, num4 (by omega) (by omega)]
  have dg : ∀ k : Nat, k < 10 → decide (48 + k ∈ tl digT) = true := fun k hk => decide_eq_true ((digT_iff _).mpr ⟨by omega, by omega⟩)
  have e1 : ((a : Int) / 10).toNat = a / 10 := by omega
  have e2 : ((a : Int) % 10).toNat = a % 10 := by omega
  have e3 : ((b : Int) / 10).toNat = b / 10 := by omega
  have e4 : ((b : Int) % 10).toNat = b % 10 := by omega
  rw [e1, e2, e3, e4]
  show (if ((45 : Nat) == 45 && (45 : Nat) == 45 && [48 + n / 1000, 48 + n / 100 % 10, 48 + n / 10 % 10, 48 + n % 10, 48 + a / 10, 48 + a % 10, 48 + b / 10, 48 + b % 10].all fun x => decide (x ∈ tl digT)) = true then
      dayOpt (some (NumText.digitsVal [48 + n / 1000, 48 + n / 100 % 10, 48 + n / 10 % 10, 48 + n % 10] : Nat)) (some (NumText.digitsVal [48 + a / 10, 48 + a % 10] : Nat)) (some (NumText.digitsVal [48 + b / 10, 48 + b % 10] : Nat)) else none) = _
  rw [if_pos (by simp only [List.all_cons, List.all_nil]; rw [dg _ (by omega), dg _ (by omega), dg _ (by omega), dg _ (by omega), dg _ (by omega), dg _ (by omega), dg _ (by omega), dg _ (by omega)]; rfl)]
  rw [show NumText.digitsVal [48 + n / 1000, 48 + n / 100 % 10, 48 + n / 10 % 10, 48 + n % 10] = n by simp [NumText.digitsVal]; omega,
    show NumText.digitsVal [48 + a / 10, 48 + a % 10] = a by simp [NumText.digitsVal]; omega, show NumText.digitsVal [48 + b / 10, 48 + b % 10] = b by simp [NumText.digitsVal]; omega]
  exact dayOpt_of h
/-! ### tuples of whole numbers compared -/
section
variable {S : Sto} {a b c d e f : Int}
theorem eqV_t3 : eqV2 (.tup [.int a, .int b, .int c]) (.tup [.int d, .int e, .int f]) S = some (a == d && (b == e && (c == f && true))) := by
  unfold eqV2
  rw [show eqS (.tup [.int a, .int b, .int c]) (.tup [.int d, .int e, .int f]) = none from rfl]
  simp only
  rw [show dat S 60 (.tup [.int a, .int b, .int c]) = some (.tuple [.int a, .int b, .int c]) from rfl, show dat S 60 (.tup [.int d, .int e, .int f]) = some (.tuple [.int d, .int e, .int f]) from rfl]
  simp only
  rw [show SeqAt.shaped (.tuple [.int a, .int b, .int c]) = true from rfl, show SeqAt.shaped (.tuple [.int d, .int e, .int f]) = true from rfl]
  rfl
theorem eq_t3 : eqL (.tup [.int a, .int b, .int c]) (.tup [.int d, .int e, .int f]) S = .ok (.bl (a == d && (b == e && c == f))) S := by
  unfold eqL; rw [eqV_t3, Bool.and_true]
theorem ne_t3 : neL (.tup [.int a, .int b, .int c]) (.tup [.int d, .int e, .int f]) S = .ok (.bl !(a == d && (b == e && c == f))) S := by
  unfold neL; rw [eqV_t3, Bool.and_true]
theorem ix_k {xs : List LV} {u : LV} {j : Int} (h : 0 ≤ j) (hu : xs[j.toNat]? = some u) : ixL (.ktp xs) (.int j) S = .ok u S := by
  simp only [ixL, ixO, atI_nn h, hu]
theorem ix_l0 {xs : List LV} {u : LV} {j : Int} (h : 0 ≤ j) (hu : xs[j.toNat]? = some u) : ixL (.ref S.length) (.int j) (S ++ [.lst xs]) = .ok u (S ++ [.lst xs]) := ix_l (by rw [get_app0]; rfl) h hu
theorem ix_l1 {o : LO} {xs : List LV} {u : LV} {j : Int} (h : 0 ≤ j) (hu : xs[j.toNat]? = some u) : ixL (.ref (S.length + 1)) (.int j) (S ++ [o, .lst xs]) = .ok u (S ++ [o, .lst xs]) := ix_l (by rw [get_app]; rfl) h hu
theorem ix_lk {U : Sto} {n : Nat} {xs : List LV} {u : LV} {j : Int} (hU : U[n]? = some (.lst xs)) (h : 0 ≤ j) (hu : xs[j.toNat]? = some u) : ixL (.ref (S.length + n)) (.int j) (S ++ U) = .ok u (S ++ U) := ix_l (by rw [get_app]; exact hU) h hu
theorem get_ex {α : Type} {xs : List α} {j : Int} (h : 0 ≤ j) (h2 : j < xs.length) : ∃ u, xs[j.toNat]? = some u := ⟨_, List.getElem?_eq_getElem (by omega)⟩
theorem gtp_e {gs : LGs} {xs : List LV} {ds : Sl} : asgK (gTp gs) ds (.tup xs) S = (match gs xs S ds with | some ds1 => .nx ds1 S | none => .no) := (rfl)
@[simp] theorem gs_nil {ds : Sl} : gsNil [] S ds = some ds := (rfl)
@[simp] theorem gs_cons {i : Nat} {gs : LGs} {v : LV} {xs : List LV} {ds : Sl} : gsCons (gNm i) gs (v :: xs) S ds = gs xs S (ds.set i (some v)) := (rfl)
@[simp] theorem min_ii : minL [.int a, .int b] S = .ok (.int (if b < a then b else a)) S := (rfl)
@[simp] theorem max_ii : maxL [.int a, .int b] S = .ok (.int (if b > a then b else a)) S := (rfl)
@[simp] theorem int_b {k : Bool} : intL [.bl k] S = .ok (.int (if k = true then 1 else 0)) S := (rfl)
@[simp] theorem int_i {k : Int} : intL [.int k] S = .ok (.int k) S := (rfl)
@[simp] theorem abs_i {k : Int} : absL [.int k] S = .ok (.int (if k < 0 then -k else k)) S := (rfl)
end
end LL


set_option Elab.async false
set_option linter.all false
set_option maxRecDepth 100000
set_option maxHeartbeats 2000000
/-! The logical layer: lists of digits, amounts in texts. -/
namespace LL
open PySem PySem.Spec PyProof.Rows L2

abbrev dval (a : List Nat) : Nat := NumText.digitsVal a
theorem fold_val (a : List Nat) : ∀ s : Nat, a.foldl (fun acc c => acc * 10 + (c - 48)) s = s * 10 ^ a.length + dval a := by
  induction a with
  | nil => intro s; simp [NumText.digitsVal]
  | cons c a ih =>
    intro s
    show a.foldl _ (s * 10 + (c - 48)) = s * 10 ^ (a.length + 1) + a.foldl _ (0 * 10 + (c - 48))
    rw [ih, ih, Nat.pow_succ, Nat.add_mul, Nat.zero_mul, Nat.zero_add, Nat.mul_assoc, Nat.mul_comm 10]
    omega
theorem val_cons (c : Nat) (a : List Nat) : dval (c :: a) = (c - 48) * 10 ^ a.length + dval a := by
  show a.foldl _ (0 * 10 + (c - 48)) = _
  rw [fold_val, Nat.zero_mul, Nat.zero_add]
theorem val_lt {a : List Nat} (h : NumText.AllDigits a) : dval a < 10 ^ a.length := by
  induction a with
  | nil => decide
  | cons c a ih =>
    rw [val_cons, List.length_cons, Nat.pow_succ]
    have := ih h.tail
    have hc := h.head
    have : (c - 48) * 10 ^ a.length ≤ 9 * 10 ^ a.length := Nat.mul_le_mul_right _ (by omega)
    omega
theorem val_ge {c : Nat} {a : List Nat} (h : NumText.AllDigits (c :: a)) (hc : c ≠ 48) : 10 ^ a.length ≤ dval (c :: a) := by
  rw [val_cons]
  have := h.head
  have : 1 * 10 ^ a.length ≤ (c - 48) * 10 ^ a.length := Nat.mul_le_mul_right _ (by omega)
  omega
theorem dig_inj : ∀ {a b : List Nat}, NumText.AllDigits a → NumText.AllDigits b → a.length = b.length → dval a = dval b → a = b
  | [], [], _, _, _, _ => rfl
  | [], _ :: _, _, _, h, _ => by simp at h
  | _ :: _, [], _, _, h, _ => by simp at h
  | c :: a, d :: b, ha, hb, hl, hv => by
    have hl' : a.length = b.length := by simpa using hl
    rw [val_cons, val_cons, hl'] at hv
    have va := val_lt ha.tail
    have vb := val_lt hb.tail
    rw [hl'] at va
    have c1 := ha.head
    have d1 := hb.head
    generalize 10 ^ b.length = P at hv va vb
    have e : c - 48 = d - 48 := by
      rcases Nat.lt_trichotomy (c - 48) (d - 48) with q | q | q
      · have : (c - 48 + 1) * P ≤ (d - 48) * P := Nat.mul_le_mul_right _ q
        rw [Nat.add_mul] at this
        omega
      · exact q
      · have : (d - 48 + 1) * P ≤ (c - 48) * P := Nat.mul_le_mul_right _ q
        rw [Nat.add_mul] at this
        omega
    rw [e] at hv
    have := dig_inj ha.tail hb.tail hl' (by omega)
    rw [this, show c = d by omega]
theorem numL_len_gt {n k : Nat} (h : 10 ^ k ≤ n) : k < (TL.numL n).length := by
  have := val_lt (TL.numL_digits n)
  rw [show dval (TL.numL n) = n from TL.numL_val n] at this
  exact (Nat.pow_lt_pow_iff_right (by decide : 1 < 10)).mp (Nat.lt_of_le_of_lt h this)
theorem numL_pos (n : Nat) : 0 < (TL.numL n).length := by
  cases e : TL.numL n with
  | nil => exact absurd e (TL.numL_ne n)
  | cons c l => simp
theorem numL_head {n : Nat} (h : (TL.numL n).head? = some 48) : (TL.numL n).length = 1 := by
  cases e : TL.numL n with
  | nil => exact absurd e (TL.numL_ne n)
  | cons c l =>
    rw [e] at h
    have hc : c = 48 := by simpa using h
    cases l with
    | nil => rfl
    | cons d l =>
      have hd := TL.numL_digits n
      rw [e] at hd
      have hv : n = dval (c :: d :: l) := by rw [← e]; exact (TL.numL_val n).symm
      rw [val_cons, hc] at hv
      have lt := val_lt hd.tail
      have := TL.numL_len (n := n) (k := (d :: l).length) (by simp) (by omega)
      rw [e] at this
      simp at this
      omega
/-- so many digits at least -/
def padF (v k : Nat) : List Nat := List.replicate (k - (TL.numL v).length) 48 ++ TL.numL v
theorem padF_digits (v k : Nat) : NumText.AllDigits (padF v k) := fun c hc => by
  rcases List.mem_append.mp hc with hc | hc
  · rw [List.eq_of_mem_replicate hc]; omega
  · exact TL.numL_digits v c hc
theorem padF_len (v k : Nat) : (padF v k).length = max (TL.numL v).length k := by
  unfold padF
  rw [List.length_append, List.length_replicate]
  omega
theorem padF_val (v k : Nat) : dval (padF v k) = v := by
  unfold padF
  generalize k - (TL.numL v).length = m
  induction m with
  | zero => exact TL.numL_val v
  | succ m ih =>
    rw [List.replicate_succ, List.cons_append, val_cons, ih]
    omega
theorem pad_of {F : List Nat} {k : Nat} (hd : NumText.AllDigits F) (hk : 1 ≤ k) (hl : k ≤ F.length) (hh : F.length = k ∨ F.head? ≠ some 48) : F = padF (dval F) k := by
  refine dig_inj hd (padF_digits _ _) ?_ (padF_val _ _).symm
  rw [padF_len]
  have le : (TL.numL (dval F)).length ≤ F.length := TL.numL_len (by omega) (val_lt hd)
  rcases hh with hh | hh
  · omega
  · cases F with
    | nil => simp at hl; omega
    | cons c F =>
      have := numL_len_gt (val_ge hd (fun e => hh (by rw [e]; rfl)))
      rw [List.length_cons] at *
      omega
theorem padF_head {v k : Nat} (h : k < (padF v k).length) (hk : 1 ≤ k) : (padF v k).head? ≠ some 48 := by
  rw [padF_len] at h
  have e : padF v k = TL.numL v := by
    unfold padF
    rw [show k - (TL.numL v).length = 0 by omega]; rfl
  rw [e]
  intro z
  have := numL_head z
  omega
/-- a point ahead of the last so many -/
def midF (F : List Nat) (pl : Nat) : List Nat := if pl = 0 then F else F.take (F.length - pl) ++ 46 :: F.drop (F.length - pl)
def AT (n : Int) (pl : Nat) : List Nat := (if n < 0 then [45] else []) ++ midF (padF n.natAbs (pl + 1)) pl
def isDg (c : Nat) : Bool := decide (c ∈ tl digT)
theorem isDg_iff (c : Nat) : isDg c = true ↔ 48 ≤ c ∧ c ≤ 57 := by
  unfold isDg
  rw [decide_eq_true_eq]
  exact digT_iff c
theorem all_isDg {a : List Nat} : a.all isDg = true ↔ NumText.AllDigits a := by
  rw [List.all_eq_true]
  exact ⟨fun h c hc => (isDg_iff c).mp (h c hc), fun h c hc => (isDg_iff c).mpr (h c hc)⟩
theorem filter_dig {F : List Nat} (h : NumText.AllDigits F) : F.filter isDg = F := List.filter_eq_self.mpr fun c hc => (isDg_iff c).mpr (h c hc)
theorem mid_filter {F : List Nat} (h : NumText.AllDigits F) (pl : Nat) : (midF F pl).filter isDg = F := by
  unfold midF
  split
  · exact filter_dig h
  · rw [List.filter_append, List.filter_cons, show isDg 46 = false by decide]
    simp only [Bool.false_eq_true, if_false]
    rw [← List.filter_append, List.take_append_drop]
    exact filter_dig h
theorem mid_len {F : List Nat} {pl : Nat} (h : pl ≤ F.length) : (midF F pl).length = F.length + (if pl = 0 then 0 else 1) := by
  unfold midF
  split
  · rfl
  · rw [List.length_append, List.length_take, List.length_cons, List.length_drop]
    omega
theorem mid_head {F : List Nat} {pl : Nat} (hd : NumText.AllDigits F) (h : pl + 1 ≤ F.length) : (midF F pl).take 1 ≠ [45] := by
  cases F with
  | nil => simp at h
  | cons c F =>
    have hc := hd.head
    have : (midF (c :: F) pl).take 1 = [c] := by
      unfold midF
      split
      · rfl
      · rw [List.length_cons] at h ⊢
        obtain ⟨j, hj⟩ : ∃ j, F.length + 1 - pl = j + 1 := ⟨F.length - pl, by omega⟩
        rw [hj]
        rfl
    rw [this]
    simp
    omega
/-- what amount_of tells -/
def amtN (a : List Nat) : Int := if (a.take 1 == [45]) = true then -(dval (a.filter isDg) : Int) else (dval (a.filter isDg) : Int)
def amtOf (a : List Nat) (pl : Nat) : Option Int :=
  if 20 < a.length then none
  else if (a.filter isDg).isEmpty = true then none
  else if ((dval (a.filter isDg) ≤ 10 ^ 15) ∧ AT (amtN a) pl = a) then some (amtN a)
  else none
def bodyF (a : List Nat) : List Nat := if (a.take 1 == [45]) = true then a.drop 1 else a
def figF (b : List Nat) (pl : Nat) : List Nat := if pl = 0 then b else b.take (b.length - pl - 1) ++ b.drop (b.length - pl)
def dueOf (a : List Nat) (pl : Nat) : Option Int :=
  if pl ≠ 0 ∧ ((bodyF a).length < pl + 2 ∨ atN (bodyF a) (((bodyF a).length - pl - 1 : Nat) : Int) ≠ 46) then none
  else if (figF (bodyF a) pl).length ≤ pl ∨ (figF (bodyF a) pl).all isDg = false then none
  else if pl + 1 < (figF (bodyF a) pl).length ∧ (figF (bodyF a) pl).head? = some 48 then none
  else if 10 ^ 15 < dval (figF (bodyF a) pl) ∨ ((a.take 1 == [45]) = true ∧ dval (figF (bodyF a) pl) = 0) then none
  else some (if (a.take 1 == [45]) = true then -(dval (figF (bodyF a) pl) : Int) else (dval (figF (bodyF a) pl) : Int))
theorem AT_parts (n : Int) (pl : Nat) : ((AT n pl).take 1 == [45]) = decide (n < 0) ∧ bodyF (AT n pl) = midF (padF n.natAbs (pl + 1)) pl ∧ (AT n pl).filter isDg = padF n.natAbs (pl + 1) := by
  have hd := padF_digits n.natAbs (pl + 1)
  have hl : pl + 1 ≤ (padF n.natAbs (pl + 1)).length := by rw [padF_len]; omega
  by_cases h : n < 0
  · have e : AT n pl = 45 :: midF (padF n.natAbs (pl + 1)) pl := by unfold AT; rw [if_pos h]; rfl
    have t : ((AT n pl).take 1 == [45]) = true := by rw [e]; rfl
    refine ⟨by rw [t, decide_eq_true h], ?_, ?_⟩
    · unfold bodyF; rw [t, e]; rfl
    · rw [e, List.filter_cons, show isDg 45 = false by decide]
      simp only [Bool.false_eq_true, if_false]
      exact mid_filter hd pl
  · have e : AT n pl = midF (padF n.natAbs (pl + 1)) pl := by unfold AT; rw [if_neg h]; rfl
    have t : ((AT n pl).take 1 == [45]) = false := by
      rw [e]
      exact beq_false_of_ne (mid_head hd hl)
    refine ⟨by rw [t, decide_eq_false h], ?_, ?_⟩
    · unfold bodyF; rw [t, e]; rfl
    · rw [e]; exact mid_filter hd pl
theorem amt_iff {a : List Nat} {pl : Nat} {n : Int} (hp : pl ≤ 4) : amtOf a pl = some n ↔ n.natAbs ≤ 10 ^ 15 ∧ a = AT n pl := by
  constructor
  · intro h
    unfold amtOf at h
    split at h
    · cases h
    · split at h
      · cases h
      · split at h
        · rename_i q
          injection h with h
          rw [h] at q
          refine ⟨?_, q.2.symm⟩
          have : n.natAbs = dval (a.filter isDg) := by rw [← h]; unfold amtN; split <;> omega
          rw [this]; exact q.1
        · cases h
  · rintro ⟨h, rfl⟩
    obtain ⟨t, _, f⟩ := AT_parts n pl
    have hl : (AT n pl).length ≤ 20 := by
      unfold AT
      rw [List.length_append, mid_len (by rw [padF_len]; omega), padF_len]
      have : (TL.numL n.natAbs).length ≤ 16 := TL.numL_len (by decide) (by omega)
      split <;> split <;> simp <;> omega
    have v : dval ((AT n pl).filter isDg) = n.natAbs := by rw [f]; exact padF_val _ _
    have e : amtN (AT n pl) = n := by
      unfold amtN
      rw [t, v]
      by_cases q : n < 0
      · rw [decide_eq_true q, if_pos rfl]; omega
      · rw [decide_eq_false q, if_neg (by decide)]; omega
    unfold amtOf
    rw [if_neg (by omega), if_neg (by
      rw [f]
      cases c : padF n.natAbs (pl + 1) with
      | nil => have := padF_len n.natAbs (pl + 1); rw [c] at this; simp at this; omega
      | cons => simp), if_pos ⟨by rw [v]; exact h, by rw [e]⟩, e]
theorem fig_mid {F : List Nat} {pl : Nat} (h : pl + 1 ≤ F.length) : figF (midF F pl) pl = F := by
  unfold figF
  split
  · rename_i e; unfold midF; rw [if_pos e]
  · rename_i e
    have ml := mid_len (F := F) (pl := pl) (by omega)
    rw [if_neg e] at ml
    rw [ml]
    unfold midF
    rw [if_neg e, show F.length + 1 - pl - 1 = (F.take (F.length - pl)).length by rw [List.length_take]; omega, List.take_left, show F.length + 1 - pl = (F.take (F.length - pl)).length + 1 by rw [List.length_take]; omega]
    rw [List.drop_append, List.drop_eq_nil_of_le (by omega), show (F.take (F.length - pl)).length + 1 - (F.take (F.length - pl)).length = 1 by omega]
    show F.take (F.length - pl) ++ ([] ++ F.drop (F.length - pl)) = F
    rw [List.nil_append, List.take_append_drop]
theorem mid_fig {b : List Nat} {pl : Nat} (h : pl ≠ 0 → pl + 2 ≤ b.length ∧ atN b ((b.length - pl - 1 : Nat) : Int) = 46) : midF (figF b pl) pl = b := by
  unfold figF midF
  by_cases e : pl = 0
  · rw [if_pos e, if_pos e]
  · obtain ⟨h1, h2⟩ := h e
    rw [if_neg e, if_neg e]
    have l : (b.take (b.length - pl - 1) ++ b.drop (b.length - pl)).length - pl = (b.take (b.length - pl - 1)).length := by
      rw [List.length_append, List.length_take, List.length_drop]; omega
    rw [l, List.take_left, List.drop_left]
    have hi : b.length - pl - 1 < b.length := by omega
    have g : b[b.length - pl - 1] = 46 := by
      unfold atN at h2
      rw [Int.toNat_natCast, List.getD_eq_getElem?_getD, List.getElem?_eq_getElem hi] at h2
      exact h2
    rw [show b.drop (b.length - pl) = b.drop (b.length - pl - 1 + 1) by congr 1; omega, ← g, ← List.drop_eq_getElem_cons hi, List.take_append_drop]
theorem due_iff {a : List Nat} {pl : Nat} {n : Int} : dueOf a pl = some n ↔ n.natAbs ≤ 10 ^ 15 ∧ a = AT n pl := by
  constructor
  · intro h
    unfold dueOf at h
    split at h
    · cases h
    · rename_i c1
      split at h
      · cases h
      · rename_i c2
        split at h
        · cases h
        · rename_i c3
          split at h
          · cases h
          · rename_i c4
            injection h with h
            have hl : pl < (figF (bodyF a) pl).length := by
              rcases Nat.lt_or_ge pl (figF (bodyF a) pl).length with q | q
              · exact q
              · exact absurd (.inl q) c2
            have hd : NumText.AllDigits (figF (bodyF a) pl) := all_isDg.mp (by
              cases q : (figF (bodyF a) pl).all isDg with
              | true => rfl
              | false => exact absurd (.inr q) c2)
            have hv : dval (figF (bodyF a) pl) ≤ 10 ^ 15 := by
              rcases Nat.lt_or_ge (10 ^ 15) (dval (figF (bodyF a) pl)) with q | q
              · exact absurd (.inl q) c4
              · exact q
            have hF := pad_of (k := pl + 1) hd (by omega) hl (by
              rcases Nat.lt_or_ge (pl + 1) (figF (bodyF a) pl).length with q | q
              · exact .inr fun z => c3 ⟨q, z⟩
              · exact .inl (by omega))
            have hb := mid_fig (b := bodyF a) (pl := pl) fun e => by
              refine ⟨?_, ?_⟩
              · rcases Nat.lt_or_ge (bodyF a).length (pl + 2) with q | q
                · exact absurd ⟨e, .inl q⟩ c1
                · exact q
              · rcases Nat.decEq (atN (bodyF a) (((bodyF a).length - pl - 1 : Nat) : Int)) 46 with q | q
                · exact absurd ⟨e, .inr q⟩ c1
                · exact q
            have na : n.natAbs = dval (figF (bodyF a) pl) := by rw [← h]; split <;> omega
            refine ⟨by rw [na]; exact hv, ?_⟩
            unfold AT
            rw [na, ← hF, hb]
            cases t : (a.take 1 == [45]) with
            | true =>
              rw [t, if_pos rfl] at h
              have : dval (figF (bodyF a) pl) ≠ 0 := fun z => c4 (.inr ⟨t, z⟩)
              rw [if_pos (by omega)]
              unfold bodyF
              rw [t, if_pos rfl]
              cases a with
              | nil => cases t
              | cons c l =>
                simp at t
                rw [t]; rfl
            | false =>
              rw [t, if_neg (by decide)] at h
              rw [if_neg (by omega)]
              unfold bodyF
              rw [t, if_neg (by decide)]; rfl
  · rintro ⟨h, rfl⟩
    obtain ⟨t, b, _⟩ := AT_parts n pl
    have hd := padF_digits n.natAbs (pl + 1)
    have hl : pl + 1 ≤ (padF n.natAbs (pl + 1)).length := by rw [padF_len]; omega
    have v := padF_val n.natAbs (pl + 1)
    have f := fig_mid hl
    have ml := mid_len (F := padF n.natAbs (pl + 1)) (pl := pl) (by omega)
    unfold dueOf
    rw [b, f, if_neg (by
      rintro ⟨e, q | q⟩
      · rw [ml, if_neg e] at q; omega
      · apply q
        rw [ml, if_neg e]
        unfold midF atN
        rw [if_neg e, Int.toNat_natCast, List.getD_eq_getElem?_getD, List.getElem?_append_right (by rw [List.length_take]; omega),
          show (padF n.natAbs (pl + 1)).length + 1 - pl - 1 - (List.take ((padF n.natAbs (pl + 1)).length - pl) (padF n.natAbs (pl + 1))).length = 0 by rw [List.length_take]; omega]
        rfl), if_neg (by
      rintro (q | q)
      · omega
      · rw [all_isDg.mpr hd] at q; cases q), if_neg (by
      rintro ⟨q, z⟩
      exact padF_head q (by omega) z), t, v, if_neg (by
      rintro (q | ⟨q, z⟩)
      · omega
      · have := of_decide_eq_true q; omega)]
    congr 1
    by_cases q : n < 0
    · rw [decide_eq_true q, if_pos rfl]; omega
    · rw [decide_eq_false q, if_neg (by decide)]; omega
theorem cut_negto (z : Str) {k : Int} (h : 0 < k) (h2 : k ≤ z.length) : tl (cutS z none (some (-k))) = (tl z).take (z.length - k.toNat) := by
  rw [tl_cut]
  show ((tl z).drop 0).take ((if -k < 0 then (-k + (z.length : Int)).toNat else min (-k).toNat z.length) - 0) = _
  rw [if_pos (by omega), List.drop_zero, Nat.sub_zero, show (-k + (z.length : Int)).toNat = z.length - k.toNat by omega]
theorem cut_negfrom (z : Str) {k : Int} (h : 0 < k) (h2 : k ≤ z.length) : tl (cutS z (some (-k)) none) = (tl z).drop (z.length - k.toNat) := by
  rw [tl_cut]
  show ((tl z).drop (if -k < 0 then (-k + (z.length : Int)).toNat else min (-k).toNat z.length)).take (z.length - (if -k < 0 then (-k + (z.length : Int)).toNat else min (-k).toNat z.length)) = _
  rw [if_pos (by omega), show (-k + (z.length : Int)).toNat = z.length - k.toNat by omega]
  exact List.take_of_length_le (by rw [List.length_drop, len_tl]; omega)
theorem mul_zero_txt (k : Int) : tl (Txt.mul ("0" : Str) k) = List.replicate k.toNat 48 := by
  unfold Txt.mul
  by_cases h : k < 1
  · rw [if_pos h, show k.toNat = 0 by omega]; rfl
  · rw [if_neg h]
    by_cases h1 : k = 1
    · subst h1; rfl
    · rw [if_neg (by simp [h1]; decide)]
      have : ∀ (m : Nat) (acc : Array Nat), ((List.replicate m ("0" : Str).cps).foldl (· ++ ·) acc).toList = acc.toList ++ List.replicate m 48 := by
        intro m
        induction m with
        | zero => intro acc; simp
        | succ m ih =>
          intro acc
          rw [List.replicate_succ, List.foldl_cons, ih, Array.toList_append, List.replicate_succ, List.append_assoc]
          rfl
      show ((List.replicate k.toNat ("0" : Str).cps).foldl (· ++ ·) #[]).toList = _
      rw [this]
      rfl
theorem amt_due {a : List Nat} {pl : Nat} (hp : pl ≤ 4) : amtOf a pl = dueOf a pl := by
  cases e : amtOf a pl with
  | some n => exact (due_iff.mpr ((amt_iff hp).mp e)).symm
  | none =>
    cases e2 : dueOf a pl with
    | none => rfl
    | some n =>
      rw [(amt_iff hp).mpr (due_iff.mp e2)] at e
      cases e
end LL


set_option Elab.async false
set_option linter.all false
set_option maxRecDepth 100000
set_option maxHeartbeats 4000000
/-! The logical layer: a tuple times 0, 1, ..; isinstance of what was caught and several classes. -/
namespace LL
open PySem PySem.Spec PyProof.Rows L2

theorem tup_mul1 (l : Addr) (items : Array Value) (n : Nat) (dd : Option Addr) (sl : Array (Option Value)) (u : Tok) :
    Meets (Builtin.«tuple.__mul__» ⟨[.ref l, .int 1 u], []⟩) (fun _ R s => s.heap.get? l = some { cls := .type "tuple", dict := dd, data := .seq items n, slots := sl } ∧ R (.ok (.ret (Value.ref l))) s) :=
  .of_wp fun prog w A R s h => by
    obtain ⟨hp, g, d, tk, os⟩ := s
    obtain ⟨hl, h⟩ := h
    have f1 := AutoSeq1.idx_int
    wp_walk using wpAny_loadPart' hl
    exact ⟨_, rfl, h⟩
theorem tup_mul0 (l : Addr) (items : Array Value) (n : Nat) (dd : Option Addr) (sl : Array (Option Value)) (u : Tok) (hi : items.isEmpty = false) :
    Meets (Builtin.«tuple.__mul__» ⟨[.ref l, .int 0 u], []⟩) (fun _ R s => s.heap.get? l = some { cls := .type "tuple", dict := dd, data := .seq items n, slots := sl } ∧
      R (.ok (.ret (Value.ref s.heap.objs.size))) { s with heap := s.heap.push { cls := Value.type "tuple", data := Data.seq #[] }, toks := s.toks }) :=
  .of_wp fun prog w A R s h => by
    obtain ⟨hp, g, d, tk, os⟩ := s
    obtain ⟨hl, h⟩ := h
    have f1 := AutoSeq1.idx_int
    wp_walk using wpAny_loadPart' hl
    exact ⟨_, rfl, h⟩
def rRep01 (K : PySem.W.Frag) : R2 := fun x y H Q => ∃ l k xs, x = .ref l ∧ y = .int k ∧ SqT K H l xs ∧ xs ≠ [] ∧ ((k = 1 ∧ Q x H) ∨ (k = 0 ∧ ∀ p, H p = none → Q (.ref p) (upd H p (.tup []))))
theorem op_rep01 {X : Cx} : OpR X (binaryOp .Mult) (rRep01 X.K) := by
  intro pins s σ H x y v u Q I rx ry h
  obtain ⟨l, k, xs, rfl, rfl, hT, hne, q⟩ := h
  cases rx
  obtain ⟨t, rfl⟩ := ry
  obtain ⟨its, r, ⟨⟨cls, dd, data, sl⟩, ho, hc, n, hd⟩, hs⟩ := I.tuple hT
  simp only at hc hd
  subst hc hd
  have hle : its.length = xs.length := r.length.symm
  have hn : its ≠ [] := fun e => hne (by
    rw [e] at hle
    exact List.eq_nil_of_length_eq_zero hle.symm)
  have hi : its.toArray.isEmpty = false := by
    cases its with
    | nil => exact absurd rfl hn
    | cons a b => rfl
  rcases q with ⟨rfl, q⟩ | ⟨rfl, q⟩
  · refine wpAny_binaryOp_repeat_ref (T := "tuple") (U := "int") (by decide) ⟨_, ho, rfl⟩ (fun s' => typeIs_int s' 1 t) noFill_tuple_mul F.fills_int_mul F.slot_int_rmul repeat_tuple F.slot_int_index.lookup
      (call_meets F.slot_int_rmul (typeIs_int s 1 t) F.entry_int_rmul (F.args_int_rmul_2 _ _) (int_rmul_tuple 1 t l its.toArray n dd sl)
        ⟨ho, rfl, ⟨_, ho, rfl⟩, call_meets F.slot_tuple_mul ⟨_, ho, rfl⟩ F.entry_tuple_mul (F.args_tuple_mul_2 _ _) (tup_mul1 l its.toArray n dd sl t) ⟨ho, ?_⟩⟩)
    exact ⟨.ref l, H, I, rfl, q⟩
  · refine wpAny_binaryOp_repeat_ref (T := "tuple") (U := "int") (by decide) ⟨_, ho, rfl⟩ (fun s' => typeIs_int s' 0 t) noFill_tuple_mul F.fills_int_mul F.slot_int_rmul repeat_tuple F.slot_int_index.lookup
      (call_meets F.slot_int_rmul (typeIs_int s 0 t) F.entry_int_rmul (F.args_int_rmul_2 _ _) (int_rmul_tuple 0 t l its.toArray n dd sl)
        ⟨ho, rfl, ⟨_, ho, rfl⟩, call_meets F.slot_tuple_mul ⟨_, ho, rfl⟩ F.entry_tuple_mul (F.args_tuple_mul_2 _ _) (tup_mul0 l its.toArray n dd sl t hi) ⟨ho, ?_⟩⟩)
    refine ⟨.ref s.heap.objs.size, _, I.laid (t' := s.toks) (o := .tup []) (fun b ob q => Heap.get?_push_of_some _ q) (Nat.le_refl _) ?_, rfl, q _ (I.hok.fresh (Nat.le_refl _))⟩
    exact ⟨by rw [sizeLine_eq]; decide, [], .nil, IsTup.new _ _⟩
/-- a tuple times 0 or 1 -/
def mulTL : Op2
  | .tup (x :: xs), .int k, S => if k = 1 then .ok (.tup (x :: xs)) S else if k = 0 then .ok (.tup []) S else .no
  | _, _, _ => .no
theorem ol_mulT {K : PySem.W.Frag} {T : Env1} : OpL K T (rRep01 K) mulTL := fun m S H v w x y Q W r rv rw h => by
  unfold mulTL at h
  split at h
  · rename_i u us k
    have rv0 := rv
    obtain ⟨a, vs, rfl, ht, hs⟩ := rv.tupE
    refine ⟨a, k, vs, rfl, rw, SqT.of ht, fun e => ?_, ?_⟩
    · rw [e] at hs
      have := hs.len
      simp at this
    · split at h
      · rename_i e
        exact .inl ⟨e, h.here r rv0⟩
      · split at h
        · rename_i e
          exact .inr ⟨e, fin_tup r RVs.nil h⟩
        · exact h.elim
  · exact h.elim
section
variable {X : Cx} {T : Env1} {ξ : Xi} {W : WX} {a b : Expr} {fa fb : LE} {pos : Pos}
theorem pl_mulT (ha : PE X a (tL X.K T ξ W fa)) (hb : PE X b (tL X.K T ξ W fb)) : PE X (.BinOp a .Mult b pos) (tL X.K T ξ W (lOp mulTL fa fb)) := pl_bin op_rep01 ol_mulT ha hb
end
/-! ### isinstance(e, (C, D, ..)) -/
def rIsET (K : PySem.W.Frag) (D a : Addr) (d : Option Addr) : List V → Hp → VK → Prop := fun xs H Q => ∃ (tp : Addr) (cs : List V) (us : List Value) (b : Bool), xs = [.ref a, .ref tp] ∧ H tp = some (.tup cs) ∧ Paired ClsV cs us ∧ PySem.W.kitAny K (.ref D) us = some b ∧ (d = none ∨ ∃ dd fx, d = some dd ∧ H dd = some (.xd fx)) ∧ Q (.bl b) H
theorem call_isET {X : Cx} {a D : Addr} {oe : Obj} {pn : List (Addr × Obj)} {d : Option Addr} (C : ExcC X.K D) (hz : Zc (.ref D) d oe) (hf : ∃ vs, oe.data = .fields vs) : CallR (X.suite a ((a, oe) :: pn)) (.builtin "isinstance") (rIsET X.K D a d) := by
  intro pins s σ H xs us Q I r h
  obtain ⟨tp, cs, ws, b, rfl, hT, k, e, dx, q⟩ := h
  obtain ⟨u1, u2, rfl, r1, r2⟩ := vals2 r
  cases (show u1 = Value.ref a from r1)
  cases (show u2 = Value.ref tp from r2)
  obtain ⟨_, its, rv, o, h1, h2, n, h3⟩ := (show ObjOk X.prog X.w H s.heap tp (.tup cs) from I.hok tp _ hT)
  have e3 := ClsV.all k rv
  subst e3
  obtain ⟨oc, od, dt, sl⟩ := o
  simp only at h2 h3
  subst h2 h3
  exact PySem.W.kia_tup (kitx_own C) I.kIn (inst_own I hz hf dx) h1 e (fun z => nomatch z) fun tk => ⟨.bl b, H, I.kept (t' := tk) fun _ _ z => z, rfl, q⟩
section
variable {X : Cx} {T : Env1} {W : WX} {i : Nat} {pos : Pos}
theorem pl_isET {a : Addr} {oe : Obj} {cls : Value} {d : Option Addr} {pn : List (Addr × Obj)} {f : Nat → Option Bool} {y : Str} {es : List Expr} {x1} {cs : List V} {us : List Value} {ta : TA} {p pe ptp : Pos} (hX : XIs X) (hz : L2N.Zn cls d oe) (hv : ∃ vs, oe.data = .fields vs)
    (hC : PA (X.suite a ((a, oe) :: pn)) es ta) (hcs : ∀ σ H (Q : List V → Hp → Prop), Q cs H → ta σ H Q) (hu : Paired ClsV cs us) (hl : cs.length ≤ 1000)
    (hf : ∀ c b, f c = some b → ExcC X.K (T.ca c) ∧ PySem.W.kitAny X.K (.ref (T.ca c)) us = some b)
    (hg : Gl X "isinstance") (hm : X.mg "isinstance" = none) (hN : X.N[i]? = some y := by rfl) (hvv : Vis X.env.scope y := by first | exact Or.inl rfl | exact Or.inr (Or.inl rfl) | exact Or.inr (Or.inr rfl)) (hd : (y == ("__debug__" : Str)) = false := by decide)
    (hcd : (y == ("__classdict__" : Str)) = false := by decide)
    (he : starEach (.Name y pe :: [.Tuple es x1 ptp]) X.env = (false, eval (.Name y pe) X.env) :: starEach [.Tuple es x1 ptp] X.env := by rfl) (hpl : (backTo pos (starEach [.Tuple es x1 ptp] X.env)).any (·.1) = false := by rfl) (hst : starEach (.Tuple es x1 ptp :: []) X.env = (false, eval (.Tuple es x1 ptp) X.env) :: starEach [] X.env := by rfl) :
    PE (X.suite a ((a, oe) :: pn)) (.Call (.Name "isinstance" p) [.Name y pe, .Tuple es x1 ptp] [] pos) (tL X.K T (ξE T a cls d) W (lIsE i f)) := by
  refine ⟨fun pins s σ H Q I h => ?_⟩
  obtain ⟨m, S, ds, r, rs, h⟩ := h
  unfold lIsE at h
  split at h
  · rename_i c fs hi
    split at h
    · rename_i b hb
      obtain ⟨xx, h1, h2⟩ := rs.at_ i _ hi
      obtain ⟨a', d', rfl, ⟨ea, ec, ed⟩, xd⟩ := h2
      subst ea ec ed
      obtain ⟨C0, k0⟩ := hf c b hb
      refine (pe_callB (X := X.suite a' ((a', oe) :: pn)) (call_isET (X := X) (a := a') (D := T.ca c) (oe := oe) (pn := pn) C0 hz.zc hv) hg hm (by decide +kernel) (pa_cons (pe_var (i := i) hN hvv hd hcd) (pa_cons (pe_tup hC) pa_nil hst) he) (by decide) (by decide) he hpl).run pins s σ H Q I ?_
      refine ⟨_, h1, hcs _ _ _ ⟨by rw [sizeLine_eq]; omega, fun tp hp => ?_⟩⟩
      have E : Ext m H m (upd H tp (.tup cs)) := Ext.side hp
      have dx : d' = none ∨ ∃ dd fx, d' = some dd ∧ (upd H tp (.tup cs)) dd = some (.xd fx) := by
        rcases xd.mono E with ⟨_, e⟩ | ⟨_, _, dd, _, e, _, e2, _⟩
        · exact .inl e
        · exact .inr ⟨dd, _, e, e2⟩
      exact ⟨tp, cs, us, b, rfl, upd_same, hu, k0, dx, h _ _ _ E (r.side hp) rfl⟩
    · exact h.elim
  · exact h.elim
end
section
variable {k : Int} {x : LV} {xs : List LV} {S : Sto}
@[simp] theorem mulT_1 : mulTL (.tup (x :: xs)) (.int 1) S = .ok (.tup (x :: xs)) S := (rfl)
@[simp] theorem mulT_0 : mulTL (.tup (x :: xs)) (.int 0) S = .ok (.tup []) S := (rfl)
end
end LL


set_option Elab.async false
set_option linter.all false
set_option maxRecDepth 100000
set_option maxHeartbeats 2000000
/-! The logical layer: texts by their colons, names, paths. -/
namespace LL
open PySem PySem.Spec PyProof.Rows L2

/-- the parts of a text between its colons -/
def sp : List Nat → List (List Nat)
  | [] => [[]]
  | c :: r => if c = 58 then [] :: sp r else match sp r with
    | h :: t => (c :: h) :: t
    | [] => [[c]]
theorem sp_col (r : List Nat) : sp (58 :: r) = [] :: sp r := by
  show (if (58 : Nat) = 58 then [] :: sp r else _) = _
  exact if_pos rfl
theorem sp_oth {c : Nat} (r : List Nat) (h : c ≠ 58) : sp (c :: r) = match sp r with | h :: t => (c :: h) :: t | [] => [[c]] := by
  show (if c = 58 then [] :: sp r else match sp r with | h :: t => (c :: h) :: t | [] => [[c]]) = _
  exact if_neg h
theorem sp_ne : ∀ a : List Nat, sp a ≠ []
  | [] => by simp [sp]
  | c :: r => by
    unfold sp
    split
    · simp
    · split <;> simp
theorem spl_sp : ∀ (a acc : List Nat), TL.spl [58] 0 acc a = match sp a with | h :: t => (acc ++ h) :: t | [] => [acc]
  | [], acc => by rw [TL.spl_nil]; simp [sp]
  | c :: r, acc => by
    by_cases h : c = 58
    · subst h
      rw [TL.spl_hit (by rfl)]
      show acc :: TL.spl [58] 0 [] r = _
      rw [spl_sp r [], sp_col]
      cases e : sp r with
      | nil => exact absurd e (sp_ne r)
      | cons x t => simp
    · rw [TL.spl_miss (by
        unfold TL.pre
        simp
        exact h), spl_sp r, sp_oth r h]
      cases e : sp r with
      | nil => exact absurd e (sp_ne r)
      | cons x t => simp
abbrev colT : Str := (":" : Str)
theorem split_sp (z : Str) : (Txt.split z colT).map tl = sp (tl z) := by
  have h : (Txt.split z colT).map TL.tl = TL.spl (TL.tl colT) 0 [] (TL.tl z) := TL.split_spl z colT (by decide) (TL.kind_ok (by decide +kernel))
  have h2 : (Txt.split z colT).map tl = TL.spl [58] 0 [] (tl z) := h
  rw [h2, spl_sp]
  cases e : sp (tl z) with
  | nil => exact absurd e (sp_ne _)
  | cons x t => rfl
theorem split_len (z : Str) : (Txt.split z colT).length = (sp (tl z)).length := by rw [← split_sp, List.length_map]
theorem join_col (ys : List Str) : tl (Txt.join colT ys) = TL.joinL [58] (ys.map tl) := by
  rw [TL.join_eq]
  exact TL.tl_join colT ys
theorem join_sp : ∀ a : List Nat, TL.joinL [58] (sp a) = a
  | [] => rfl
  | c :: r => by
    have ih := join_sp r
    by_cases h : c = 58
    · subst h
      rw [sp_col]
      cases e : sp r with
      | nil => exact absurd e (sp_ne r)
      | cons x t =>
        rw [e] at ih
        show [] ++ ([58] ++ TL.joinL [58] (x :: t)) = _
        rw [ih]; rfl
    · rw [sp_oth r h]
      cases e : sp r with
      | nil => exact absurd e (sp_ne r)
      | cons x t =>
        rw [e] at ih
        cases t with
        | nil => show c :: x = _; rw [← ih]; rfl
        | cons y t =>
          show (c :: x) ++ ([58] ++ TL.joinL [58] (y :: t)) = _
          rw [← ih]; rfl
theorem sp_join {ps : List (List Nat)} (h : ps ≠ []) (hp : ∀ p ∈ ps, 58 ∉ p) : sp (TL.joinL [58] ps) = ps := by
  have e := TL.spl_join (S := []) h hp
  rw [spl_sp] at e
  cases q : sp (TL.joinL [58] ps) with
  | nil => exact absurd q (sp_ne _)
  | cons x t => rw [q] at e; exact e
/-- what a name is -/
def nameOk (a : List Nat) : Bool := decide ((a.length : Int) ≤ 12) && a.all (fun c => decide (c ∈ tl abcT)) && !(a == [])
def nameV : LV → Bool
  | .str z => nameOk (tl z)
  | _ => false
def pathOk (a : List Nat) : Bool := decide ((sp a).length ≤ 6) && (sp a).all nameOk
theorem abc_iff (c : Nat) : c ∈ tl abcT ↔ 97 ≤ c ∧ c ≤ 122 := by
  rw [show tl abcT = [97, 98, 99, 100, 101, 102, 103, 104, 105, 106, 107, 108, 109, 110, 111, 112, 113, 114, 115, 116, 117, 118, 119, 120, 121, 122] by decide]
  simp
  omega
theorem nameOk_free {a : List Nat} (h : nameOk a = true) : 58 ∉ a := fun m => by
  unfold nameOk at h
  simp only [Bool.and_eq_true] at h
  have := (abc_iff 58).mp (of_decide_eq_true (List.all_eq_true.mp h.1.2 58 m))
  omega
/-- a list's own loop, where each turn leaves the store -/
theorem for_fixAux (lg : LG) (fb : LS) (G : Sl → Prop) (n : Nat) (xs : List LV) (S : Sto) (hn : S[n]? = some (.lst xs))
    (h : ∀ v ∈ xs, ∀ ds ds1, G ds → lg v S ds = some ds1 → match fb ds1 S with | .nx ds2 S2 => S2 = S ∧ G ds2 | .ct ds2 S2 => S2 = S ∧ G ds2 | _ => True) :
    ∀ (k i : Nat) (ds : Sl), i + k = xs.length → G ds → forK (itRef n xs.length) lg fb k i ds S = forL lg fb (xs.drop i) ds S
  | 0, i, ds, e, g => by
    have : xs.drop i = [] := List.drop_eq_nil_of_le (by omega)
    rw [this]
    unfold forK forL
    show (if refF n xs.length S = true then _ else _) = _
    unfold refF
    rw [hn]
    simp
  | k + 1, i, ds, e, g => by
    have hi : i < xs.length := by omega
    rw [List.drop_eq_getElem_cons hi]
    have e1 : xs[i]? = some xs[i] := List.getElem?_eq_getElem hi
    unfold forK forL
    have e2 : (itRef n xs.length).item i S = some xs[i] := by
      show refI n xs.length i S = _
      unfold refI
      rw [hn]
      simp [e1]
    rw [e2]
    simp only
    cases hl : lg xs[i] S ds with
    | none => rfl
    | some ds1 =>
      simp only
      have q := h xs[i] (List.getElem_mem hi) ds ds1 g hl
      cases h2 : fb ds1 S with
      | nx ds2 S2 => rw [h2] at q; obtain ⟨rfl, g2⟩ := q; exact for_fixAux lg fb G n xs S2 hn h k (i + 1) ds2 (by omega) g2
      | ct ds2 S2 => rw [h2] at q; obtain ⟨rfl, g2⟩ := q; exact for_fixAux lg fb G n xs S2 hn h k (i + 1) ds2 (by omega) g2
      | _ => rfl
theorem forS_fix {lg : LG} {fb : LS} {n : Nat} {xs : List LV} {S : Sto} {ds : Sl} (G : Sl → Prop) (hn : S[n]? = some (.lst xs))
    (h : ∀ v ∈ xs, ∀ ds ds1, G ds → lg v S ds = some ds1 → match fb ds1 S with | .nx ds2 S2 => S2 = S ∧ G ds2 | .ct ds2 S2 => S2 = S ∧ G ds2 | _ => True) (g : G ds) :
    forS lg fb ds (.ok (itRef n xs.length) S) = forL lg fb xs ds S := by
  show forK (itRef n xs.length) lg fb xs.length 0 ds S = _
  rw [for_fixAux lg fb G n xs S hn h _ _ _ (by omega) g, List.drop_zero]
theorem iter_ref {n : Nat} {xs : List LV} {S : Sto} (hn : S[n]? = some (.lst xs)) : iterO (.ref n) S = .ok (itRef n xs.length) S := by simp [iterO, hn]
theorem len_ref {n : Nat} {xs : List LV} {S : Sto} (hn : S[n]? = some (.lst xs)) : lenL [.ref n] S = .ok (.int xs.length) S := by simp [lenL, lenO, hn]
/-- a value that may be asked as a name -/
structure Nv (S : Sto) (v : LV) : Prop where
  ok : Okv S v
  sz : ∀ z, v = .str z → z.length ≤ 16777216
theorem Nv.nx {S : Sto} {v : LV} (h : Nv S v) : isX v = false := h.ok.nx
theorem Nv.str {S : Sto} {z : Str} (h : z.length ≤ 16777216) : Nv S (.str z) := ⟨Okv.str z, fun y e => by cases e; exact h⟩
theorem starts_pre {x y : Str} (hy : tl y ≠ []) : Txt.startswith x y = ((tl x).take (tl y).length == tl y) := by
  have h := TL.at_iff (x := x) (y := y) hy 0
  have hl : TL.tl x = tl x := rfl
  have hl2 : TL.tl y = tl y := rfl
  rw [hl, hl2, List.drop_zero] at h
  cases c : ((tl x).take (tl y).length == tl y) with
  | true =>
    obtain ⟨h1, h2⟩ := h.mpr c
    unfold Txt.startswith
    rw [decide_eq_true h1, h2]; rfl
  | false =>
    cases q : Txt.startswith x y with
    | false => rfl
    | true =>
      unfold Txt.startswith at q
      rw [Bool.and_eq_true] at q
      have := h.mp ⟨of_decide_eq_true q.1, q.2⟩
      have c' : TL.pre (tl y) (tl x) = false := c
      rw [c'] at this
      cases this
theorem sum_le : ∀ (ys : List Str) (m : Nat), (∀ y ∈ ys, y.length ≤ m) → (ys.map (·.length)).sum ≤ ys.length * m
  | [], m, _ => by simp
  | y :: ys, m, h => by
    have := sum_le ys m fun z hz => h z (List.mem_cons_of_mem _ hz)
    have hy := h y (List.mem_cons_self ..)
    rw [List.map_cons, List.sum_cons, List.length_cons, Nat.add_mul]
    omega
theorem get_more {S U : Sto} {n : Nat} {o : LO} (h : S[n]? = some o) : (S ++ U)[n]? = some o := by
  rw [List.getElem?_append_left (List.getElem?_eq_some_iff.mp h).1]; exact h
theorem cut_take {α : Type} (xs : List α) {j : Int} (h : 0 ≤ j) : cutL xs none (some j) = xs.take j.toNat := by
  unfold cutL
  show (xs.drop 0).take ((if j < 0 then (j + (xs.length : Int)).toNat else min j.toNat xs.length) - 0) = _
  rw [if_neg (by omega), List.drop_zero, Nat.sub_zero, ← List.take_take, List.take_length]
theorem sl_ref {t : Bool} {S : Sto} {n : Nat} {xs : List LV} {lo hi : Option Int} (h : S[n]? = some (.lst xs)) : slG t (.ref n) lo hi S = newL t (cutL xs lo hi) S := sl_ls (ls_r h)
theorem items_ls {v : LV} {S : Sto} {xs : List LV} (h : lsO v S = some xs) : itemsO v S = some xs := by
  unfold itemsO
  split
  · cases h
  · cases h
  · cases h
  · exact h
/-- texts joined by colons -/
theorem joinC {v : LV} {S : Sto} {ys : List Str} {m : Nat} (hn : lsO v S = some (ys.map .str)) (h : ∀ y ∈ ys, y.length ≤ m) (hs : ys.length * m + ys.length ≤ 16777216) : joinL2 (.str colT) [v] S = .ok (.str (Txt.join colT ys)) S := by
  have := sum_le ys m h
  have c1 : colT.length = 1 := rfl
  simp only [joinL2, items_ls hn, strsL_map, c1]
  rw [if_pos (decide_eq_true (by omega))]
/-- the signs of a text between its colons are its own -/
theorem sp_all (p : Nat → Bool) : ∀ a : List Nat, (sp a).all (fun x => x.all p) = a.all (fun c => c == 58 || p c)
  | [] => rfl
  | c :: r => by
    by_cases h : c = 58
    · subst h
      rw [sp_col, List.all_cons, List.all_cons, sp_all p r]
      simp
    · rw [sp_oth r h, List.all_cons, ← sp_all p r, beq_false_of_ne h, Bool.false_or]
      cases e : sp r with
      | nil => exact absurd e (sp_ne r)
      | cons x t => simp [Bool.and_assoc]
end LL


set_option Elab.async false
set_option linter.all false
set_option maxRecDepth 100000
set_option maxHeartbeats 2000000
/-! The logical layer: values compared as data. -/
namespace LL
open PySem PySem.Spec PyProof.Rows L2
/-- a value that is compared as data, of so much depth -/
def fz : Nat → LV → Bool
  | _, .non => true
  | _, .bl _ => true
  | _, .int _ => true
  | _, .str z => PyData.strOk z
  | f + 1, .tup xs => xs.all (fz f)
  | f + 1, .lst xs => xs.all (fz f)
  | _, _ => false
mutual
def veq : LV → LV → Bool
  | .non, .non => true
  | .bl a, .bl b => a == b
  | .bl a, .int j => (if a = true then 1 else 0) == j
  | .int i, .bl b => i == (if b = true then 1 else 0)
  | .int i, .int j => i == j
  | .str x, .str y => tl x == tl y
  | .tup xs, .tup ys => veqs xs ys
  | .lst xs, .lst ys => veqs xs ys
  | _, _ => false
def veqs : List LV → List LV → Bool
  | [], [] => true
  | x :: xs, y :: ys => veq x y && veqs xs ys
  | _, _ => false
end
mutual
def pd : LV → PyData
  | .bl b => .bool b
  | .int i => .int i
  | .str z => .str z
  | .tup xs => .tuple (pds xs)
  | .lst xs => .list (pds xs)
  | _ => .none
def pds : List LV → List PyData
  | [] => []
  | x :: xs => pd x :: pds xs
end
theorem all_cons {f : LV → Bool} {x : LV} {xs : List LV} (h : (x :: xs).all f = true) : f x = true ∧ xs.all f = true := by
  rw [List.all_cons, Bool.and_eq_true] at h
  exact h
theorem dat_pds {S : Sto} {f : Nat} (ih : ∀ v, fz f v = true → dat S f v = some (pd v)) : ∀ xs : List LV, xs.all (fz f) = true → seqO (xs.map (dat S f)) = some (pds xs)
  | [], _ => rfl
  | x :: xs, h => by
    obtain ⟨h1, h2⟩ := all_cons h
    rw [List.map_cons, ih x h1]
    unfold seqO
    rw [dat_pds ih xs h2]
    rfl
theorem dat_pd {S : Sto} : ∀ (f : Nat) (v : LV), fz f v = true → dat S f v = some (pd v) := by
  intro f
  induction f with
  | zero => intro v h; cases v <;> first | rfl | cases h
  | succ f ih =>
    intro v h
    cases v with
    | tup xs => unfold dat; rw [dat_pds ih xs h]; rfl
    | lst xs => unfold dat; rw [dat_pds ih xs h]; rfl
    | _ => first | rfl | cases h
theorem lay_pds {f : Nat} (ih : ∀ v, fz f v = true → PyData.canLay0 (pd v) = true ∧ PyData.depth (pd v) ≤ f) : ∀ xs : List LV, xs.all (fz f) = true → PyData.canLayAll0 (pds xs) = true ∧ PyData.depthAll (pds xs) ≤ f
  | [], _ => ⟨rfl, Nat.zero_le _⟩
  | x :: xs, h => by
    obtain ⟨h1, h2⟩ := all_cons h
    obtain ⟨a1, a2⟩ := ih x h1
    obtain ⟨b1, b2⟩ := lay_pds ih xs h2
    unfold pds PyData.canLayAll0 PyData.depthAll
    rw [a1, b1]
    exact ⟨rfl, by omega⟩
theorem lay_pd : ∀ (f : Nat) (v : LV), fz f v = true → PyData.canLay0 (pd v) = true ∧ PyData.depth (pd v) ≤ f := by
  intro f
  induction f with
  | zero =>
    intro v h
    cases v with
    | str z => exact ⟨h, Nat.le_refl _⟩
    | non => exact ⟨rfl, Nat.zero_le _⟩
    | bl b => exact ⟨rfl, Nat.zero_le _⟩
    | int b => exact ⟨rfl, Nat.zero_le _⟩
    | _ => cases h
  | succ f ih =>
    intro v h
    cases v with
    | str z => exact ⟨h, Nat.zero_le _⟩
    | non => exact ⟨rfl, Nat.zero_le _⟩
    | bl b => exact ⟨rfl, Nat.zero_le _⟩
    | int b => exact ⟨rfl, Nat.zero_le _⟩
    | tup xs =>
      obtain ⟨a, b⟩ := lay_pds ih xs h
      unfold pd PyData.canLay0 PyData.depth
      exact ⟨a, by omega⟩
    | lst xs =>
      obtain ⟨a, b⟩ := lay_pds ih xs h
      unfold pd PyData.canLay0 PyData.depth
      exact ⟨a, by omega⟩
    | _ => cases h
theorem sbeq (y z : Str) : (y == z) = (tl y == tl z) := by
  by_cases h : y = z
  · subst h; rw [beq_self_eq_true, beq_self_eq_true]
  · rw [beq_false_of_ne h, beq_false_of_ne fun k => h (tl_ext k)]
theorem eqv_pds {f : Nat} (ih : ∀ v w g, fz f v = true → fz g w = true → PyData.eqv (pd v) (pd w) = veq v w) : ∀ (xs ys : List LV) (g : Nat), xs.all (fz f) = true → ys.all (fz g) = true → PyData.eqvAll (pds xs) (pds ys) = veqs xs ys
  | [], [], _, _, _ => rfl
  | [], _ :: _, _, _, _ => rfl
  | _ :: _, [], _, _, _ => rfl
  | x :: xs, y :: ys, g, h, k => by
    obtain ⟨h1, h2⟩ := all_cons h
    obtain ⟨k1, k2⟩ := all_cons k
    unfold pds PyData.eqvAll veqs
    rw [ih x y g h1 k1, eqv_pds ih xs ys g h2 k2]
theorem eqv_pd : ∀ (f : Nat) (v w : LV) (g : Nat), fz f v = true → fz g w = true → PyData.eqv (pd v) (pd w) = veq v w := by
  intro f
  induction f with
  | zero =>
    intro v w g h k
    cases v <;> first
      | (cases h; done)
      | (cases w <;> first | (cases g <;> cases k <;> done) | (unfold pd PyData.eqv veq; first | rfl | exact sbeq _ _))
  | succ f ih =>
    intro v w g h k
    cases v with
    | tup xs =>
      cases w with
      | tup ys =>
        cases g with
        | zero => cases k
        | succ g => unfold pd PyData.eqv veq; exact eqv_pds ih xs ys g h k
      | _ => first | (cases g <;> cases k <;> done) | (unfold pd PyData.eqv veq; rfl)
    | lst xs =>
      cases w with
      | lst ys =>
        cases g with
        | zero => cases k
        | succ g => unfold pd PyData.eqv veq; exact eqv_pds ih xs ys g h k
      | _ => first | (cases g <;> cases k <;> done) | (unfold pd PyData.eqv veq; rfl)
    | _ => first
      | (cases h; done)
      | (cases w <;> first | (cases g <;> cases k <;> done) | (unfold pd PyData.eqv veq; first | rfl | exact sbeq _ _))
theorem eqS_veq {v w : LV} {b : Bool} (h : eqS v w = some b) : b = veq v w := by
  unfold eqS at h
  split at h <;> first
    | (cases h; unfold veq; rfl)
    | (cases h; unfold veq; exact (tl_beq _ _))
    | (cases h; unfold veq; rename_i i j; cases i <;> cases j <;> rfl)
    | cases h
theorem shaped_fz {v : LV} (h : fz 60 v = true) : SeqAt.shaped (pd v) = true := by
  obtain ⟨a, b⟩ := lay_pd 60 v h
  unfold SeqAt.shaped
  rw [a, Bool.true_and, decide_eq_true (by omega)]
theorem eqV_fz {v w : LV} {S : Sto} (hv : fz 60 v = true) (hw : fz 60 w = true) : eqV2 v w S = some (veq v w) := by
  unfold eqV2
  cases e : eqS v w with
  | some b => rw [eqS_veq e]
  | none =>
    simp only
    rw [dat_pd 60 v hv, dat_pd 60 w hw]
    simp only
    rw [shaped_fz hv, shaped_fz hw, ← eqv_pd 60 v w 60 hv hw]
    rfl
theorem eq_fz {v w : LV} {S : Sto} (hv : fz 60 v = true) (hw : fz 60 w = true) : eqL v w S = .ok (.bl (veq v w)) S := by
  unfold eqL; rw [eqV_fz hv hw]
theorem ne_fz {v w : LV} {S : Sto} (hv : fz 60 v = true) (hw : fz 60 w = true) : neL v w S = .ok (.bl !(veq v w)) S := by
  unfold neL; rw [eqV_fz hv hw]
theorem veqs_refl {f : Nat} (ih : ∀ v, fz f v = true → veq v v = true) : ∀ xs : List LV, xs.all (fz f) = true → veqs xs xs = true
  | [], _ => by unfold veqs; rfl
  | x :: xs, h => by
    obtain ⟨h1, h2⟩ := all_cons h
    unfold veqs
    rw [ih x h1, veqs_refl ih xs h2]; rfl
theorem veq_refl : ∀ (f : Nat) (v : LV), fz f v = true → veq v v = true := by
  intro f
  induction f with
  | zero => intro v h; cases v <;> first | (cases h; done) | (unfold veq; simp)
  | succ f ih =>
    intro v h
    cases v with
    | tup xs => unfold veq; exact veqs_refl ih xs h
    | lst xs => unfold veq; exact veqs_refl ih xs h
    | _ => first | (cases h; done) | (unfold veq; simp)
theorem eq_same {v : LV} {S : Sto} (hv : fz 60 v = true) : eqL v v S = .ok (.bl true) S := by rw [eq_fz hv hv, veq_refl 60 v hv]
theorem ne_same {v : LV} {S : Sto} (hv : fz 60 v = true) : neL v v S = .ok (.bl false) S := by rw [ne_fz hv hv, veq_refl 60 v hv]; rfl
/-- a list with a number, compared -/
theorem eqV_ref {S : Sto} {n : Nat} {xs : List LV} {w : LV} (h : S[n]? = some (.lst xs)) : eqV2 (.ref n) w S = eqV2 (.lst xs) w S ∧ eqV2 w (.ref n) S = eqV2 w (.lst xs) S := by
  have d : dat S 60 (.ref n) = dat S 60 (.lst xs) := by
    show (match S[n]? with | some (.lst xs) => _ | _ => none) = _
    rw [h]; rfl
  unfold eqV2
  constructor
  · rw [show eqS (.ref n) w = none by cases w <;> rfl, show eqS (.lst xs) w = none by cases w <;> rfl, d]
  · rw [show eqS w (.ref n) = none by cases w <;> rfl, show eqS w (.lst xs) = none by cases w <;> rfl, d]
theorem eq_refL {S : Sto} {n : Nat} {xs : List LV} {w : LV} (h : S[n]? = some (.lst xs)) : eqL (.ref n) w S = eqL (.lst xs) w S := by unfold eqL; rw [(eqV_ref h).1]
theorem eq_refR {S : Sto} {n : Nat} {xs : List LV} {w : LV} (h : S[n]? = some (.lst xs)) : eqL w (.ref n) S = eqL w (.lst xs) S := by unfold eqL; rw [(eqV_ref h).2]
theorem ne_refL {S : Sto} {n : Nat} {xs : List LV} {w : LV} (h : S[n]? = some (.lst xs)) : neL (.ref n) w S = neL (.lst xs) w S := by unfold neL; rw [(eqV_ref h).1]
theorem ne_refR {S : Sto} {n : Nat} {xs : List LV} {w : LV} (h : S[n]? = some (.lst xs)) : neL w (.ref n) S = neL w (.lst xs) S := by unfold neL; rw [(eqV_ref h).2]
section
variable {f : Nat} {i j : Int} {y z : Str} {b c : Bool} {xs ys : List LV} {v w : LV}
@[simp] theorem fz_non : fz f .non = true := by cases f <;> rfl
@[simp] theorem fz_bl : fz f (.bl b) = true := by cases f <;> rfl
@[simp] theorem fz_int : fz f (.int i) = true := by cases f <;> rfl
@[simp] theorem fz_str : fz f (.str z) = PyData.strOk z := by cases f <;> rfl
@[simp] theorem fz_tup : fz (f + 1) (.tup xs) = xs.all (fz f) := (rfl)
@[simp] theorem fz_lst : fz (f + 1) (.lst xs) = xs.all (fz f) := (rfl)
theorem fz_tup' {n : Nat} : fz n (.tup xs) = (decide (0 < n) && xs.all (fz (n - 1))) := by cases n <;> rfl
theorem fz_lst' {n : Nat} : fz n (.lst xs) = (decide (0 < n) && xs.all (fz (n - 1))) := by cases n <;> rfl
@[simp] theorem veq_ii : veq (.int i) (.int j) = (i == j) := (rfl)
@[simp] theorem veq_ss : veq (.str y) (.str z) = (tl y == tl z) := (rfl)
@[simp] theorem veq_bb : veq (.bl b) (.bl c) = (b == c) := (rfl)
@[simp] theorem veq_nn : veq .non .non = true := (rfl)
@[simp] theorem veq_tt : veq (.tup xs) (.tup ys) = veqs xs ys := (rfl)
@[simp] theorem veq_ll : veq (.lst xs) (.lst ys) = veqs xs ys := (rfl)
@[simp] theorem veqs_nil : veqs [] [] = true := (rfl)
@[simp] theorem veqs_cons : veqs (v :: xs) (w :: ys) = (veq v w && veqs xs ys) := (rfl)
@[simp] theorem veqs_nc : veqs [] (w :: ys) = false := (rfl)
@[simp] theorem veqs_cn : veqs (v :: xs) [] = false := (rfl)
theorem veqs_map {α : Type} [DecidableEq α] {e : α → LV} (h : ∀ a b, veq (e a) (e b) = decide (a = b)) : ∀ as bs : List α, veqs (as.map e) (bs.map e) = decide (as = bs)
  | [], [] => rfl
  | [], _ :: _ => rfl
  | _ :: _, [] => rfl
  | a :: as, b :: bs => by
    rw [List.map_cons, List.map_cons, veqs_cons, h, veqs_map h as bs]
    by_cases e1 : a = b
    · subst e1
      by_cases e2 : as = bs
      · subst e2; simp
      · simp [e2]
    · simp [e1]
theorem fz_strOk {n : Nat} {z : Str} (h : Fine n z) : PyData.strOk z = true := h.ok
end
end LL


set_option Elab.async false
set_option linter.all false
set_option maxRecDepth 100000
set_option maxHeartbeats 2000000
/-! The logical layer: own classes: fields, methods, C(..). -/
namespace LL
open PySem PySem.Spec PyProof.Rows L2
/-! ### names in a row -/
def idxF : List Str → Str → Option Nat
  | [], _ => none
  | x :: xs, f => if x = f then some 0 else match idxF xs f with
    | some i => some (i + 1)
    | none => none
theorem lookup_idx {f : Str} : ∀ {nm : List Str} {ws : List (Str × V)} {i k : Nat} {v : V}, ws.map (·.1) = nm.take k → idxF nm f = some i → (ws.map (·.2))[i]? = some v → ws.lookup f = some v
  | [], ws, i, k, v, e, h, hv => by cases h
  | n :: nm, [], i, k, v, e, h, hv => by simp at hv
  | n :: nm, (g, x) :: ws, i, 0, v, e, h, hv => by simp at e
  | n :: nm, (g, x) :: ws, i, k + 1, v, e, h, hv => by
    simp only [List.map_cons, List.take_succ_cons, List.cons.injEq] at e
    obtain ⟨rfl, e⟩ := e
    unfold idxF at h
    rw [List.lookup_cons]
    split at h
    · rename_i q
      subst q
      cases h
      simp at hv
      rw [beq_self_eq_true, hv]
    · rename_i q
      rw [beq_false_of_ne (fun z => q z.symm)]
      split at h
      · rename_i j hj
        cases h
        exact lookup_idx e hj (by simpa using hv)
      · cases h
theorem lookup_no {m : Str} : ∀ {nm : List Str} {ws : List (Str × V)} {k : Nat}, ws.map (·.1) = nm.take k → idxF nm m = none → ws.lookup m = none
  | nm, [], k, e, h => rfl
  | [], (g, x) :: ws, k, e, h => by simp at e
  | n :: nm, (g, x) :: ws, 0, e, h => by simp at e
  | n :: nm, (g, x) :: ws, k + 1, e, h => by
    simp only [List.map_cons, List.take_succ_cons, List.cons.injEq] at e
    obtain ⟨rfl, e⟩ := e
    unfold idxF at h
    rw [List.lookup_cons]
    split at h
    · cases h
    · rename_i q
      rw [beq_false_of_ne (fun z => q z.symm)]
      split at h
      · cases h
      · rename_i hj
        exact lookup_no e hj
/-- a field's new value -/
def setAt (i : Nat) (u : α) (vs : List α) : List α := if i < vs.length then vs.set i u else vs ++ [u]
theorem putF_idx {f : Str} {y : V} : ∀ {nm : List Str} {ws : List (Str × V)} {i k : Nat}, ws.map (·.1) = nm.take k → k = ws.length → idxF nm f = some i → i ≤ k → (putF f y ws).map (·.1) = nm.take (setAt i y (ws.map (·.2))).length ∧ (putF f y ws).map (·.2) = setAt i y (ws.map (·.2))
  | [], ws, i, k, e, ek, h, hi => by cases h
  | n :: nm, [], i, k, e, ek, h, hi => by
    simp at ek
    subst ek
    have : i = 0 := by omega
    subst this
    unfold idxF at h
    split at h
    · rename_i q
      subst q
      exact ⟨rfl, rfl⟩
    · split at h
      · cases h
      · cases h
  | n :: nm, (g, x) :: ws, i, 0, e, ek, h, hi => by simp at e
  | n :: nm, (g, x) :: ws, i, k + 1, e, ek, h, hi => by
    simp only [List.map_cons, List.take_succ_cons, List.cons.injEq] at e
    obtain ⟨rfl, e⟩ := e
    simp only [List.length_cons, Nat.add_right_cancel_iff] at ek
    unfold idxF at h
    unfold putF
    split at h
    · rename_i q
      subst q
      cases h
      rw [if_pos rfl]
      unfold setAt
      simp only [List.map_cons, List.length_cons, List.length_map, Nat.zero_lt_succ, if_true, List.set_cons_zero, List.take_succ_cons, List.cons.injEq, true_and, and_true]
      rw [e, ek]
    · rename_i q
      rw [if_neg q]
      split at h
      · rename_i j hj
        cases h
        obtain ⟨h1, h2⟩ := putF_idx (y := y) e ek hj (by omega)
        unfold setAt at h1 h2 ⊢
        simp only [List.map_cons, List.length_cons, List.length_map, Nat.add_lt_add_iff_right] at h1 h2 ⊢
        rw [h1, h2]
        by_cases c : j < ws.length
        · simp [c]
        · simp [c]
      · cases h
theorem rvs_setAt {K : PySem.W.Frag} {m : List Addr} {H : Hp} {vs : List LV} {xs : List V} {v : LV} {x : V} (i : Nat) (h : RVs K m H vs xs) (rv : RV K m H v x) : RVs K m H (setAt i v vs) (setAt i x xs) := by
  unfold setAt
  rw [← h.len]
  split
  · exact h.set i rv
  · exact h.append (RVs.cons rv RVs.nil)
/-! ### o.f -/
def fldO (c i : Nat) (v : LV) (S : Sto) : Option LV := match v with
  | .ref n => match S[n]? with
    | some (.ins d vs) => if d = c then vs[i]? else none
    | _ => none
  | _ => none
def fldL (c i : Nat) : Op1 := fun v S => match fldO c i v S with
  | some u => .ok u S
  | none => .no
def pfO (c i : Nat) (v u : LV) (S : Sto) : Option Sto := match v with
  | .ref n => match S[n]? with
    | some (.ins d vs) => if d = c ∧ i ≤ vs.length ∧ vs.length < 900 then some (S.set n (.ins d (setAt i u vs))) else none
    | _ => none
  | _ => none
def lSfl (c i : Nat) (fv fo : LE) : LS := fun ds S => bindS (fv ds S) ds fun u S1 => bindS (fo ds S1) ds fun v S2 => match pfO c i v u S2 with
  | some S3 => .nx ds S3
  | none => .no
section
variable {X : Cx} {T : Env1} {ξ : Xi} {W : WX} {e o : Expr} {f m : Str} {pos pos' apos p : Pos} {fa fv fo : LE} {ga : LA} {c i k : Nat} {C : Addr} {nm : List Str} {es : List Expr}
theorem pl_fld (hC : T.ca c = C) (hN : T.fl c = nm) (hi : idxF nm f = some i) (cl : Cls X.K C) (na : NoAttr X.K C f) (he : PE X e (tL X.K T ξ W fa)) (hb : attributeBase e f X.env (eval e X.env) = eval e X.env := by rfl) : PE X (.Attribute e f pos) (tL X.K T ξ W (lUn (fldL c i) fa)) :=
  pe_imp (pe_fld he hb) fun σ H Q ⟨m, S, ds, r0, rs, h⟩ => tL.bind r0 rs h fun v S1 m1 H1 x E r1 rs1 rv h1 => by
    unfold fldL at h1
    split at h1
    · rename_i u hu
      unfold fldO at hu
      split at hu
      · split at hu
        · rename_i n d vs hn
          split at hu
          · rename_i q
            subst q
            unfold RV at rv
            obtain ⟨a, rfl, hm⟩ := rv
            obtain ⟨dx, ws, h2, h3, h4⟩ := r1.at hm hn
            obtain ⟨z, hz, rz⟩ := h4.get hu
            rw [hN] at h3
            rw [hC] at h2
            exact ⟨a, C, dx, ws, z, rfl, h2, cl, na, lookup_idx h3 hi hz, h1.here r1 rz⟩
          · cases hu
        · cases hu
      · cases hu
    · exact h1.elim
theorem sl_fld (hC : T.ca c = C) (hN : T.fl c = nm) (hi : idxF nm f = some i) (cl : Cls X.K C) (na : NoAttr X.K C f) (hv : PE X e (tL X.K T ξ W fv)) (ho : PE X o (tL X.K T ξ W fo)) (hs : swapsWith e (some (.Attribute o f pos')) pos.line X.env = pure false := by rfl) :
    PS X (.Assign [.Attribute o f pos'] e pos) (tLS X.K T ξ W (lSfl c i fv fo)) :=
  ps_imp (ps_fld ho hv hs) fun D σ H ⟨m, S, ds, r, rs, h⟩ => tL.bindS r rs h fun u S1 m1 H1 y E r1 rs1 ru h1 => tL.bindS r1 rs1 h1 fun v S2 m2 H2 x E2 r2 rs2 rv h2 => by
    split at h2
    · rename_i S3 hS
      unfold pfO at hS
      split at hS
      · split at hS
        · rename_i n d vs hn
          split at hS
          · rename_i q
            obtain ⟨rfl, q1, q2⟩ := q
            cases hS
            unfold RV at rv
            obtain ⟨a, rfl, hm⟩ := rv
            obtain ⟨dx, ws, w2, w3, w4⟩ := r2.at hm hn
            rw [hN] at w3
            rw [hC] at w2
            have hl : vs.length = ws.length := by rw [w4.len, List.length_map]
            refine ⟨a, C, dx, ws, rfl, w2, cl, na, by omega, ?_⟩
            obtain ⟨p1, p2⟩ := putF_idx (y := y) w3 hl hi q1
            have EW : Ext m2 H2 m2 (upd H2 a (.ins C dx (putF f y ws))) := Ext.write r2 (List.mem_of_getElem? hm) w2
            have rn := rvs_setAt i w4 (ru.mono E2)
            refine h2 m2 _ σ EW (r2.write hm w2 ⟨dx, putF f y ws, by rw [hC]; exact upd_same, ?_, ?_⟩) (rs2.mono EW)
            · rw [hN, p1, rn.len]
            · rw [p2]
              exact rn.mono EW
          · cases hS
        · cases hS
      · cases hS
    · exact h2.elim
/-! ### o.m(..) -/
def clsO (v : LV) (S : Sto) : Option Nat := match v with
  | .ref n => match S[n]? with
    | some (.ins d _) => some d
    | _ => none
  | _ => none
def methK (tab : Nat → Option Fn) (fa : LA) (ds : Sl) : LV → Sto → R := fun v S => match clsO v S with
  | some d => match tab d with
    | some g => (fa ds S).bind fun vs S2 => g (v :: vs) S2
    | none => .no
  | none => .no
def lMeth (tab : Nat → Option Fn) (fo : LE) (fa : LA) : LE := fun ds S => (fo ds S).bind (methK tab fa ds)
def tabA : List (Nat × Fn) → Nat → Option Fn
  | [], _ => none
  | (c, g) :: l, d => if c = d then some g else tabA l d
/-- what is known of a method of a class -/
def MeF (X : Cx) (T : Env1) (m : Str) (c : Nat) (g : Fn) : Prop := ∃ (C f : Addr) (fd : FuncData) (ps nm : List Str) (k : Nat), T.ca c = C ∧ T.fl c = nm ∧ Cls X.K C ∧ Meth X.K C m f ∧ idxF nm m = none ∧ FnOk X.prog X.w X.K X.mg X.base (L2N.CX X.prog X.w) k f fd ps (spF X.K T g) ∧ Room k X.A ∧ Binds X.K fd ps []
def AllM (X : Cx) (T : Env1) (m : Str) : List (Nat × Fn) → Prop
  | [] => True
  | (c, g) :: l => MeF X T m c g ∧ AllM X T m l
theorem tab_all {m : Str} : ∀ {l : List (Nat × Fn)}, AllM X T m l → ∀ c g, tabA l c = some g → MeF X T m c g
  | [], _, c, g, h => by cases h
  | (d, e) :: l, a, c, g, h => by
    unfold tabA at h
    split at h
    · rename_i q
      subst q
      cases h
      exact a.1
    · exact tab_all a.2 c g h
/-- the rule's question -/
def tMethU (X : Cx) (m : Str) (E : L2.St → XK) (ta : TE) (t : TA) : TE := fun σ H Q => ta σ H fun x H1 => ∃ (a C dx f : Addr) (fs : List (Str × V)) (fd : FuncData) (ps : List Str) (k : Nat) (sp : Sp), x = .ref a ∧ H1 a = some (.ins C dx fs) ∧ Cls X.K C ∧ Meth X.K C m f ∧ fs.lookup m = none ∧
  FnOk X.prog X.w X.K X.mg X.base (L2N.CX X.prog X.w) k f fd ps sp ∧ Room k X.A ∧ Binds X.K fd ps [] ∧ t σ H1 fun vs H2 => sp (x :: vs) H2 Q (E σ)
theorem pe_methU {pl : Sem Bool} {E : L2.St → XK} {ta : TE} {t : TA} (he : PE X o ta) (hx : ∀ σ, PassesAt (L2N.CX X.prog X.w) X σ (E σ)) (ha : PA X (e :: es) t)
    (hst : starEach (e :: es) X.env = (false, eval e X.env) :: starEach es X.env := by rfl) (hpl : (backTo pos (starEach es X.env)).any (·.1) = false := by rfl)
    (ht : eval (.Call (.Attribute o m apos) (e :: es) [] pos) X.env = (do
      let ov ← eval o X.env
      standAt apos.atName
      let (f, first) ← holding [ov] (getMethod ov m pl)
      callWith pos f first (backTo pos (starEach (e :: es) X.env)) (backToKw pos (keywordEach [] X.env))) := by rfl) :
    PE X (.Call (.Attribute o m apos) (e :: es) [] pos) (tMethU X m E ta t) := by
  refine ⟨fun pins s σ H Q I h => ?_⟩
  refine PySem.W.methodCall_KW (pl := pl) (thn (he.run pins s σ H _ I h) fun u s1 ⟨x, H1, I1, rx, a, C, dx, f, fs, fd, ps, k, sp, ex, ea, c, hm, l, F, hr, hb, q⟩ => ?_) ht
  subst ex
  obtain rfl : u = Value.ref a := rx
  refine getmeth_ok I1 ea c hm l ?_
  refine PySem.W.callWith_K (first := [.ref a]) (h₀ := X.base) I.ok.mod.kin hm.kp (thn (ha.run pos pins s1 σ H1 _ I1 q) fun us s2 ⟨vs, H2, I2, r, q2⟩ => ⟨I2.kIn, ?_⟩) hst hpl
  exact run_fnS (us := .ref a :: us) (vs := .ref a :: vs) F hr hb (hx σ) I2 (.cons rfl r) q2
theorem pe_methU0 {pl : Sem Bool} {E : L2.St → XK} {ta : TE} (he : PE X o ta) (hx : ∀ σ, PassesAt (L2N.CX X.prog X.w) X σ (E σ))
    (ht : eval (.Call (.Attribute o m apos) [] [] pos) X.env = (do
      let ov ← eval o X.env
      standAt apos.atName
      let (f, first) ← holding [ov] (getMethod ov m pl)
      callWith pos f first (backTo pos (starEach [] X.env)) (backToKw pos (keywordEach [] X.env))) := by rfl) :
    PE X (.Call (.Attribute o m apos) [] [] pos) (tMethU X m E ta tNil) := by
  refine ⟨fun pins s σ H Q I h => ?_⟩
  refine PySem.W.methodCall_KW (pl := pl) (thn (he.run pins s σ H _ I h) fun u s1 ⟨x, H1, I1, rx, a, C, dx, f, fs, fd, ps, k, sp, ex, ea, c, hm, l, F, hr, hb, q⟩ => ?_) ht
  subst ex
  obtain rfl : u = Value.ref a := rx
  refine getmeth_ok I1 ea c hm l ?_
  exact PySem.W.callWith_K0 (first := [.ref a]) I1.kIn hm.kp (run_fnS (us := [.ref a]) (vs := [.ref a]) F hr hb (hx σ) I1 (.cons rfl .nil) q)
theorem meth_read {tab : Nat → Option Fn} {t : TA} (hM : ∀ c g, tab c = some g → MeF X T m c g)
    (ht : ∀ (g : Fn) (σ : L2.St) (m1 : List Addr) (S1 : Sto) (H1 : Hp) (ds : Sl) (v : LV) (x : V) (Q : VK), RelS X.K T m1 S1 H1 → RSl X.K ξ m1 H1 ds σ → RV X.K m1 H1 v x → PoE X.K T m1 H1 ((ga ds S1).bind fun vs S2 => g (v :: vs) S2) Q (fun cls d H' => W cls d σ H') → t σ H1 fun vs H2 => spF X.K T g (x :: vs) H2 Q (WE W σ)) :
    ∀ σ H Q, tL X.K T ξ W (lMeth tab fo ga) σ H Q → tMethU X m (WE W) (tL X.K T ξ W fo) t σ H Q :=
  fun σ H Q ⟨m', S, ds, r0, rs, h⟩ => tL.bind r0 rs h fun v S1 m1 H1 x E r1 rs1 rv h1 => by
    unfold methK at h1
    split at h1
    · rename_i d hd
      split at h1
      · rename_i g hg
        obtain ⟨C, f, fd, ps, nm, k, q1, q2, q3, q4, q5, q6, q7, q8⟩ := hM d g hg
        unfold clsO at hd
        split at hd
        · rename_i n
          split at hd
          · rename_i d' vs' hn
            cases hd
            have rv' := rv
            unfold RV at rv'
            obtain ⟨a, rfl, hm⟩ := rv'
            obtain ⟨dx, ws, w2, w3, w4⟩ := r1.at hm hn
            rw [q2] at w3
            rw [q1] at w2
            exact ⟨a, C, dx, f, ws, fd, ps, k, _, rfl, w2, q3, q4, lookup_no w3 q5, q6, q7, q8, ht g σ m1 S1 H1 ds _ _ Q r1 rs1 rv h1⟩
          · cases hd
        · cases hd
      · exact h1.elim
    · exact h1.elim
theorem pl_meth {pl : Sem Bool} {tab : Nat → Option Fn} (tk : L2N.Takes X W) (hM : ∀ c g, tab c = some g → MeF X T m c g) (ho : PE X o (tL X.K T ξ W fo)) (ha : PA X (e :: es) (tLA X.K T ξ W ga))
    (hst : starEach (e :: es) X.env = (false, eval e X.env) :: starEach es X.env := by rfl) (hpl : (backTo pos (starEach es X.env)).any (·.1) = false := by rfl)
    (ht : eval (.Call (.Attribute o m apos) (e :: es) [] pos) X.env = (do
      let ov ← eval o X.env
      standAt apos.atName
      let (f, first) ← holding [ov] (getMethod ov m pl)
      callWith pos f first (backTo pos (starEach (e :: es) X.env)) (backToKw pos (keywordEach [] X.env))) := by rfl) :
    PE X (.Call (.Attribute o m apos) (e :: es) [] pos) (tL X.K T ξ W (lMeth tab fo ga)) :=
  pe_imp (pe_methU (pl := pl) (E := WE W) ho (fun σ => L2N.passAt tk σ) ha hst hpl ht) (meth_read hM fun g σ m1 S1 H1 ds v x Q r1 rs1 rv h1 => tLA.bind r1 rs1 h1 fun vs S2 m2 H2 xs E r2 rs2 rvs h2 => ⟨m2, S2, v :: vs, r2, RVs.cons (rv.mono E) rvs, h2⟩)
theorem pl_meth0 {pl : Sem Bool} {tab : Nat → Option Fn} (tk : L2N.Takes X W) (hM : ∀ c g, tab c = some g → MeF X T m c g) (ho : PE X o (tL X.K T ξ W fo))
    (ht : eval (.Call (.Attribute o m apos) [] [] pos) X.env = (do
      let ov ← eval o X.env
      standAt apos.atName
      let (f, first) ← holding [ov] (getMethod ov m pl)
      callWith pos f first (backTo pos (starEach [] X.env)) (backToKw pos (keywordEach [] X.env))) := by rfl) :
    PE X (.Call (.Attribute o m apos) [] [] pos) (tL X.K T ξ W (lMeth tab fo lNil)) :=
  pe_imp (pe_methU0 (pl := pl) (E := WE W) ho (fun σ => L2N.passAt tk σ) ht) (meth_read hM fun g σ m1 S1 H1 ds v x Q r1 rs1 rv h1 => ⟨m1, S1, [v], r1, RVs.cons rv RVs.nil, h1⟩)
/-! ### C(..) -/
def mkO (c : Nat) (g : Fn) (vs : List LV) (S : Sto) : R := match g (.ref S.length :: vs) (S ++ [.ins c []]) with
  | .ok .non S2 => .ok (.ref S.length) S2
  | _ => .no
def lMake (c : Nat) (g : Fn) (fa : LA) : LE := fun ds S => (fa ds S).bind (mkO c g)
theorem pass_no : Passes (L2N.CX X.prog X.w) X fun _ _ _ => False := fun _ _ _ _ _ _ _ h => by
  obtain ⟨_, _, _, _, _, _, _, _, _, _, _, _, z⟩ := h
  exact z.elim
theorem make_read {g : Fn} {m : List Addr} {S : Sto} {H : Hp} {vs : List LV} {xs : List V} {Q : VK} {W : XK} (hC : T.ca c = C) (r : RelS X.K T m S H) (rv : RVs X.K m H vs xs) (h : PoE X.K T m H (mkO c g vs S) Q W) :
    ∀ x dx, H x = none → H dx = none → dx ≠ x → spF X.K T g (.ref x :: (xs ++ [])) (upd (upd H dx (.own x)) x (.ins C dx [])) (fun v H2 => v = .non ∧ Q (.ref x) H2) (fun _ _ _ => False) := fun x dx hx hdx hne => by
  have E1 : Ext m H m (upd H dx (.own x)) := Ext.side hdx
  have r1 := r.side (o := .own x) hdx
  have hx1 : upd H dx (.own x) x = none := by rw [upd_ne hne.symm]; exact hx
  have E2 : Ext m (upd H dx (.own x)) (m ++ [x]) (upd (upd H dx (.own x)) x (.ins C dx [])) := Ext.alloc r1 hx1
  have r2 : RelS X.K T (m ++ [x]) (S ++ [.ins c []]) (upd (upd H dx (.own x)) x (.ins C dx [])) := r1.alloc hx1 ⟨dx, [], by rw [hC]; exact upd_same, rfl, RVs.nil⟩
  have E := E1.trans E2
  have gx : (m ++ [x])[S.length]? = some x := by rw [← r.len, List.getElem?_append_right (Nat.le_refl _), Nat.sub_self] <;> rfl
  refine ⟨_, _, .ref S.length :: vs, r2, RVs.cons (by unfold RV; exact ⟨x, rfl, gx⟩) (by rw [List.append_nil]; exact rv.mono E), ?_⟩
  unfold mkO at h
  cases q : g (.ref S.length :: vs) (S ++ [.ins c []]) with
  | ok v S2 =>
    rw [q] at h
    cases v with
    | non =>
      intro m' H' y E' r' ry
      refine ⟨ry, ?_⟩
      have h' := PoE.mono E h
      exact h' m' H' _ E' r' (by unfold RV; exact ⟨x, rfl, E'.get gx⟩)
    | _ => exact h.elim
  | ex c fs S2 => rw [q] at h; exact h.elim
  | no => rw [q] at h; exact h.elim
theorem pl_make {f : Addr} {fd : FuncData} {ps : List Str} {x : Str} {g : Fn} (hC : T.ca c = C) (M : Mk X.K C f) (F : FnOk X.prog X.w X.K X.mg X.base (L2N.CX X.prog X.w) k f fd ps (spF X.K T g)) (hr : Room (k + 1) X.A) (hg : Gl X x) (hm : X.mg x = some (.ref C)) (hb : Binds X.K fd ps [])
    (ha : PA X (e :: es) (tLA X.K T ξ W ga)) (hdb : (x == ("__debug__" : Str)) = false := by decide) (he : starEach (e :: es) X.env = (false, eval e X.env) :: starEach es X.env := by rfl) (hpl : (backTo pos (starEach es X.env)).any (·.1) = false := by rfl) :
    PE X (.Call (.Name x p) (e :: es) [] pos) (tL X.K T ξ W (lMake c g ga)) :=
  pe_imp (pe_make M F hr hg hm hb .nil pass_no ha hdb he hpl) fun σ H Q ⟨m, S, ds, r0, rs, h⟩ => tLA.bind r0 rs h fun vs S1 m1 H1 xs E r1 rs1 rv h1 => make_read hC r1 rv h1
theorem pl_make0 {f : Addr} {fd : FuncData} {ps : List Str} {x : Str} {g : Fn} (hC : T.ca c = C) (M : Mk X.K C f) (F : FnOk X.prog X.w X.K X.mg X.base (L2N.CX X.prog X.w) k f fd ps (spF X.K T g)) (hr : Room (k + 1) X.A) (hg : Gl X x) (hm : X.mg x = some (.ref C)) (hb : Binds X.K fd ps [])
    (hdb : (x == ("__debug__" : Str)) = false := by decide) : PE X (.Call (.Name x p) [] [] pos) (tL X.K T ξ W (lMake c g lNil)) :=
  pe_imp (pe_make0 M F hr hg hm hb .nil pass_no hdb) fun σ H Q ⟨m, S, ds, r0, rs, h⟩ => make_read hC r0 RVs.nil h
end
/-! ### how it is reckoned with -/
def sfl2 (c i : Nat) (u : LV) (ds : Sl) : R → RS
  | .ok v S => match pfO c i v u S with
    | some S3 => .nx ds S3
    | none => .no
  | .ex c fs S => .ex c fs ds S
  | .no => .no
def sfl1 (c i : Nat) (fo : LE) (ds : Sl) : R → RS
  | .ok u S => sfl2 c i u ds (fo ds S)
  | .ex c fs S => .ex c fs ds S
  | .no => .no
def meth2 (g : Fn) (v : LV) : RL → R
  | .ok vs S => g (v :: vs) S
  | .ex c fs S => .ex c fs S
  | .no => .no
def meth1 (tab : Nat → Option Fn) (fa : LA) (ds : Sl) : R → R
  | .ok v S => methK tab fa ds v S
  | .ex c fs S => .ex c fs S
  | .no => .no
section
variable {c i n : Nat} {fv fo : LE} {fa : LA} {ds : Sl} {S : Sto} {v u w : LV} {vs fs : List LV} {tab : Nat → Option Fn} {g : Fn}
@[simp] theorem e_sfl : lSfl c i fv fo ds S = sfl1 c i fo ds (fv ds S) := by
  unfold lSfl
  cases fv ds S with
  | ok u S1 =>
    show bindS (fo ds S1) ds _ = sfl2 c i u ds (fo ds S1)
    cases fo ds S1 <;> rfl
  | _ => rfl
@[simp] theorem sfl1_ok : sfl1 c i fo ds (.ok u S) = sfl2 c i u ds (fo ds S) := (rfl)
theorem sfl2_ok (h : S[n]? = some (.ins c vs)) (hi : i ≤ vs.length) (hl : vs.length < 900) : sfl2 c i u ds (.ok (.ref n) S) = .nx ds (S.set n (.ins c (setAt i u vs))) := by
  simp only [sfl2, pfO, h]
  rw [if_pos ⟨trivial, hi, hl⟩]
theorem fld_ok (h : S[n]? = some (.ins c vs)) (hi : vs[i]? = some v) : fldL c i (.ref n) S = .ok v S := by
  simp only [fldL, fldO, h, if_true, hi]
@[simp] theorem e_meth : lMeth tab fo fa ds S = meth1 tab fa ds (fo ds S) := by unfold lMeth; cases fo ds S <;> rfl
theorem meth1_ok (h : S[n]? = some (.ins c vs)) (hg : tab c = some g) : meth1 tab fa ds (.ok (.ref n) S) = meth2 g (.ref n) (fa ds S) := by
  show methK tab fa ds (.ref n) S = _
  simp only [methK, clsO, h, hg]
  cases fa ds S <;> rfl
@[simp] theorem meth2_ok : meth2 g v (.ok vs S) = g (v :: vs) S := (rfl)
@[simp] theorem meth2_ex : meth2 g v (.ex c fs S) = .ex c fs S := (rfl)
@[simp] theorem e_make : lMake c g fa ds S = app1 (mkO c g) (fa ds S) := by unfold lMake; cases fa ds S <;> rfl
theorem mkO_ok {S2 : Sto} (h : g (.ref S.length :: vs) (S ++ [.ins c []]) = .ok .non S2) : mkO c g vs S = .ok (.ref S.length) S2 := by unfold mkO; rw [h]
theorem isi_ins {n : Nat} : S[n]? = some (.ins c vs) → clsO (.ref n) S = some c := fun h => by simp [clsO, h]
end
end LL


set_option Elab.async false
set_option linter.all false
set_option maxRecDepth 100000
set_option maxHeartbeats 2000000
/-! The logical layer: more of what is walked; methods of dicts and lists; names stored at once. -/
namespace LL
open PySem PySem.Spec PyProof.Rows L2
/-! ### range with a step -/
def rngC (lo c : Int) (n : Nat) : List LV := (List.range n).map fun (k : Nat) => .int (lo + (k : Int) * c)
def okRgC (i j c : Int) : Bool := decide (c ≠ 0) && decide (c.natAbs < 1073741824) && Builtin.Range.small i j c && decide (0 ≤ Builtin.Range.rangeSize i j c)
def rng3O : List LV → Sto → RI
  | [.int i, .int j, .int c], S => if okRgC i j c = true then .ok (itOf (rngC i c (Builtin.Range.rangeSize i j c).toNat)) S else .no
  | _, _ => .no
def lRng3 (f : LA) : LI := fun ds S => bindIA (f ds S) rng3O
section
variable {K : PySem.W.Frag} {T : Env1} {m0 : List Addr} {H0 : Hp}
theorem it_rngC {lo c : Int} {n : Nat} : ItL K T m0 H0 (Itc lo c n) (itOf (rngC lo c n)) where
  stop := fun m S H E r h => by
    show n ≤ (rngC lo c n).length
    simp [rngC]
  go := fun i m S H v hi E r h => by
    have : i < (rngC lo c n).length := hi
    have : i < n := by simpa [rngC] using this
    exact this
  yld := fun i x H' m S H v hi E r h y => by
    obtain ⟨rfl, rfl⟩ := y
    refine ⟨Ext.refl, r, ?_⟩
    have hi' : i < n := by
      have : i < (rngC lo c n).length := hi
      simpa [rngC] using this
    have h' : (rngC lo c n)[i]? = some v := h
    unfold rngC at h'
    rw [List.getElem?_map, List.getElem?_range hi'] at h'
    cases h'
    rfl
end
theorem RVs.three {K : PySem.W.Frag} {m : List Addr} {H : Hp} {u v w : LV} {xs : List V} (h : RVs K m H [u, v, w] xs) : ∃ x y z, xs = [x, y, z] ∧ RV K m H u x ∧ RV K m H v y ∧ RV K m H w z := by
  unfold RVs at h
  obtain ⟨x, r, rfl, h1, h2⟩ := h
  obtain ⟨y, z, rfl, h3, h4⟩ := h2.two
  exact ⟨x, y, z, rfl, h1, h3, h4⟩
/-! ### enumerate: a tuple, the kit's side -/
theorem meets_enum_tup (l : Addr) (items : Array Value) : Meets (Builtin.«enumerate.__new__» ⟨[.type "enumerate", .ref l], []⟩) (fun _ R s => s.heap.IsTuple l items ∧
      R (.ok (.ret (.ref (s.heap.push { cls := .type "tuple_iterator", data := .fields #[.ref l, .int 0 0] }).objs.size)))
        { s with heap := (s.heap.push { cls := .type "tuple_iterator", data := .fields #[.ref l, .int 0 0] }).push { cls := .type "enumerate", data := .fields #[.none, .bool false, .ref s.heap.objs.size, rawInt 0, .none, .none] } }) :=
  .of_wp fun prog w A R s h => by
    obtain ⟨hp, g, d, tk, os⟩ := s; obtain ⟨hL, h⟩ := h
    have hsub := sub_enumerate
    have hL : Heap.IsTuple (Shared.heap ⟨hp, g, d, tk, os⟩) l items := hL
    wp_walk using wpAny_pyIter_tuple hL
    refine wpAny_stack_any fun st => wpAny_pure ?_
    split
    · rename_i c _ _ _ _ _
      cases (c == Value.type "enumerate")
      · wp_walk using wpAny_pyIter_tuple hL
        exact ⟨_, rfl, h⟩
      · wp_walk using wpAny_pyIter_tuple hL
        exact ⟨_, rfl, h⟩
    · wp_walk using wpAny_pyIter_tuple hL
      exact ⟨_, rfl, h⟩
theorem call_enum_tup {prog : Program} {w : World} {A : Around} {E : Value → Shared → Prop} {s : Shared} {l : Addr} {items : Array Value} {Q : Value → Shared → Prop} (hL : s.heap.IsTuple l items)
    (h : ∀ h', IsEnum h' (s.heap.objs.size + 1) s.heap.objs.size 0 .none → h'.IsTupleIter s.heap.objs.size l 0 → (∀ b o, s.heap.get? b = some o → h'.get? b = some o) → Q (.ref (s.heap.objs.size + 1)) { s with heap := h' }) :
    wpAny (model prog w) A (call (.type "enumerate") [.ref l]) Q E s := by
  refine callType_new F.called_enumerate (by decide) (F.typeCall_enumerate_1 _) (F.newCall_enumerate_1 _) (fun obj => F.args_object_init_2 obj _) F.entry_enumerate_new (meets_enum_tup l items) ⟨hL, ?_⟩
  have hz : (s.heap.push { cls := .type "tuple_iterator", data := .fields #[.ref l, .int 0 0] }).objs.size = s.heap.objs.size + 1 := Heap.size_push ..
  show _ ∧ _
  rw [hz]
  have he : IsEnum ((s.heap.push { cls := .type "tuple_iterator", data := .fields #[.ref l, .int 0 0] }).push { cls := .type "enumerate", data := .fields #[.none, .bool false, .ref s.heap.objs.size, rawInt 0, .none, .none] }) (s.heap.objs.size + 1) s.heap.objs.size 0 .none := by
    have := Heap.get?_push_size (s.heap.push { cls := .type "tuple_iterator", data := .fields #[.ref l, .int 0 0] }) (o := { cls := .type "enumerate", data := .fields #[.none, .bool false, .ref s.heap.objs.size, rawInt 0, .none, .none] }) rfl
    rw [hz] at this
    exact this
  exact ⟨⟨_, he, rfl⟩, h _ he ⟨_, Heap.get?_push_of_some _ (Heap.get?_push_size _ rfl), rfl, rfl⟩ fun b o x => Heap.get?_push_of_some _ (Heap.get?_push_of_some _ x)⟩
/-- the tuple at a, each item in a new pair -/
def Itet (K : PySem.W.Frag) (a : Addr) : It :=
  ⟨fun i H => ∃ (xs : List V) (x : V), SqT K H a xs ∧ xs[i]? = some x, fun i H v H' => ∃ T x, v = .ref T ∧ H T = none ∧ H' = upd H T (.tup [.int (i : Nat), x]) ∧ ∀ xs, SqT K H a xs → xs[i]? = some x, fun i H => ∃ xs : List V, SqT K H a xs ∧ xs.length = i⟩
theorem turn_etup {P : Program} {w : World} {K : PySem.W.Frag} {elts : List Expr} {kk : Nat} {tpos : Pos} (a e it : Addr) :
    Turn P w K (.Tuple elts kk tpos) (Itet K a) [e, it] e (fun i h => (∃ old, IsEnum h e it ((i : Nat) : Int) old) ∧ h.IsTupleIter it a i ∧ e ≠ it) where
  mem := by simp
  obj := fun i h st b hb => by
    obtain ⟨⟨old, he⟩, ⟨o, ho, hc, hd⟩, _⟩ := st
    rcases (show b = e ∨ b = it by simpa using hb) with z | z
    · rw [z]; exact ⟨_, he, fun v q => nomatch q⟩
    · rw [z]; exact ⟨o, ho, fun v q => by rw [hd] at q; cases q⟩
  keep := fun i h h' st k => let ⟨⟨old, he⟩, hi, hne⟩ := st; ⟨⟨old, k e (by simp) _ he⟩, hi.at fun o q => k it (by simp) o q, hne⟩
  item := by
    intro X hP hw hK hc i pins s σ H E I hf st hg
    subst hP hw hK
    obtain ⟨⟨old, he⟩, hit, hne⟩ := st
    obtain ⟨xs, x, hq, hx⟩ := hg
    obtain ⟨its, rv, p, hz⟩ := I.tuple hq
    have p : s.heap.IsTuple a its.toArray := p
    obtain ⟨u, hu, ru⟩ := rv.get hx
    have hlt : i < its.toArray.size := by
      have := (List.getElem?_eq_some_iff.mp hu).1
      simpa using this
    have hel : e < s.heap.objs.size := Heap.lt_size he
    have hil : it < s.heap.objs.size := by obtain ⟨_, q, _⟩ := hit; exact Heap.lt_size q
    have nHe : a ≠ e := fun z => by
      obtain ⟨o, q, c, _⟩ := p
      rw [z, he] at q
      cases q
      injection c with c
      exact absurd c (by decide)
    have nHi : a ≠ it := fun z => by
      obtain ⟨o, q, c, _⟩ := p
      obtain ⟨o2, q2, c2, _⟩ := hit
      rw [z, q2] at q
      cases q
      rw [c2] at c
      injection c with c
      exact absurd c (by decide)
    have D := Draws.tuple (prog := X.prog) (w := X.w) (A := X.A.in1) (I.ok.hd hc) it a nHi its.toArray
    refine wpAny_pyNext_enum_itemD D he ⟨hit, p⟩ hlt hne (by simp; exact ⟨hne, fun z => nHe z.symm⟩) fun y h' tk hy ho hs' hT hsz hk => ?_
    have hy' : y = u := by
      have h1 : its.toArray[i]? = some u := by simpa using hu
      rw [h1] at hy
      exact (Option.some.inj hy).symm
    subst hy'
    refine ⟨_, rfl, wpAny_letOwnedTupleGo_enum (s := { s with heap := h', toks := tk + 1 }) ho fun h'' he' sb => ?_⟩
    have hT2 : h''.get? s.heap.objs.size = some { cls := .type "tuple", data := .seq #[.int i tk, y] } := (sb.2 _ (Nat.ne_of_gt hel)).trans hT
    have new : ObjOk X.prog X.w (upd H s.heap.objs.size (.tup [.int (i : Nat), x])) h'' s.heap.objs.size (.tup [.int (i : Nat), x]) :=
      ⟨by show 2 ≤ sizeLine; decide, [.int i tk, y], .cons ⟨_, rfl⟩ (.cons ru .nil), ⟨_, hT2, rfl, _, rfl⟩⟩
    have I1 : Inv X pins σ (upd H s.heap.objs.size (.tup [.int (i : Nat), x])) { s with heap := h'', toks := tk + 1 } :=
      I.turnedNew (ch := [e, it]) (fun b ob hb q => (sb.2 b (fun z => hb (by simp [z]))).trans (hk b ob (fun z => hb (by simp [z])) (fun z => hb (by simp [z])) q)) hf (Nat.le_refl _) new
    refine ⟨.ref s.heap.objs.size, _, I1, rfl, ⟨_, x, rfl, I.hok.fresh (Nat.le_refl _), rfl, fun ys hy => by rw [I.tuple_inj hy hq]; exact hx⟩, ⟨⟨y, ?_⟩, hs'.1.at fun o q => (sb.2 it (Ne.symm hne)).trans q, hne⟩, fun b hb => ?_⟩
    · rw [show ((i + 1 : Nat) : Int) = (i : Int) + 1 by omega]; exact he'
    · have hb' : b < s.heap.objs.size := by
        rcases (show b = e ∨ b = it by simpa using hb) with z | z
        · rw [z]; exact hel
        · rw [z]; exact hil
      rw [upd_ne (Nat.ne_of_lt hb')]
      exact (hf b hb).1
  done := by
    intro X hP hw hK hc i pins s σ H E I hf st hg
    subst hP hw hK
    obtain ⟨⟨old, he⟩, hit, hne⟩ := st
    obtain ⟨xs, hq, hxl⟩ := hg
    obtain ⟨its, rv, p, hz⟩ := I.tuple hq
    have p : s.heap.IsTuple a its.toArray := p
    obtain ⟨f0, f1, f2, f3, f4, f5⟩ := hf it (by simp)
    have hl := rv.length
    have sz : its.toArray.size = i := by simp only [List.size_toArray]; omega
    have nHi : a ≠ it := fun z => by
      obtain ⟨o, q, c, _⟩ := p
      obtain ⟨o2, q2, c2, _⟩ := hit
      rw [z, q2] at q
      cases q
      rw [c2] at c
      injection c with c
      exact absurd c (by decide)
    have D := Draws.tuple (prog := X.prog) (w := X.w) (A := X.A.in1) (I.ok.hd hc) it a nHi its.toArray
    rw [sz] at D
    exact wpAny_pyNext_enum_endD D he ⟨hit, p⟩ fun h' eb => ⟨rfl, I.turned (t' := s.toks) (fun b o hb q => eb b o hb q) f0 f1 f3 f4 f5⟩
  self := fun A i s Q E st h => let ⟨⟨_, he⟩, _⟩ := st; wpAny_pyIter_enum he h
def iEnumU (K : PySem.W.Frag) (ta : TA) : TI := fun σ H R => ta σ H fun vs H1 => ∃ a xs, vs = [.ref a] ∧ ((SqL K H1 a xs ∧ R (Ite K a) H1) ∨ (SqT K H1 a xs ∧ R (Itet K a) H1))
theorem pi_enumU {X : Cx} {e : Expr} {ta : TA} {p pos tpos : Pos} {elts : List Expr} {kk : Nat} (hg : Gl X "enumerate") (hm : X.mg "enumerate" = none) (ha : PA X [e] ta) (hs : starEach [e] X.env = [(false, eval e X.env)] := by rfl) :
    PI X (.Tuple elts kk tpos) (.Call (.Name "enumerate" p) [e] [] pos) (iEnumU X.K ta) := by
  refine ⟨fun pins s σ H R I h => ?_⟩
  refine Call_ (ld_blt I hg hm boot_enumerate (PyProof.Rows.callWith_type1 (thn (ha.run pos pins s σ H _ I h) fun us s1 ⟨vs, H1, I1, r1, q1⟩ => ?_) hs rfl))
  obtain ⟨a, xs, ex, q1⟩ := q1
  subst ex
  cases r1 with
  | cons r rr =>
    cases rr
    cases r
    have fin' : ∀ b, (b = s1.heap.objs.size + 1 ∨ b = s1.heap.objs.size) → s1.heap.objs.size ≤ b := fun b e' => by
      rcases e' with z | z
      · rw [z]; exact Nat.le_add_right _ _
      · rw [z]; exact Nat.le_refl _
    rcases q1 with ⟨hq, q⟩ | ⟨hq, q⟩
    · obtain ⟨its, rv, p', hz⟩ := I1.list hq
      refine call_enumerate_list p'.isList fun h' he hit hsz hk => wpAny_pyIter_enum he ?_
      have I2 : Inv X pins σ H1 { s1 with heap := h' } := I1.kept (t' := s1.toks) hk
      refine ⟨s1.heap.objs.size + 1, [s1.heap.objs.size + 1, s1.heap.objs.size], _, _, H1, rfl, I2, turn_enum a (s1.heap.objs.size + 1) s1.heap.objs.size, ⟨⟨.none, he⟩, hit, Nat.succ_ne_self _⟩, fun b hb => ?_, q⟩
      have hle := fin' b (by simpa using hb)
      exact I1.fpOk hle (I1.hok.fresh hle)
    · obtain ⟨its, rv, p', hz⟩ := I1.tuple hq
      have p' : s1.heap.IsTuple a its.toArray := p'
      refine call_enum_tup p' fun h' he hit hk => wpAny_pyIter_enum he ?_
      have I2 : Inv X pins σ H1 { s1 with heap := h' } := I1.kept (t' := s1.toks) hk
      refine ⟨s1.heap.objs.size + 1, [s1.heap.objs.size + 1, s1.heap.objs.size], _, _, H1, rfl, I2, turn_etup a (s1.heap.objs.size + 1) s1.heap.objs.size, ⟨⟨.none, he⟩, hit, Nat.succ_ne_self _⟩, fun b hb => ?_, q⟩
      have hle := fin' b (by simpa using hb)
      exact I1.fpOk hle (I1.hok.fresh hle)
/-! ### enumerate -/
def enumI (l : LIt) : LIt := ⟨l.n, fun i S => (l.item i S).map fun v => .tup [.int (i : Nat), v], l.fine⟩
def enumO : List LV → Sto → RI
  | [v], S => match v with
    | .lst xs => .ok (enumI (itOf xs)) S
    | .tup xs => .ok (enumI (itOf xs)) S
    | .scr ns => .ok (enumI (itOf (ns.map .int))) S
    | .ref n => match S[n]? with
      | some (.lst xs) => .ok (enumI (itRef n xs.length)) S
      | _ => .no
    | _ => .no
  | _, _ => .no
def lEnum (f : LA) : LI := fun ds S => bindIA (f ds S) enumO
theorem it_enum {K : PySem.W.Frag} {T : Env1} {m0 : List Addr} {H0 : Hp} {a : Addr} {l : LIt} (it : ItL K T m0 H0 (Itl K a) l) : ItL K T m0 H0 (Ite K a) (enumI l) where
  stop := it.stop
  go := fun i m S H v hi E r h => by
    have h' : (l.item i S).map (fun v => LV.tup [.int (i : Nat), v]) = some v := h
    cases q : l.item i S with
    | none => rw [q] at h'; cases h'
    | some u => exact it.go i m S H u hi E r q
  yld := fun i x H' m S H v hi E r h y => by
    have h' : (l.item i S).map (fun v => LV.tup [.int (i : Nat), v]) = some v := h
    cases q : l.item i S with
    | none => rw [q] at h'; cases h'
    | some u =>
      rw [q] at h'
      cases h'
      obtain ⟨p, x0, rfl, hp, rfl, hx⟩ := y
      obtain ⟨_, _, ru⟩ := it.yld i x0 H m S H u hi E r q ⟨rfl, hx⟩
      have E1 : Ext m H m (upd H p (.tup [.int (i : Nat), x0])) := Ext.side hp
      refine ⟨E1, r.side hp, ?_⟩
      unfold RV
      exact ⟨p, _, rfl, upd_same, RVs.cons rfl (RVs.cons (ru.mono E1) RVs.nil)⟩
theorem it_enumT {K : PySem.W.Frag} {T : Env1} {m0 : List Addr} {H0 : Hp} {a : Addr} {xs : List LV} {vs : List V} (ht : ∀ m H, Ext m0 H0 m H → SqT K H a vs) (hs : RVs K m0 H0 xs vs) : ItL K T m0 H0 (Itet K a) (enumI (itOf xs)) where
  stop := fun m S H E r h => ⟨vs, ht m H E, hs.len.symm⟩
  go := fun i m S H v hi E r h => by
    have h' : (xs[i]?).map (fun v => LV.tup [.int (i : Nat), v]) = some v := h
    cases q : xs[i]? with
    | none => rw [q] at h'; cases h'
    | some u =>
      obtain ⟨x, hx, _⟩ := hs.get q
      exact ⟨vs, x, ht m H E, hx⟩
  yld := fun i x H' m S H v hi E r h y => by
    have h' : (xs[i]?).map (fun v => LV.tup [.int (i : Nat), v]) = some v := h
    cases q : xs[i]? with
    | none => rw [q] at h'; cases h'
    | some u =>
      rw [q] at h'
      cases h'
      obtain ⟨p, x0, rfl, hp, rfl, hx⟩ := y
      obtain ⟨z, hz, rz⟩ := hs.get q
      have := hx vs (ht m H E)
      rw [hz] at this
      cases this
      have E1 : Ext m H m (upd H p (.tup [.int (i : Nat), x0])) := Ext.side hp
      refine ⟨E1, r.side hp, ?_⟩
      unfold RV
      exact ⟨p, _, rfl, upd_same, RVs.cons rfl (RVs.cons ((rz.mono E).mono E1) RVs.nil)⟩
section
variable {X : Cx} {T : Env1} {ξ : Xi} {W : WX} {e tg : Expr} {es : List Expr} {pos p apos cpos tpos : Pos} {fe : LE} {ga : LA}
theorem il_rng3 {a b c : Expr} (hg : Gl X "range") (hm : X.mg "range" = none) (ha : PA X [a, b, c] (tLA X.K T ξ W ga)) (hs : starEach [a, b, c] X.env = (false, eval a X.env) :: starEach [b, c] X.env := by rfl) (hpl : (backTo pos (starEach [b, c] X.env)).any (·.1) = false := by rfl) :
    PI X tg (.Call (.Name "range" p) [a, b, c] [] pos) (tI X.K T ξ W (lRng3 ga)) :=
  pi_imp (pi_range3 hg hm ha hs hpl) fun σ H R ⟨m, S, ds, r, rs, h⟩ => tLA.bindI (k := rng3O) (R := R) r rs h fun vs S1 m1 H1 xs E r1 rv h1 => by
    unfold rng3O at h1
    split at h1
    · rename_i i j c
      obtain ⟨x, y, z, rfl, rx, ry, rz⟩ := rv.three
      split at h1
      · rename_i hz
        unfold okRgC at hz
        simp only [Bool.and_eq_true, decide_eq_true_eq] at hz
        obtain ⟨⟨⟨z1, z2⟩, z3⟩, z4⟩ := hz
        exact ⟨i, j, c, _, by rw [show x = .int _ from rx, show y = .int _ from ry, show z = .int _ from rz], ⟨z1, z2, z3, (Int.toNat_of_nonneg z4).symm⟩, h1 m1 H1 _ Ext.refl r1 it_rngC⟩
      · exact h1.elim
    · exact h1.elim
theorem il_enum {elts : List Expr} {kk : Nat} (hg : Gl X "enumerate") (hm : X.mg "enumerate" = none) (ha : PA X [e] (tLA X.K T ξ W ga)) (hs : starEach [e] X.env = [(false, eval e X.env)] := by rfl) :
    PI X (.Tuple elts kk tpos) (.Call (.Name "enumerate" p) [e] [] pos) (tI X.K T ξ W (lEnum ga)) :=
  pi_imp (pi_enumU hg hm ha hs) fun σ H R ⟨m, S, ds, r, rs, h⟩ => tLA.bindI (k := enumO) (R := R) r rs h fun vs S1 m1 H1 xs E r1 rv h1 => by
    unfold enumO at h1
    split at h1
    · obtain ⟨x, rfl, rx⟩ := rv.one
      split at h1
      · obtain ⟨a, vs, rfl, na, ha, hs⟩ := rx.lstE
        exact ⟨a, _, rfl, .inl ⟨SqL.of ha, h1 m1 H1 _ Ext.refl r1 (it_enum (it_lst (fun m2 H2 E2 => SqL.of (E2.fr a _ na ha)) hs))⟩⟩
      · obtain ⟨a, vs, rfl, ht, hs⟩ := rx.tupE
        exact ⟨a, _, rfl, .inr ⟨SqT.of ht, h1 m1 H1 _ Ext.refl r1 (it_enumT (fun m2 H2 E2 => SqT.of (E2.tup a _ ht)) hs)⟩⟩
      · unfold RV at rx
        obtain ⟨a, rfl, ha⟩ := rx
        exact ⟨a, _, rfl, .inl ⟨scr_sq ha, h1 m1 H1 _ Ext.refl r1 (it_enum (it_lst (fun m2 H2 E2 => scr_sq (E2.kp.scr ha)) (RVs.ints _)))⟩⟩
      · split at h1
        · rename_i xs hn
          obtain ⟨a, vs, rfl, hm, ha, hs⟩ := rx.lst r1 hn
          exact ⟨a, _, rfl, .inl ⟨SqL.of ha, h1 m1 H1 _ Ext.refl r1 (it_enum (it_list (S0 := S1) hm))⟩⟩
        · exact h1.elim
      · exact h1.elim
    · exact h1.elim
end
/-! ### locked dicts: walks over them -/
def lockO (S : Sto) (n : Nat) : Option Sto := match S[n]? with
  | some (.dct kvs) => some (S.set n (.dck kvs))
  | some (.dcT kvs) => some (S.set n (.dcl kvs))
  | _ => none
def unlO (S : Sto) (n : Nat) : Option Sto := match S[n]? with
  | some (.dck kvs) => some (S.set n (.dct kvs))
  | some (.dcl kvs) => some (S.set n (.dcT kvs))
  | _ => none
/-- which dict: what an expression tells -/
def selE (fe : LE) (ds : Sl) (S : Sto) : Option Nat := match fe ds S with
  | .ok (.ref n) _ => some n
  | _ => none
def unlR (n : Nat) : R → R
  | .ok v S => match unlO S n with
    | some S2 => .ok v S2
    | none => .no
  | _ => .no
def lLock (fd fe : LE) : LE := fun ds S => match selE fd ds S with
  | some n => match lockO S n with
    | some S1 => unlR n (fe ds S1)
    | none => .no
  | none => .no
def unlS (n : Nat) : RS → RS
  | .nx ds S => match unlO S n with
    | some S2 => .nx ds S2
    | none => .no
  | .rt v S => match unlO S n with
    | some S2 => .rt v S2
    | none => .no
  | _ => .no
def lLockS (fd : LE) (fb : LS) : LS := fun ds S => match selE fd ds S with
  | some n => match lockO S n with
    | some S1 => unlS n (fb ds S1)
    | none => .no
  | none => .no
section
variable {K : PySem.W.Frag} {T : Env1} {ξ : Xi} {m m' : List Addr} {H H' : Hp} {S S' S3 : Sto} {n : Nat} {d : Addr} {ds : Sl} {σ : L2.St}
theorem RSl.kp (E : Kp m H m' H') (h : RSl K ξ m H ds σ) : RSl K ξ m' H' ds σ := ⟨h.len, fun i v e => by
  obtain ⟨x, q, r⟩ := h.at_ i v e
  refine ⟨x, q, ?_⟩
  cases v with
  | exc c fs =>
    obtain ⟨a, d, h1, h2, h3⟩ := r
    exact ⟨a, d, h1, h2, h3.kp E⟩
  | _ => exact RV.kp E r⟩
def isDK : HO → Prop
  | .dK _ => True
  | .dT _ => True
  | _ => False
/-- the heap with the dict at d locked -/
theorem lock_kp {u : HO} {od : Obj} (hd : H d = some u) (hu : isDK u) (hm : d ∈ m) : Kp m H m (upd H d (.frz od u)) where
  get := fun _ _ h => h
  tup := fun a vs h => by
    have : a ≠ d := fun z => by rw [z, hd] at h; cases h; exact hu
    rw [upd_ne this]; exact h
  frz := fun a o vs h => by
    have : a ≠ d := fun z => by rw [z, hd] at h; cases h; exact hu
    rw [upd_ne this]; exact h
  lst := fun a vs na h => by
    have : a ≠ d := fun z => na (z ▸ hm)
    rw [upd_ne this]; exact ⟨na, h⟩
  xd := fun a vs na h => by
    have : a ≠ d := fun z => na (z ▸ hm)
    rw [upd_ne this]; exact ⟨na, h⟩
theorem unlock_kp {u : HO} {od : Obj} (hd : H d = some (.frz od u)) (hu : isDK u) (hm : d ∈ m) : Kp m H m (upd H d u) where
  get := fun _ _ h => h
  tup := fun a vs h => by
    have : a ≠ d := fun z => by rw [z, hd] at h; cases h
    rw [upd_ne this]; exact h
  frz := fun a o vs h => by
    have : a ≠ d := fun z => by
      rw [z, hd] at h
      cases h
      exact hu
    rw [upd_ne this]; exact h
  lst := fun a vs na h => by
    have : a ≠ d := fun z => na (z ▸ hm)
    rw [upd_ne this]; exact ⟨na, h⟩
  xd := fun a vs na h => by
    have : a ≠ d := fun z => na (z ▸ hm)
    rw [upd_ne this]; exact ⟨na, h⟩
theorem RelS.chg {o : HO} {lo : LO} (r : RelS K T m S H) (hn : m[n]? = some d) (E : Kp m H m (upd H d o)) (ho : RO K T m (upd H d o) d lo) : RelS K T m (S.set n lo) (upd H d o) where
  len := by rw [List.length_set, r.len]
  nd := r.nd
  ob := fun k b u hk hu => by
    by_cases e : k = n
    · subst e
      rw [hn] at hk
      cases hk
      have hl : k < S.length := by
        rw [← r.len]
        exact (List.getElem?_eq_some_iff.mp hn).1
      rw [List.getElem?_set_self hl] at hu
      cases hu
      exact ho
    · rw [List.getElem?_set_ne (Ne.symm e)] at hu
      have hb : b ≠ d := fun z => by
        subst z
        obtain ⟨l1, e1⟩ := List.getElem?_eq_some_iff.mp hk
        obtain ⟨l2, e2⟩ := List.getElem?_eq_some_iff.mp hn
        exact e ((List.getElem_inj r.nd).mp (e1.trans e2.symm))
      exact (r.ob k b u hk hu).kp E (upd_ne hb)
/-- a lock is set -/
theorem lock_in {S1 : Sto} (r : RelS K T m S H) (e : lockO S n = some S1) : ∃ d u, m[n]? = some d ∧ H d = some u ∧ isDK u ∧ Mut (some u) ∧ ∀ od, RelS K T m S1 (upd H d (.frz od u)) ∧ Kp m H m (upd H d (.frz od u)) := by
  unfold lockO at e
  split at e
  · rename_i kvs hn
    cases e
    have hl : n < m.length := by rw [r.len]; exact (List.getElem?_eq_some_iff.mp hn).1
    have hm : m[n]? = some m[n] := List.getElem?_eq_getElem hl
    obtain ⟨ws, h1, h2, h3⟩ := r.at hm hn
    refine ⟨_, _, hm, h1, trivial, trivial, fun od => ?_⟩
    have E := lock_kp (od := od) h1 trivial (List.mem_of_getElem? hm)
    exact ⟨r.chg hm E ⟨od, ws, upd_same, h2, h3.kp E⟩, E⟩
  · rename_i kvs hn
    cases e
    have hl : n < m.length := by rw [r.len]; exact (List.getElem?_eq_some_iff.mp hn).1
    have hm : m[n]? = some m[n] := List.getElem?_eq_getElem hl
    obtain ⟨ws, h1, h2, h3⟩ := r.at hm hn
    refine ⟨_, _, hm, h1, trivial, trivial, fun od => ?_⟩
    have E := lock_kp (od := od) h1 trivial (List.mem_of_getElem? hm)
    exact ⟨r.chg hm E ⟨od, ws, upd_same, h2, h3.kp E⟩, E⟩
  · cases e
/-- .. and taken away -/
theorem lock_out {u : HO} {od : Obj} (hd : H d = some u) (hu : isDK u) (hm : m[n]? = some d) (E : Ext m (upd H d (.frz od u)) m' H') (r' : RelS K T m' S' H') (e : unlO S' n = some S3) :
    H' d = some (.frz od u) ∧ Ext m H m' (upd H' d u) ∧ RelS K T m' S3 (upd H' d u) ∧ Kp m' H' m' (upd H' d u) := by
  have hd' : H' d = some (.frz od u) := E.frz d od u upd_same
  have hm' := E.get hm
  have EK := unlock_kp hd' hu (List.mem_of_getElem? hm')
  have ne : ∀ a, a ∉ m → a ≠ d := fun a na z => na (z ▸ List.mem_of_getElem? hm)
  refine ⟨hd', ⟨E.pre, fun a o na ha => ?_, fun a ha na => ?_, fun a vs h => ?_, fun a o v h => ?_⟩, ?_, EK⟩
  · rw [upd_ne (ne a na)]
    exact E.fr a o na (by rw [upd_ne (ne a na)]; exact ha)
  · have := E.new a ha na
    rw [upd_ne (ne a na)] at this
    exact this
  · have : a ≠ d := fun z => by rw [z, hd] at h; cases h; exact hu
    rw [upd_ne this]
    exact E.tup a vs (by rw [upd_ne this]; exact h)
  · have : a ≠ d := fun z => by rw [z, hd] at h; cases h; exact hu
    rw [upd_ne this]
    exact E.frz a o v (by rw [upd_ne this]; exact h)
  · unfold unlO at e
    split at e
    · rename_i kvs hn
      cases e
      obtain ⟨od', ws, h1, h2, h3⟩ := r'.at hm' hn
      rw [hd'] at h1
      cases h1
      exact r'.chg hm' EK ⟨ws, upd_same, h2, h3.kp EK⟩
    · rename_i kvs hn
      cases e
      obtain ⟨od', ws, h1, h2, h3⟩ := r'.at hm' hn
      rw [hd'] at h1
      cases h1
      exact r'.chg hm' EK ⟨ws, upd_same, h2, h3.kp EK⟩
    · cases e
end
section
variable {X : Cx} {T : Env1} {ξ : Xi} {W : WX} {e tg : Expr} {st : Stmt} {pos p apos cpos tpos : Pos} {fd fe : LE} {fb : LS}
theorem pl_lock (h : PE X e (tL X.K T ξ W fe)) : PE X e (tL X.K T ξ W (lLock fd fe)) :=
  pe_imp (pe_lock h) fun σ H Q ⟨m, S, ds, r, rs, h⟩ => by
    unfold lLock at h
    split at h
    · rename_i n hs
      split at h
      · rename_i S1 hl
        obtain ⟨d, u, hm, hd, hu, mu, hr⟩ := lock_in r hl
        refine ⟨d, u, hd, mu, fun od => ?_⟩
        obtain ⟨r1, E1⟩ := hr od
        refine ⟨m, S1, ds, r1, rs.kp E1, ?_⟩
        cases q : fe ds S1 with
        | ok v S2 =>
          rw [q] at h
          intro m' H' x E' r' rv
          unfold unlR at h
          simp only at h
          split at h
          · rename_i S3 h3
            obtain ⟨o1, o2, o3, o4⟩ := lock_out hd hu hm E' r' h3
            exact ⟨o1, h m' _ x o2 o3 (rv.kp o4)⟩
          · exact h.elim
        | ex c fs S2 => rw [q] at h; exact h.elim
        | no => rw [q] at h; exact h.elim
      · exact h.elim
    · exact h.elim
theorem sl_lock (h : PS X st (tLS X.K T ξ W fb)) : PS X st (tLS X.K T ξ W (lLockS fd fb)) :=
  ps_imp (ps_lock h) fun D σ H ⟨m, S, ds, r, rs, h⟩ => by
    unfold lLockS at h
    split at h
    · rename_i n hs
      split at h
      · rename_i S1 hl
        obtain ⟨d, u, hm, hd, hu, mu, hr⟩ := lock_in r hl
        refine ⟨d, u, hd, mu, fun od => ?_⟩
        obtain ⟨r1, E1⟩ := hr od
        refine ⟨m, S1, ds, r1, rs.kp E1, ?_⟩
        cases q : fb ds S1 with
        | nx ds2 S2 =>
          rw [q] at h
          intro m' H' σ' E' r' rs'
          unfold unlS at h
          simp only at h
          split at h
          · rename_i S3 h3
            obtain ⟨o1, o2, o3, o4⟩ := lock_out hd hu hm E' r' h3
            exact ⟨o1, h m' _ σ' o2 o3 (rs'.kp o4)⟩
          · exact h.elim
        | rt v S2 =>
          rw [q] at h
          intro m' H' x E' r' rv
          unfold unlS at h
          simp only at h
          split at h
          · rename_i S3 h3
            obtain ⟨o1, o2, o3, o4⟩ := lock_out hd hu hm E' r' h3
            exact ⟨o1, h m' _ x o2 o3 (rv.kp o4)⟩
          · exact h.elim
        | bk ds2 S2 => rw [q] at h; exact h.elim
        | ct ds2 S2 => rw [q] at h; exact h.elim
        | ex c fs ds2 S2 => rw [q] at h; exact h.elim
        | no => rw [q] at h; exact h.elim
      · exact h.elim
    · exact h.elim
end
def keyV : Key → LV
  | .inl i => .int i
  | .inr z => .str z
def keyT (ks : List Key) : LV := .tup (ks.map keyV)
theorem keyV_rv {K : PySem.W.Frag} {m : List Addr} {H : Hp} {k : Key} : RV K m H (keyV k) (kV k) := by cases k <;> (unfold keyV RV; rfl)
theorem keysV_rv {K : PySem.W.Frag} {m : List Addr} {H : Hp} : ∀ {ks : List Key}, RVs K m H (ks.map keyV) (ks.map kV)
  | [] => RVs.nil
  | k :: ks => RVs.cons keyV_rv keysV_rv
def dictO (v : LV) (S : Sto) : RI := match v with
  | .ref n => match S[n]? with
    | some (.dck kvs) => .ok (itOf (kvs.map fun kv => keyV kv.1)) S
    | some (.dcl kvs) => .ok (itOf (kvs.map fun kv => keyT kv.1)) S
    | _ => .no
  | _ => .no
def itemO (v : LV) (S : Sto) : RI := match v with
  | .ref n => match S[n]? with
    | some (.dck kvs) => .ok (itOf (kvs.map fun kv => .tup [keyV kv.1, kv.2])) S
    | _ => .no
  | _ => .no
def lIterD (f : LE) : LI := fun ds S => bindI (f ds S) dictO
def lItems (f : LE) : LI := fun ds S => bindI (f ds S) itemO
section
variable {K : PySem.W.Frag} {T : Env1} {m0 : List Addr} {H0 : Hp} {d : Addr} {od : Obj}
theorem fst_get {κ α β : Type} {ws : List (κ × α)} {kvs : List (κ × β)} (e : ws.map (·.1) = kvs.map (·.1)) {i : Nat} {k : κ} {x : α} (h : ws[i]? = some (k, x)) : ∃ y, kvs[i]? = some (k, y) := by
  have := congrArg (fun l => l[i]?) e
  simp only [List.getElem?_map, h] at this
  cases q : kvs[i]? with
  | none => rw [q] at this; cases this
  | some kv =>
    rw [q] at this
    obtain ⟨k', y⟩ := kv
    simp at this
    exact ⟨y, by rw [this]⟩
theorem it_keys {ws : List (Key × V)} {kvs : List (Key × LV)} (hd : H0 d = some (.frz od (.dK ws))) (e : ws.map (·.1) = kvs.map (·.1)) : ItL K T m0 H0 (Itk d od ws) (itOf (kvs.map fun kv => keyV kv.1)) where
  stop := fun m S H E r h => ⟨E.frz _ _ _ hd, by
    have := congrArg List.length e
    show ws.length ≤ (kvs.map fun kv => keyV kv.1).length
    simp at this ⊢; omega⟩
  go := fun i m S H v hi E r h => ⟨E.frz _ _ _ hd, by
    have := congrArg List.length e
    have hi' : i < (kvs.map fun kv => keyV kv.1).length := hi
    simp at this hi'; omega⟩
  yld := fun i x H' m S H v hi E r h y => by
    obtain ⟨rfl, k, z, hz, rfl⟩ := y
    refine ⟨Ext.refl, r, ?_⟩
    obtain ⟨y, hy⟩ := fst_get e hz
    have h' : (kvs.map fun kv => keyV kv.1)[i]? = some v := h
    rw [List.getElem?_map, hy] at h'
    cases h'
    exact keyV_rv
theorem it_keysT {ws : List (List Key × V)} {kvs : List (List Key × LV)} (hd : H0 d = some (.frz od (.dT ws))) (e : ws.map (·.1) = kvs.map (·.1)) : ItL K T m0 H0 (Itkt d od ws) (itOf (kvs.map fun kv => keyT kv.1)) where
  stop := fun m S H E r h => ⟨E.frz _ _ _ hd, by
    have := congrArg List.length e
    show ws.length ≤ (kvs.map fun kv => keyT kv.1).length
    simp at this ⊢; omega⟩
  go := fun i m S H v hi E r h => ⟨E.frz _ _ _ hd, by
    have := congrArg List.length e
    have hi' : i < (kvs.map fun kv => keyT kv.1).length := hi
    simp at this hi'; omega⟩
  yld := fun i x H' m S H v hi E r h y => by
    obtain ⟨rfl, k, z, q, hz, rfl, hq⟩ := y
    refine ⟨Ext.refl, r, ?_⟩
    obtain ⟨y, hy⟩ := fst_get e hz
    have h' : (kvs.map fun kv => keyT kv.1)[i]? = some v := h
    rw [List.getElem?_map, hy] at h'
    cases h'
    unfold keyT RV
    exact ⟨q, _, rfl, hq, keysV_rv⟩
theorem it_items {ws : List (Key × V)} {kvs : List (Key × LV)} (hd : H0 d = some (.frz od (.dK ws))) (e : ws.map (·.1) = kvs.map (·.1)) (rv : RVs K m0 H0 (kvs.map (·.2)) (ws.map (·.2))) : ItL K T m0 H0 (Iti d od ws) (itOf (kvs.map fun kv => .tup [keyV kv.1, kv.2])) where
  stop := fun m S H E r h => ⟨E.frz _ _ _ hd, by
    have := congrArg List.length e
    show ws.length ≤ (kvs.map fun kv => LV.tup [keyV kv.1, kv.2]).length
    simp at this ⊢; omega⟩
  go := fun i m S H v hi E r h => ⟨E.frz _ _ _ hd, by
    have := congrArg List.length e
    have hi' : i < (kvs.map fun kv => LV.tup [keyV kv.1, kv.2]).length := hi
    simp at this hi'; omega⟩
  yld := fun i x H' m S H v hi E r h y => by
    obtain ⟨p, k, z, hz, rfl, hp, rfl⟩ := y
    obtain ⟨y, hy⟩ := fst_get e hz
    have h' : (kvs.map fun kv => LV.tup [keyV kv.1, kv.2])[i]? = some v := h
    rw [List.getElem?_map, hy] at h'
    cases h'
    have E1 : Ext m H m (upd H p (.tup [kV k, z])) := Ext.side hp
    refine ⟨E1, r.side hp, ?_⟩
    obtain ⟨z', hz', rz⟩ := rv.get (n := i) (v := y) (by rw [List.getElem?_map, hy]; rfl)
    rw [List.getElem?_map, hz] at hz'
    cases hz'
    unfold RV
    exact ⟨p, _, rfl, upd_same, RVs.cons keyV_rv (RVs.cons (rz.mono (E.trans E1)) RVs.nil)⟩
end
section
variable {X : Cx} {T : Env1} {ξ : Xi} {W : WX} {e f o tg : Expr} {st : Stmt} {pos p apos cpos tpos : Pos} {fe fo fk fx : LE} {fb : LS} {k : Nat}
theorem il_dict (he : PE X e (tL X.K T ξ W fe)) : PI X tg e (tI X.K T ξ W (lIterD fe)) :=
  pi_imp (pi_keys he) fun σ H R ⟨m, S, ds, r, rs, h⟩ => tL.bindI r rs h fun v S1 m1 H1 x _ E r1 rv h1 => by
    unfold dictO at h1
    split at h1
    · rename_i n
      split at h1
      · rename_i kvs hn
        unfold RV at rv
        obtain ⟨a, rfl, hm⟩ := rv
        obtain ⟨od, ws, w1, w2, w3⟩ := r1.at hm hn
        exact ⟨a, od, rfl, .inl ⟨ws, w1, h1 m1 H1 _ Ext.refl r1 (it_keys w1 w2)⟩⟩
      · rename_i kvs hn
        unfold RV at rv
        obtain ⟨a, rfl, hm⟩ := rv
        obtain ⟨od, ws, w1, w2, w3⟩ := r1.at hm hn
        exact ⟨a, od, rfl, .inr ⟨ws, w1, h1 m1 H1 _ Ext.refl r1 (it_keysT w1 w2)⟩⟩
      · exact h1.elim
    · exact h1.elim
theorem il_items {elts : List Expr} {kk : Nat} (he : PE X e (tL X.K T ξ W fe)) (hbase : attributeBase e "items" X.env (eval e X.env) = eval e X.env := by rfl) (hline : (apos.endLine == cpos.line) = true := by rfl) :
    PI X (.Tuple elts kk tpos) (.Call (.Attribute e "items" apos) [] [] cpos) (tI X.K T ξ W (lItems fe)) :=
  pi_imp (pi_items he hbase hline) fun σ H R ⟨m, S, ds, r, rs, h⟩ => tL.bindI r rs h fun v S1 m1 H1 x _ E r1 rv h1 => by
    unfold itemO at h1
    split at h1
    · rename_i n
      split at h1
      · rename_i kvs hn
        unfold RV at rv
        obtain ⟨a, rfl, hm⟩ := rv
        obtain ⟨od, ws, w1, w2, w3⟩ := r1.at hm hn
        exact ⟨a, od, ws, rfl, w1, h1 m1 H1 _ Ext.refl r1 (it_items w1 w2 w3)⟩
      · exact h1.elim
    · exact h1.elim
/-! ### d.get(k), d.get(k, v) -/
def isDc (v : LV) (S : Sto) : Bool := match v with
  | .ref n => match S[n]? with
    | some o => (dKs o).isSome || (dTs o).isSome
    | none => false
  | _ => false
def gotO (v k : LV) (dflt : LV) (S : Sto) : R := match v with
  | .ref n => match getOv k S n with
    | some o => .ok (o.getD dflt) S
    | none => .no
  | _ => .no
def lGet1 (fo fk : LE) : LE := fun ds S => (fo ds S).bind fun v S1 => if isDc v S1 = true then (fk ds S1).bind fun u S2 => gotO v u .non S2 else .no
def lGet2 (fo fk fx : LE) : LE := fun ds S => (fo ds S).bind fun v S1 => if isDc v S1 = true then (fk ds S1).bind fun u S2 => (fx ds S2).bind fun z S3 => gotO v u z S3 else .no
theorem isDc_ok {m : List Addr} {S : Sto} {H : Hp} {v : LV} {x : V} (r : RelS X.K T m S H) (e : isDc v S = true) (rv : RV X.K m H v x) : ∃ a n, v = .ref n ∧ x = .ref a ∧ IsD H a := by
  unfold isDc at e
  split at e
  · rename_i n
    split at e
    · rename_i ob hn
      have rv' := rv
      unfold RV at rv'
      obtain ⟨a, rfl, hm⟩ := rv'
      refine ⟨a, n, rfl, rfl, ?_⟩
      have q := r.at hm hn
      cases ob with
      | dct kvs => obtain ⟨ws, h1, _⟩ := q; exact .inl ⟨ws, .inl h1⟩
      | dck kvs => obtain ⟨od, ws, h1, _⟩ := q; exact .inl ⟨ws, .inr ⟨od, h1⟩⟩
      | dcT kvs => obtain ⟨ws, h1, _⟩ := q; exact .inr ⟨ws, .inl h1⟩
      | dcl kvs => obtain ⟨od, ws, h1, _⟩ := q; exact .inr ⟨ws, .inr ⟨od, h1⟩⟩
      | lst xs => simp [dKs, dTs] at e
      | ins c xs => simp [dKs, dTs] at e
    · cases e
  · cases e
theorem pl_get1 (hr : Room k X.A) (ho : PE X o (tL X.K T ξ W fo)) (he : PE X e (tL X.K T ξ W fk)) (m1 : M1 X o "get" apos e cpos := by exact ⟨rfl, rfl, rfl, rfl⟩) : PE X (.Call (.Attribute o "get" apos) [e] [] cpos) (tL X.K T ξ W (lGet1 fo fk)) :=
  pe_imp (pe_dget1 (hu_of hr) ho he m1) fun σ H Q ⟨m, S, ds, r, rs, h⟩ => tL.bind r rs h fun v S1 m1 H1 x E r1 rs1 rv h1 => by
    split at h1
    · rename_i hd
      obtain ⟨a, n, rfl, rfl, d⟩ := isDc_ok r1 hd rv
      refine ⟨a, rfl, d, tL.bind r1 rs1 h1 fun u S2 m2 H2 y E2 r2 rs2 ru h2 => ?_⟩
      unfold gotO at h2
      simp only at h2
      split at h2
      · rename_i ov g
        obtain ⟨a', o', ey, hd', hov⟩ := getOv_ok r2 g ru (rv.mono E2)
        cases ey
        refine ⟨o', hd', ?_⟩
        rcases hov with ⟨rfl, rfl⟩ | ⟨u', z, rfl, rfl, rz⟩
        · exact h2.here r2 rfl
        · exact h2.here r2 rz
      · exact h2.elim
    · exact h1.elim
theorem pl_get2 (hr : Room k X.A) (ho : PE X o (tL X.K T ξ W fo)) (he : PE X e (tL X.K T ξ W fk)) (hf : PE X f (tL X.K T ξ W fx)) (m1 : M2 X o "get" apos e f cpos := by exact ⟨rfl, rfl, rfl, rfl⟩) : PE X (.Call (.Attribute o "get" apos) [e, f] [] cpos) (tL X.K T ξ W (lGet2 fo fk fx)) :=
  pe_imp (pe_dget2 (hu_of hr) ho he hf m1) fun σ H Q ⟨m, S, ds, r, rs, h⟩ => tL.bind r rs h fun v S1 m1 H1 x E r1 rs1 rv h1 => by
    split at h1
    · rename_i hd
      obtain ⟨a, n, rfl, rfl, d⟩ := isDc_ok r1 hd rv
      refine ⟨a, rfl, d, tL.bind r1 rs1 h1 fun u S2 m2 H2 y E2 r2 rs2 ru h2 => tL.bind r2 rs2 h2 fun w S3 m3 H3 z E3 r3 rs3 rw h3 => ?_⟩
      unfold gotO at h3
      simp only at h3
      split at h3
      · rename_i ov g
        obtain ⟨a', o', ey, hd', hov⟩ := getOv_ok r3 g (ru.mono E3) ((rv.mono E2).mono E3)
        cases ey
        refine ⟨o', hd', ?_⟩
        rcases hov with ⟨rfl, rfl⟩ | ⟨u', z, rfl, rfl, rz⟩
        · exact h3.here r3 rw
        · exact h3.here r3 rz
      · exact h3.elim
    · exact h1.elim
end
/-! ### names stored at once -/
def parK (i j : Nat) (ds : Sl) : RL → RS
  | .ok [v, w] S => .nx ((ds.set i (some v)).set j (some w)) S
  | .ok _ _ => .no
  | .ex c fs S => .ex c fs ds S
  | .no => .no
def lPar (i j : Nat) (fa : LA) : LS := fun ds S => parK i j ds (fa ds S)
def par3K (i j l : Nat) (ds : Sl) : RL → RS
  | .ok [u, v, w] S => .nx (((ds.set i (some u)).set j (some v)).set l (some w)) S
  | .ok _ _ => .no
  | .ex c fs S => .ex c fs ds S
  | .no => .no
def lPar3 (i j l : Nat) (fa : LA) : LS := fun ds S => par3K i j l ds (fa ds S)
section
variable {X : Cx} {T : Env1} {ξ : Xi} {W : WX} {ga : LA} {pos px py pz pt : Pos} {x y z : Str} {a b c : Expr} {kt : Nat} {k2 : Nat} {pt2 : Pos}
theorem sl_par (i j : Nat) (hc : X.calm = true) (hN : X.N.Nodup) (ha : PA X [a, b] (tLA X.K T ξ W ga)) (hij : i ≠ j := by decide) (hi : X.N[i]? = some x := by rfl) (hj : X.N[j]? = some y := by rfl)
    (hx : X.env.scope.names.lookup x = some .local := by rfl) (hy : X.env.scope.names.lookup y = some .local := by rfl)
    (hw : swappedStores [.Tuple [.Name x px, .Name y py] kt pt] (.Tuple [a, b] k2 pt2) X.env = pure (some [x, y]) := by rfl)
    (hs : swapsWithSole [.Tuple [.Name x px, .Name y py] kt pt] (.Tuple [a, b] k2 pt2) pos.line X.env = pure false := by rfl) :
    PS X (.Assign [.Tuple [.Name x px, .Name y py] kt pt] (.Tuple [a, b] k2 pt2) pos) (tLS X.K T ξ W (lPar i j ga)) :=
  ps_imp (ps_par hc hN hi hj hij hx hy ha hw hs) fun D σ H ⟨m, S, ds, r, rs, h⟩ => by
    refine ⟨m, S, ds, r, rs, ?_⟩
    unfold lPar at h
    cases q : ga ds S with
    | ok vs S1 =>
      rw [q] at h
      intro m1 H1 xs E r1 rv
      unfold parK at h
      split at h
      · rename_i v w S' hq
        cases hq
        obtain ⟨x1, y1, rfl, rx, ry⟩ := rv.two
        exact ⟨x1, y1, rfl, h m1 H1 _ E r1 (((rs.mono E).set i (RVx.of rx)).set j (RVx.of ry))⟩
      · exact h.elim
      · rename_i hq; cases hq
      · rename_i hq; cases hq
    | ex c fs S1 => rw [q] at h; exact fun m1 H1 cls d E r1 rx => h m1 H1 σ cls d E r1 (rs.mono E) rx
    | no => rw [q] at h; exact h
theorem sl_par3 (i j l : Nat) (hc : X.calm = true) (hN : X.N.Nodup) (ha : PA X [a, b, c] (tLA X.K T ξ W ga)) (hij : i ≠ j := by decide) (hil : i ≠ l := by decide) (hjl : j ≠ l := by decide) (hi : X.N[i]? = some x := by rfl) (hj : X.N[j]? = some y := by rfl) (hl : X.N[l]? = some z := by rfl)
    (hx : X.env.scope.names.lookup x = some .local := by rfl) (hy : X.env.scope.names.lookup y = some .local := by rfl) (hz : X.env.scope.names.lookup z = some .local := by rfl)
    (hw : swappedStores [.Tuple [.Name x px, .Name y py, .Name z pz] kt pt] (.Tuple [a, b, c] k2 pt2) X.env = pure (some [x, y, z]) := by rfl)
    (hs : swapsWithSole [.Tuple [.Name x px, .Name y py, .Name z pz] kt pt] (.Tuple [a, b, c] k2 pt2) pos.line X.env = pure false := by rfl) :
    PS X (.Assign [.Tuple [.Name x px, .Name y py, .Name z pz] kt pt] (.Tuple [a, b, c] k2 pt2) pos) (tLS X.K T ξ W (lPar3 i j l ga)) :=
  ps_imp (ps_par3 hc hN hi hj hl hij hil hjl hx hy hz ha hw hs) fun D σ H ⟨m, S, ds, r, rs, h⟩ => by
    refine ⟨m, S, ds, r, rs, ?_⟩
    unfold lPar3 at h
    cases q : ga ds S with
    | ok vs S1 =>
      rw [q] at h
      intro m1 H1 xs E r1 rv
      unfold par3K at h
      split at h
      · rename_i u v w S' hq
        cases hq
        obtain ⟨x1, y1, z1, rfl, rx, ry, rz⟩ := rv.three
        exact ⟨x1, y1, z1, rfl, h m1 H1 _ E r1 ((((rs.mono E).set i (RVx.of rx)).set j (RVx.of ry)).set l (RVx.of rz))⟩
      · exact h.elim
      · rename_i hq; cases hq
      · rename_i hq; cases hq
    | ex c fs S1 => rw [q] at h; exact fun m1 H1 cls d E r1 rx => h m1 H1 σ cls d E r1 (rs.mono E) rx
    | no => rw [q] at h; exact h
end
end LL


set_option Elab.async false
set_option linter.all false
set_option maxRecDepth 100000
set_option maxHeartbeats 2000000
/-! The logical layer: own defs that are given a caught exception. -/
namespace LL
open PySem PySem.Spec PyProof.Rows L2
/-- a def's promise within a suite, p the exception that is handled -/
structure FnE (P : Program) (w : World) (K : PySem.W.Frag) (mg : Str → Option Value) (base : Heap) (k : Nat) (f : Addr) (fd : FuncData) (ps : List Str) (sp : Addr × Obj → Sp) : Prop where
  len : ∀ p vs H Q E, sp p vs H Q E → vs.length = ps.length
  run : ∀ (A : Around) (outer : List Env) (s : Shared) (H : Hp) (args : Args) (us : List Value) (vs : List V) (Q : VK) (E : XK) (p : Addr × Obj), L2H.RoomH k A → L2H.Hot1 A p → L2H.PinOk outer H s p → Env0 P w K mg base A outer s H →
    BindsTo s fd args (ps.zip us) → Vals vs us → sp p vs H Q E → codeAny (model P w) A (.call (.ref f) args) (CR (L2N.CX P w) outer P w H s Q E) s
/-- a def of an exception alone -/
noncomputable def mkE (N : Nat) (g : LS) : Fn := fun xs S => match xs with
  | [.exc c fs] => match g (([LV.exc c fs]).map some ++ List.replicate (N - 1) none) S with
    | .nx _ S' => gcF S (.ok .non S')
    | .rt v S' => gcF S (.ok v S')
    | _ => .no
  | _ => .no
/-- the promise: what a function tells of the exception -/
def spE (K : PySem.W.Frag) (T : Env1) (g : Fn) : Addr × Obj → Sp := fun p vs H Q E => vs = [.ref p.1] ∧ (∃ fl, p.2.data = .fields fl) ∧ ∃ (m : List Addr) (S : Sto) (c : Nat) (fs : List LV) (d : Option Addr), L2N.Zn (.ref (T.ca c)) d p.2 ∧ XD K m H fs d ∧ RelS K T m S H ∧ PoE K T m H (g [.exc c fs] S) Q E
abbrev HCx (P : Program) (w : World) (K : PySem.W.Frag) (mg : Str → Option Value) (base : Heap) (N : List Str) (qual : Str) (st : Stmt) (f : Addr) (cdv : Value) (A : Around) (outer : List Env) (s : Shared) (H : Hp) (E : XK) (p : Addr × Obj) : Cx :=
  (L2H.cxH (L2N.CX P w) P w K mg base N qual (defScope st) f cdv A outer s H E p).suite p.1 [p]
theorem _root_.L2H.RoomH.units {k : Nat} {A : Around} (r : L2H.RoomH k A) : A.units + 64 < cLine := by have := r.un; omega
theorem hot_suite {X : Cx} {p : Addr × Obj} {sts : List Stmt} {t : TS} (h1 : X.A.mark (some (.ref p.1)) = X.A) (h2 : X.calm = false) (h3 : X.pn = [p]) (h : PSs (X.suite p.1 [p]) sts t) : PSs X sts t := by
  have e : X.suite p.1 [p] = X.wish fun _ _ => False := by
    unfold Cx.suite Cx.wish
    rw [h1, ← h2, ← h3]
  rw [e] at h
  refine ⟨fun pins s σ H D I q => ?_⟩
  exact wpAny_mono (h.run pins s σ H D (I.wish _) q) (fun f s' hs => SP.unwish hs) fun _ _ z => z.elim
section
variable {P : Program} {w : World} {K : PySem.W.Frag} {mg : Str → Option Value} {base : Heap} {T : Env1}
theorem fn_okE {x qual : Str} {st : Stmt} {f : Addr} {fd : FuncData} {N : List Str} {y : Str} {k : Nat} {g : LS} (F : Fun K x qual st f fd) (S : FnScope N [y] (defScope st))
    (hbody : ∀ (cdv : Value) (A : Around) (outer : List Env) (s : Shared) (H : Hp) (E : XK) (p : Addr × Obj) (cls : Value) (d : Option Addr), XIs (L2H.cxH (L2N.CX P w) P w K mg base N qual (defScope st) f cdv A outer s H E p) → L2N.Zn cls d p.2 → (∃ fl, p.2.data = .fields fl) → L2H.RoomH k (A.deeper (envOfC qual (defScope st) s.heap.objs.size f cdv)) →
      PSs (HCx P w K mg base N qual st f cdv A outer s H E p) (defBody st) (tLS K T (ξE T p.1 cls d) (fun _ _ _ _ => False) g)) :
    FnE P w K mg base (k + 1) f fd [y] (spE K T (mkE N.length g)) := by
  obtain ⟨oc, od, kV, doc, pm, an, cdv, ct, osl, rfl, lk, hcd⟩ := F.ex
  have hlen : ∀ p vs H Q E, spE K T (mkE N.length g) p vs H Q E → vs.length = ([y] : List Str).length := fun p vs H Q E h => by rw [h.1]; rfl
  refine ⟨hlen, fun A outer s H args us vs Q E p hr hot hpin e0 hb r hsp => ?_⟩
  have hl := hlen _ _ _ _ _ hsp
  obtain ⟨rfl, hfl, m, S0, c, fs0, dd, hz, xd, rel, hp⟩ := hsp
  have KX : K.In s.heap := e0.mod.kin.keeps fun b o e => (e0.bs b o e).1
  have room := hr.depth
  refine codeAny_call_function room (KX _ _ lk) rfl S.co S.gen rfl (PySem.W.codeRec_of KX hcd) (hb _ _ _ _ ?_)
  refine wpAny_newFunctionEnv_cells S.kind (fun ⟨n, v⟩ hy => ?_) fun env he s1 x1 => ?_
  · rcases S.par n (List.of_mem_zip hy).1 with q | q
    · exact .inl q
    · exact .inr ⟨q, PySem.W.cellsFrom_some _ _ _ (.inl q)⟩
  subst he
  have lim : s.heap.NoLimit := e0.mod.nolimit.keeps fun b o e => (e0.bs b o e).1
  refine ⟨lim.keeps x1.toInCall.keep, codeAny_func ?_⟩
  have I := L2H.inv_startH (CX := L2N.CX P w) (cd := cdv) (E := E) S hpin e0 hl r x1
  have body := hot_suite (X := L2H.cxH (L2N.CX P w) P w K mg base N qual (defScope st) f cdv A outer s H E p) (p := p) (by
    show (A.deeper _).mark _ = A.deeper _
    unfold Around.mark Around.deeper
    rw [hot.1]
    rfl) rfl rfl (hbody cdv A outer s H E p _ dd trivial hz hfl (hr.deeper _))
  have start : RSl K (ξE T p.1 (.ref (T.ca c)) dd) m H (([LV.exc c fs0]).map some ++ List.replicate (N.length - 1) none) (L2.start N [.ref p.1]) := by
    refine ⟨by simp [L2.start], fun i v hi => ?_⟩
    cases i with
    | zero =>
      simp at hi
      subst hi
      exact ⟨.ref p.1, by simp [L2.start], p.1, dd, rfl, ⟨rfl, rfl, rfl⟩, xd⟩
    | succ i =>
      simp [List.getElem?_replicate] at hi
  have hp2 : PoS K T (ξE T p.1 (.ref (T.ca c)) dd) m H (g (([LV.exc c fs0]).map some ++ List.replicate (N.length - 1) none) S0) { nx := fun _ H' => Q .non H', rt := Q } (fun _ _ _ _ => False) := by
    unfold mkE at hp
    simp only at hp
    cases e : g (([LV.exc c fs0]).map some ++ List.replicate (N.length - 1) none) S0 with
    | nx ds S2 =>
      rw [e] at hp
      have h2 := gcF_sound rel hp
      exact fun m' H' σ' E' r' rs' => h2 m' H' .non E' r' rfl
    | rt v S2 =>
      rw [e] at hp
      have h2 := gcF_sound rel hp
      exact fun m' H' x E' r' rv' => h2 m' H' x E' r' rv'
    | ex c2 fs ds S2 => rw [e] at hp; exact hp.elim
    | bk ds S2 => rw [e] at hp; exact hp.elim
    | ct ds S2 => rw [e] at hp; exact hp.elim
    | no => rw [e] at hp; exact hp.elim
  refine wpAny_mono (body.run [] s1 _ H _ I ⟨m, S0, _, rel, start, hp2⟩) (fun fl s' hs => ?_) fun e s' hs => hs
  have fin : ∀ {σ' : L2.St} {H' : Hp} {v : V} {u : Value}, Inv (L2H.cxH (L2N.CX P w) P w K mg base N qual (defScope st) f cdv A outer s H E p) [] σ' H' s' → RelV v u → Q v H' → CE outer P w H s Q u s' :=
    fun {σ' H' v u} J rv q => ⟨v, H', J.os, J.bare, J.base, J.hok, rv, q⟩
  cases fl with
  | ret u => obtain ⟨v, σ', H', J, rv, q⟩ := hs; exact fin J rv q
  | next => obtain ⟨σ', H', J, q⟩ := hs; exact fin (v := V.non) (u := Value.none) J rfl q
  | brk => obtain ⟨_, _, _, q⟩ := hs; exact q.elim
  | cont => obtain ⟨_, _, _, q⟩ := hs; exact q.elim
end
/-! ### the call -/
def lCallE (g : Fn) (i : Nat) : LE := fun ds S => match ds[i]? with
  | some (some (.exc c fs)) => g [.exc c fs] S
  | _ => .no
theorem run_E {X : Cx} {k : Nat} {f : Addr} {fd : FuncData} {ps : List Str} {sp : Addr × Obj → Sp} {E : XK} {pins : List (Addr × Obj)} {σ : L2.St} {H : Hp} {s : Shared} {Q : VK} {us : List Value} {vs : List V} {p : Addr × Obj}
    (F : FnE X.prog X.w X.K X.mg X.base k f fd ps sp) (hr : L2H.RoomH k X.A) (hot : L2H.Hot1 X.A p) (hp : p ∈ X.pn) (hb : Binds X.K fd ps []) (hx : PassesAt (L2N.CX X.prog X.w) X σ E) (I : Inv X pins σ H s) (r : Vals vs us) (h : sp p vs H Q E) :
    wpAny (model X.prog X.w) X.A (call (.ref f) us) (EP X pins σ Q) X.xe s := by
  have hl := F.len _ _ _ _ _ h
  have b := hb s us I.kIn (by rw [List.append_nil, ← r.length]; exact hl)
  rw [List.append_nil] at b
  obtain ⟨P1, P2, P3, P4, P5⟩ := I.pin p (List.mem_append_left _ hp)
  have hpin : L2H.PinOk X.stack H s p := ⟨P1, P2, fun hm => (List.mem_cons.mp (I.stkSub p.1 hm)).elim P3 P4, P5⟩
  have ran := F.run X.A X.stack s H ⟨us, []⟩ us vs Q E p hr hot hpin I.env0 b r h
  refine wpAny_call (codeAny_mono ran fun fin s' hq => ?_)
  cases fin with
  | error e => exact hx pins H s e s' I hq
  | ok fl =>
    cases fl with
    | ret u => exact I.after hq
    | next => exact hq.elim
    | brk => exact hq.elim
    | cont => exact hq.elim
section
variable {X : Cx} {T : Env1} {W : WX} {k i : Nat} {f : Addr} {fd : FuncData} {ps : List Str} {x y : Str} {p pe pos : Pos} {g : Fn}
theorem pl_callE {a : Addr} {oe : Obj} {cls : Value} {d : Option Addr} {pn : List (Addr × Obj)} (hz : L2N.Zn cls d oe) (hv : ∃ vs, oe.data = .fields vs) (F : FnE X.prog X.w X.K X.mg X.base k f fd ps (spE X.K T g)) (hr : Room k X.A)
    (hg : Gl X x) (hm : X.mg x = some (.ref f)) (hk : PySem.W.keepIn X.K (.ref f) = true) (hb : Binds X.K fd ps []) (hN : X.N[i]? = some y := by rfl) (hvv : Vis X.env.scope y := by first | exact Or.inl rfl | exact Or.inr (Or.inl rfl) | exact Or.inr (Or.inr rfl))
    (hd : (y == ("__debug__" : Str)) = false := by decide) (hcd : (y == ("__classdict__" : Str)) = false := by decide) (hdb : (x == ("__debug__" : Str)) = false := by decide)
    (he : starEach [.Name y pe] X.env = (false, eval (.Name y pe) X.env) :: starEach [] X.env := by rfl) (hpl : (backTo pos (starEach [] X.env)).any (·.1) = false := by rfl) :
    PE (X.suite a ((a, oe) :: pn)) (.Call (.Name x p) [.Name y pe] [] pos) (tL X.K T (ξE T a cls d) (fun _ _ _ _ => False) (lCallE g i)) := by
  refine ⟨fun pins s σ H Q I h => ?_⟩
  obtain ⟨m, S, ds, r, rs, h⟩ := h
  unfold lCallE at h
  split at h
  · rename_i c fs hi
    obtain ⟨xx, h1, a', d', ex, ⟨ea, ec, ed⟩, xd⟩ := rs.at_ i _ hi
    subst ex ea ec ed
    obtain ⟨fl, hfl⟩ := hv
    refine wpAny_Call_Name_kw (ld_glob (X := X.suite a' ((a', oe) :: pn)) I hg hm ?_ hdb)
    have arg := (pa_cons (X := X.suite a' ((a', oe) :: pn)) (pe_var (i := i) hN hvv hd hcd) pa_nil he).run pos pins s σ H (fun vs H1 => vs = [.ref a'] ∧ spE X.K T g (a', oe) vs H1 Q (fun _ _ _ => False)) I ⟨.ref a', h1, rfl, rfl, ⟨fl, hfl⟩, m, S, c, fs, d', hz, xd, r, h⟩
    refine PySem.W.callWith_K (h₀ := X.base) I.ok.mod.kin hk (thn arg fun us s1 ⟨vs, H1, I1, rv, ev, q⟩ => ⟨I1.kIn, ?_⟩) he hpl
    exact run_E (X := X.suite a' ((a', oe) :: pn)) F ⟨hr.dp, hr.un⟩ ⟨rfl, fl, hfl, hz.2.2 fl hfl⟩ List.mem_cons_self hb (fun _ _ _ _ _ _ z => by
      obtain ⟨_, _, _, _, _, _, _, _, _, _, _, _, z⟩ := z
      exact z.elim) I1 rv q
  · exact h.elim
end
theorem tk0 {X : Cx} : L2N.Takes X fun _ _ _ _ => False := fun u s' h => by
  obtain ⟨_, _, _, _, _, _, _, _, _, _, _, _, _, _, _, _, w⟩ := h
  exact w.elim
@[simp] theorem e_callE0 {g : Fn} {c : Nat} {fs : List LV} {ds : Sl} {S : Sto} : lCallE g 0 (some (.exc c fs) :: ds) S = g [.exc c fs] S := (rfl)
@[simp] theorem e_callES {g : Fn} {i : Nat} {x : Option LV} {ds : Sl} {S : Sto} : lCallE g (i + 1) (x :: ds) S = lCallE g i ds S := by simp [lCallE]
theorem e_fnE {N c : Nat} {fs : List LV} {g : LS} {S : Sto} : mkE N g [.exc c fs] S = match g (some (.exc c fs) :: List.replicate (N - 1) none) S with
    | .nx _ S' => gcF S (.ok .non S')
    | .rt v S' => gcF S (.ok v S')
    | _ => .no := (rfl)
end LL


set_option Elab.async false
set_option linter.all false
set_option maxRecDepth 100000
set_option maxHeartbeats 2000000
/-! The logical layer: reckoning with lists that are changed, dicts, loops with a count. -/
namespace LL
open PySem PySem.Spec PyProof.Rows L2
section
variable {S U : Sto} {n k : Nat} {xs ys : List LV} {u v w : LV} {o o' : LO} {ds : Sl} {j : Int}
theorem get_lt (h : S[n]? = some o) : n < S.length := (List.getElem?_eq_some_iff.mp h).1
theorem get_old (h : S[n]? = some o) : (S ++ U)[n]? = some o := by rw [List.getElem?_append_left (get_lt h)]; exact h
theorem get_set (h : S[n]? = some o) : (S.set n o')[n]? = some o' := List.getElem?_set_self (get_lt h)
theorem get_setn (h : k ≠ n) : (S.set k o')[n]? = S[n]? := List.getElem?_set_ne h
mutual
theorem low_mono {n m : Nat} (hm : n ≤ m) : ∀ v : LV, lowV n v = true → lowV m v = true
  | .ref k, h => by rw [low_ref] at h ⊢; exact decide_eq_true (Nat.lt_of_lt_of_le (of_decide_eq_true h) hm)
  | .tup xs, h => lows_mono hm xs h
  | .ktp xs, h => lows_mono hm xs h
  | .lst xs, h => lows_mono hm xs h
  | .non, _ => rfl
  | .bl _, _ => rfl
  | .int _, _ => rfl
  | .str _, _ => rfl
  | .ty _, _ => rfl
  | .scr _, _ => rfl
  | .cls _, _ => rfl
  | .exc _ _, _ => rfl
theorem lows_mono {n m : Nat} (hm : n ≤ m) : ∀ vs : List LV, lowVs n vs = true → lowVs m vs = true
  | [], _ => rfl
  | v :: vs, h => by
    rw [lows_cons, Bool.and_eq_true] at h ⊢
    exact ⟨low_mono hm v h.1, lows_mono hm vs h.2⟩
end
theorem fz_low {k n : Nat} : ∀ v : LV, fz n v = true → lowV k v = true := by
  induction n with
  | zero => intro v h; cases v <;> first | rfl | cases h
  | succ n ih =>
    intro v h
    cases v with
    | tup xs => exact lows_all.mpr fun v hv => ih v (List.all_eq_true.mp h v hv)
    | lst xs => exact lows_all.mpr fun v hv => ih v (List.all_eq_true.mp h v hv)
    | ref _ => cases h
    | ktp _ => cases h
    | _ => rfl
theorem fzs_low {k n : Nat} {vs : List LV} (h : vs.all (fz n) = true) : lowVs k vs = true := lows_all.mpr fun v hv => fz_low v (List.all_eq_true.mp h v hv)
theorem fz_mono {n m : Nat} : ∀ (hm : n ≤ m) (v : LV), fz n v = true → fz m v = true := by
  induction n generalizing m with
  | zero => intro _ v h; cases v <;> first | (cases m <;> exact h) | cases h
  | succ n ih =>
    intro hm v h
    obtain ⟨m, rfl⟩ : ∃ k, m = k + 1 := ⟨m - 1, by omega⟩
    cases v with
    | tup xs => exact List.all_eq_true.mpr fun v hv => ih (by omega) v (List.all_eq_true.mp h v hv)
    | lst xs => exact List.all_eq_true.mpr fun v hv => ih (by omega) v (List.all_eq_true.mp h v hv)
    | _ => first | exact h | cases h
theorem fzs_mono {n m : Nat} (hm : n ≤ m) {vs : List LV} (h : vs.all (fz n) = true) : vs.all (fz m) = true := List.all_eq_true.mpr fun v hv => fz_mono hm v (List.all_eq_true.mp h v hv)
theorem set_same (h : S[n]? = some o) : S.set n o = S := by
  apply List.ext_getElem?
  intro i
  by_cases e : n = i
  · subst e; rw [get_set h, h]
  · rw [get_setn e]
theorem bm1_r {m : OpM} {fr : LA} (h : S[n]? = some (.lst xs)) : bm1 "list" m fr ds (.ok (.ref n) S) = bm2 m (.ref n) (fr ds S) := bm1_ok (by simp [isT, kindL, h])
theorem bm0_r {m : OpM} (h : S[n]? = some (.lst xs)) : bm0 "list" m (.ok (.ref n) S) = m (.ref n) [] S := bm0_ok (by simp [isT, kindL, h])
theorem append_ok (h : S[n]? = some (.lst xs)) (hl : xs.length < 16777216) : appendL (.ref n) [v] S = .ok .non (S.set n (.lst (xs ++ [v]))) := by
  simp only [appendL, h]
  rw [if_pos (by unfold small; exact decide_eq_true hl)]
theorem clear_ok (h : S[n]? = some (.lst xs)) : clearL (.ref n) [] S = .ok .non (S.set n (.lst [])) := by simp only [clearL, h]
theorem len_r (h : S[n]? = some (.lst xs)) : lenL [.ref n] S = .ok (.int xs.length) S := by simp [lenL, lenO, h]
theorem iter_r (h : S[n]? = some (.lst xs)) : iterO (.ref n) S = .ok (itRef n xs.length) S := by simp [iterO, h]
theorem ix_v (h : lsO v S = some xs) (h0 : 0 ≤ j) (hu : xs[j.toNat]? = some u) : ixL v (.int j) S = .ok u S := by
  unfold lsO at h
  split at h
  · cases h
    simp only [ixL, ixO, atI_nn h0, hu]
  · rename_i n
    split at h
    · rename_i zs hn
      cases h
      exact ix_l hn h0 hu
    · cases h
  · cases h
theorem ix_last (h : lsO v S = some xs) (hu : xs[xs.length - 1]? = some u) : ixL v (.int (-1)) S = .ok u S := by
  unfold lsO at h
  split at h
  · cases h
    simp only [ixL, ixO, atI_m1, hu]
  · rename_i n
    split at h
    · rename_i zs hn
      cases h
      simp only [ixL, ixO, hn, atI_m1, hu]
    · cases h
  · cases h
theorem tuple_ls (h : lsO v S = some xs) : tupleL [v] S = .ok (.tup xs) S := by
  unfold lsO at h
  split at h
  · cases h; rfl
  · rename_i n
    split at h
    · rename_i zs hn
      cases h
      simp [tupleL, lsO, hn]
    · cases h
  · cases h
@[simp] theorem tuple_t : tupleL [.tup xs] S = .ok (.tup xs) S := (rfl)
theorem list_ls {t : Bool} (h : lsO v S = some xs) : listG t [v] S = newL t xs S := by
  unfold lsO at h
  split at h
  · cases h; rfl
  · rename_i n
    split at h
    · rename_i zs hn
      cases h
      simp only [listG, itemsO, lsO, hn]
    · cases h
  · cases h
@[simp] theorem isi_lv {n : String} : isiL [.lst xs, .ty n] S = (match isiT "list" n with | some b => .ok (.bl b) S | none => .no) := (rfl)
theorem isi_r {n : Nat} {k : String} (h : S[n]? = some (.lst xs)) : isiL [.ref n, .ty k] S = (match isiT "list" k with | some b => .ok (.bl b) S | none => .no) := by
  simp [isiL, kindL, h]
  all_goals rfl
end
/-! ### lists compared -/
theorem ls_cases {S : Sto} {v : LV} {xs : List LV} (h : lsO v S = some xs) : v = .lst xs ∨ ∃ n, v = .ref n ∧ S[n]? = some (.lst xs) := by
  unfold lsO at h
  split at h
  · cases h; exact .inl rfl
  · rename_i n
    split at h
    · rename_i zs hn
      cases h
      exact .inr ⟨n, rfl, hn⟩
    · cases h
  · cases h
theorem eq_ls {S : Sto} {v w : LV} {xs ys : List LV} (hv : lsO v S = some xs) (hw : lsO w S = some ys) (fx : xs.all (fz 59) = true) (fy : ys.all (fz 59) = true) : eqL v w S = .ok (.bl (veqs xs ys)) S := by
  have e := eq_fz (v := .lst xs) (w := .lst ys) (S := S) fx fy
  rcases ls_cases hv with rfl | ⟨n, rfl, hn⟩ <;> rcases ls_cases hw with rfl | ⟨k, rfl, hk⟩
  · exact e
  · rw [eq_refR hk]; exact e
  · rw [eq_refL hn]; exact e
  · rw [eq_refL hn, eq_refR hk]; exact e
theorem ne_ls {S : Sto} {v w : LV} {xs ys : List LV} (hv : lsO v S = some xs) (hw : lsO w S = some ys) (fx : xs.all (fz 59) = true) (fy : ys.all (fz 59) = true) : neL v w S = .ok (.bl !(veqs xs ys)) S := by
  have e := ne_fz (v := .lst xs) (w := .lst ys) (S := S) fx fy
  rcases ls_cases hv with rfl | ⟨n, rfl, hn⟩ <;> rcases ls_cases hw with rfl | ⟨k, rfl, hk⟩
  · exact e
  · rw [ne_refR hk]; exact e
  · rw [ne_refL hn]; exact e
  · rw [ne_refL hn, ne_refR hk]; exact e
theorem veqs_e (xs : List LV) : veqs xs [] = xs.isEmpty := by cases xs <;> rfl
theorem eq_e {S : Sto} {v : LV} {xs : List LV} (hv : lsO v S = some xs) (fx : xs.all (fz 59) = true) : eqL v (.lst []) S = .ok (.bl xs.isEmpty) S := by rw [eq_ls hv rfl fx rfl, veqs_e]
theorem ne_e {S : Sto} {v : LV} {xs : List LV} (hv : lsO v S = some xs) (fx : xs.all (fz 59) = true) : neL v (.lst []) S = .ok (.bl !xs.isEmpty) S := by rw [ne_ls hv rfl fx rfl, veqs_e]
theorem ints_fz {n : Nat} (is : List Int) : (is.map LV.int).all (fz n) = true := by simp
theorem blsL_map (bs : List Bool) : blsL (bs.map LV.bl) = some bs := by
  induction bs with
  | nil => rfl
  | cons b bs ih =>
    unfold blsL at ih ⊢
    rw [List.map_cons, List.map_cons]
    unfold seqO
    rw [ih]
theorem all_bls {S : Sto} {v : LV} {bs : List Bool} (hv : lsO v S = some (bs.map .bl)) : allL [v] S = .ok (.bl (bs.all id)) S := by
  simp only [allL, hv, blsL_map]
theorem in_ls {S : Sto} {v w : LV} {xs : List LV} (hw : lsO w S = some xs) (fv' : flatL v = true) (fx : xs.all flatL = true) : inL v w S = .ok (.bl (xs.any fun y => eqV (fv y) (fv v))) S := by
  have e : ∀ o : Option Bool, inO v w S = o → inL v w S = match o with | some b => .ok (.bl b) S | none => .no := fun o h => by unfold inL; rw [h]; all_goals rfl
  rcases ls_cases hw with rfl | ⟨n, rfl, hn⟩
  · rw [e (some (inV (fv v) (xs.map fv))) (by simp [inO, fv', fx])]
    simp [inV, List.any_map, Function.comp_def]
  · rw [e (some (inV (fv v) (xs.map fv))) (by simp [inO, inD, hn, fv', fx])]
    simp [inV, List.any_map, Function.comp_def]
theorem nin_ls {S : Sto} {v w : LV} {xs : List LV} (hw : lsO w S = some xs) (fv' : flatL v = true) (fx : xs.all flatL = true) : notinL v w S = .ok (.bl !(xs.any fun y => eqV (fv y) (fv v))) S := by
  have e : ∀ o : Option Bool, inO v w S = o → notinL v w S = match o with | some b => .ok (.bl !b) S | none => .no := fun o h => by unfold notinL; rw [h]; all_goals rfl
  rcases ls_cases hw with rfl | ⟨n, rfl, hn⟩
  · rw [e (some (inV (fv v) (xs.map fv))) (by simp [inO, fv', fx])]
    simp [inV, List.any_map, Function.comp_def]
  · rw [e (some (inV (fv v) (xs.map fv))) (by simp [inO, inD, hn, fv', fx])]
    simp [inV, List.any_map, Function.comp_def]
theorem set_old {S U : Sto} {n : Nat} {o o' : LO} (h : S[n]? = some o) : (S ++ U).set n o' = S.set n o' ++ U := List.set_append_left _ _ (get_lt h)
theorem ItIs.refm {α : Type} {S : Sto} {n : Nat} {ws : List α} {g : α → LV} (h : S[n]? = some (.lst (ws.map g))) : ItIs S (itRef n ws.length) (ws.map g) := by
  rw [← List.length_map (f := g)]
  exact .ref h
theorem strOk_of {z : Str} (h : ∀ c ∈ tl z, c < 128) : PyData.strOk z = true := (Fine.mk (n := z.length) (Nat.le_refl _) h).ok
def natV (k : Nat) : LV := .int k
@[simp] theorem natV_e (k : Nat) : natV k = .int k := (rfl)
/-- one of two orders -/
def waysL (x : Int) : List Int := if x % 2 = 0 then [0, 1] else [1, 0]
theorem ways2 (x : Int) (S : Sto) : ixL (.lst [.tup [.int 0, .int 1], .tup [.int 1, .int 0]]) (.int (x % 2)) S = .ok (.tup ((waysL x).map .int)) S := by
  have : x % 2 = 0 ∨ x % 2 = 1 := by omega
  rcases this with h | h <;> simp [ixL, ixO, waysL, h] <;> rfl
theorem ways2_b {x w : Int} (h : w ∈ waysL x) : w = 0 ∨ w = 1 := by
  unfold waysL at h
  split at h <;> simp at h <;> omega
theorem ix_any (xs : List LV) (j : Int) (h0 : 0 ≤ j) (h1 : j < xs.length) : ∃ v ∈ xs, ∀ S, ixL (.lst xs) (.int j) S = .ok v S := by
  have hj : j.toNat < xs.length := by omega
  exact ⟨xs[j.toNat], List.getElem_mem hj, fun S => ix_v (ls_l (S := S)) h0 (List.getElem?_eq_getElem hj)⟩
/-! ### texts times 0 or 1 -/
theorem mul_s1 {t : Bool} {a : Str} {S : Sto} (h : a.length ≤ 100000) : mulG t (.str a) (.int 1) S = .ok (.str a) S := by
  have : okRep a.length 1 = true := by
    unfold okRep
    rw [decide_eq_true (by decide), decide_eq_true (by decide), decide_eq_true (by show a.length * 1 ≤ _; omega)]
    rfl
  show (if okRep a.length 1 = true then R.ok (.str (Txt.mul a 1)) S else .no) = _
  rw [if_pos this]
  simp [Txt.mul]
theorem mul_s0 {t : Bool} {a : Str} {S : Sto} : mulG t (.str a) (.int 0) S = .ok (.str ("" : Str)) S := by
  have : okRep a.length 0 = true := by
    unfold okRep
    rw [decide_eq_true (by decide), decide_eq_true (by decide), decide_eq_true (by show a.length * 0 ≤ _; omega)]
    rfl
  show (if okRep a.length 0 = true then R.ok (.str (Txt.mul a 0)) S else .no) = _
  rw [if_pos this]
  rfl
@[simp] theorem app_e1 (a : Str) : ("" : Str) ++ a = a := tl_ext (by rw [tl_app]; rfl)
@[simp] theorem app_e2 (a : Str) : a ++ ("" : Str) = a := tl_ext (by rw [tl_app, tl_emp, List.append_nil])
@[simp] theorem len_emp : ("" : Str).length = 0 := (rfl)
theorem hit_0 {c : Nat} {b : Bool} {l : List (Nat × Bool)} : hitA ((c, b) :: l) c = some b := by simp [hitA]
/-! ### months by their days -/
theorem mon_lt {k l : Int} (h : 0 ≤ k) (h2 : k < l) : monL k < monF l := by
  unfold monL monF
  have bk := monM_b k
  have bl := monM_b l
  have hb := befo_b (y := monY l) bl.1 bl.2
  by_cases c : monY k < monY l
  · have h1 := befo_le (y := monY k) bk.1 bk.2
    have h2 := ahead_step (y := monY k) (by unfold monY; omega)
    have h3 := ahead_lt (y := monY k) (z := monY l) (by unfold monY; omega) c
    omega
  · have e : monY k = monY l := by unfold monY at c ⊢; omega
    have := befo_mono (y := monY l) (m := monM k) (n := monM l) bk.1 (by unfold monY at e; unfold monM; omega) bl.2
    rw [e]
    omega
theorem day_mon {y m p k : Int} (D : Day y m p) (h : 0 ≤ k) : k < 12 * (y - 2000) + m - 1 ↔ monL k < dayN y m p := by
  obtain ⟨e1, e2⟩ := mon_of y m D.m0 D.m1
  have y0 := D.y0
  have m0 := D.m0
  have p0 := D.p0
  have p1 := D.p1
  generalize hK : 12 * (y - 2000) + m - 1 = K at *
  have hd : dayN y m p = monF K + p - 1 := by rw [← e1, ← e2]; rfl
  have hl : monL K = monF K + mlen y m - 1 := by unfold monL; rw [e1, e2]
  constructor
  · intro c
    have := mon_lt h c
    omega
  · intro c
    rcases Int.lt_trichotomy k K with z | z | z
    · exact z
    · subst z; omega
    · have := mon_lt (k := K) (by omega) z
      have b := mlen_b (y := monY k) (monM_b k).1 (monM_b k).2
      have : monL k = monF k + mlen (monY k) (monM k) - 1 := rfl
      omega
theorem monF_nn {k : Int} (h : 0 ≤ k) : 0 ≤ monF k := by
  have := befo_b (y := monY k) (monM_b k).1 (monM_b k).2
  have h2 := ahead_mono (y := 2000) (z := monY k) (by omega) (by unfold monY; omega)
  rw [ahead_2000] at h2
  unfold monF
  omega
theorem monL_le {k : Int} (h : 0 ≤ k) (h2 : k ≤ 4799) : monL k ≤ 146096 := by
  by_cases c : k = 4799
  · subst c; rw [monL_4799]; exact Int.le_refl _
  · have := mon_lt h (l := 4799) (by omega)
    have e := monL_4799
    have : monL 4799 = monF 4799 + mlen (monY 4799) (monM 4799) - 1 := rfl
    have b := mlen_b (y := monY 4799) (monM_b 4799).1 (monM_b 4799).2
    omega
theorem monF_le (k : Int) : monF k ≤ monL k := by
  have b := mlen_b (y := monY k) (monM_b k).1 (monM_b k).2
  have : monL k = monF k + mlen (monY k) (monM k) - 1 := rfl
  omega
/-! ### dicts -/
section
variable {S : Sto} {n : Nat} {kvs : List (Key × LV)} {v w : LV} {i : Int} {k : Key}
theorem isDc_ref (h : S[n]? = some (.dct kvs)) : isDc (.ref n) S = true := by simp [isDc, h, dKs]
theorem got_d (h : S[n]? = some (.dct kvs)) (hk : keyL v = some k) : gotO (.ref n) v w S = .ok ((getK kvs k).getD w) S := by
  simp [gotO, getOv, h, dKs, hk]
theorem put_d (h : S[n]? = some (.dct kvs)) (hk : keyL v = some k) (hs : kvs.length < 16777216) : putO (.ref n) v w S = some (S.set n (.dct (putL kvs k w))) := by
  simp only [putO, h, hk]
  rw [if_pos (by unfold small; exact decide_eq_true hs)]
theorem in_d (h : S[n]? = some (.dct kvs)) (hk : keyL v = some k) : inL v (.ref n) S = .ok (.bl (getK kvs k).isSome) S := by
  simp [inL, inO, inD, h, getOv, dKs, hk]
theorem nin_d (h : S[n]? = some (.dct kvs)) (hk : keyL v = some k) : notinL v (.ref n) S = .ok (.bl !(getK kvs k).isSome) S := by
  simp [notinL, inO, inD, h, getOv, dKs, hk]
end
def get1 (fk : LE) (ds : Sl) : R → R
  | .ok v S => if isDc v S = true then (fk ds S).bind fun u S2 => gotO v u .non S2 else .no
  | .ex c fs S => .ex c fs S
  | .no => .no
def get1b (v : LV) : R → R
  | .ok u S => gotO v u .non S
  | .ex c fs S => .ex c fs S
  | .no => .no
@[simp] theorem e_get1 {fo fk : LE} {ds : Sl} {S : Sto} : lGet1 fo fk ds S = get1 fk ds (fo ds S) := by unfold lGet1; cases fo ds S <;> rfl
theorem get1_ok {fk : LE} {ds : Sl} {S : Sto} {v : LV} (h : isDc v S = true) : get1 fk ds (.ok v S) = get1b v (fk ds S) := by
  unfold get1
  simp only [h, if_true]
  cases fk ds S <;> rfl
@[simp] theorem get1b_ok {v u : LV} {S : Sto} : get1b v (.ok u S) = gotO v u .non S := (rfl)
/-! ### methods -/
theorem meth_t0 {c n : Nat} {g : Fn} {l : List (Nat × Fn)} {fa : LA} {ds : Sl} {S : Sto} {vs : List LV} (h : S[n]? = some (.ins c vs)) : meth1 (tabA ((c, g) :: l)) fa ds (.ok (.ref n) S) = meth2 g (.ref n) (fa ds S) := meth1_ok h (by simp [tabA])
theorem meth_t1 {c c' n : Nat} {g : Fn} {l : List (Nat × Fn)} {fa : LA} {ds : Sl} {S : Sto} {vs : List LV} (h : S[n]? = some (.ins c vs)) (e : c' ≠ c) : meth1 (tabA ((c', g) :: l)) fa ds (.ok (.ref n) S) = meth1 (tabA l) fa ds (.ok (.ref n) S) := by
  show methK _ _ _ _ _ = methK _ _ _ _ _
  simp [methK, clsO, h, tabA, e]
@[simp] theorem e_rng3 {fr : LA} {ds : Sl} {S : Sto} : lRng3 fr ds S = ita1 rng3O (fr ds S) := by unfold lRng3; cases fr ds S <;> rfl
@[simp] theorem e_enum {fr : LA} {ds : Sl} {S : Sto} : lEnum fr ds S = ita1 enumO (fr ds S) := by unfold lEnum; cases fr ds S <;> rfl
/-! ### for, with a count -/
theorem forK_idx {α β J : Type} {lg : LG} {fb : LS} {l : LIt} {ws : List β} {g : β → LV} (D : α → J → Sl) (T : α → Sto) (step : α → β → Except RS α) (P : Nat → α → Prop) (hl : ∀ i a, P i a → ItIs (T a) l (ws.map g))
    (h : ∀ i b, ws[i]? = some b → ∀ a j, P i a → match step a b with
      | .ok a' => P (i + 1) a' ∧ ∃ j', turn lg fb (g b) (D a j) (T a) = .nx (D a' j') (T a')
      | .error r => turn lg fb (g b) (D a j) (T a) = r ∧ (match r with | .nx _ _ => False | .ct _ _ => False | .bk _ _ => False | _ => True)) :
    ∀ (k i : Nat) (a : α) (j : J), i + k = ws.length → P i a → match (ws.drop i).foldlM step a with
      | .ok a' => P ws.length a' ∧ ∃ j', forK l lg fb k i (D a j) (T a) = .nx (D a' j') (T a')
      | .error r => forK l lg fb k i (D a j) (T a) = r
  | 0, i, a, j, e, p => by
    have : ws.drop i = [] := List.drop_eq_nil_of_le (by omega)
    rw [this]
    have ei : i = ws.length := by omega
    subst ei
    refine ⟨p, j, ?_⟩
    unfold forK
    rw [if_pos (hl _ a p).fine]
  | k + 1, i, a, j, e, p => by
    have hi : i < ws.length := by omega
    rw [List.drop_eq_getElem_cons hi, List.foldlM_cons]
    have q := h i ws[i] (List.getElem?_eq_getElem hi) a j p
    have it := (hl i a p).item (i := i) (v := g ws[i]) (by rw [List.getElem?_map, List.getElem?_eq_getElem hi]; rfl)
    unfold forK
    rw [it]
    simp only
    unfold turn at q
    cases hd : lg (g ws[i]) (T a) (D a j) with
    | none =>
      rw [hd] at q
      cases hs : step a ws[i] with
      | ok a' =>
        rw [hs] at q
        obtain ⟨_, _, q⟩ := q
        cases q
      | error r =>
        rw [hs] at q
        exact q.1
    | some ds1 =>
      rw [hd] at q
      simp only at q ⊢
      cases hs : step a ws[i] with
      | ok a' =>
        rw [hs] at q
        obtain ⟨pa, j', q⟩ := q
        have ih := forK_idx D T step P hl h k (i + 1) a' j' (by omega) pa
        show match (ws.drop (i + 1)).foldlM step a' with | .ok a' => _ | .error r => _
        cases hf : fb ds1 (T a) with
        | nx ds2 S2 =>
          rw [hf] at q
          cases q
          exact ih
        | ct ds2 S2 =>
          rw [hf] at q
          cases q
          exact ih
        | _ => rw [hf] at q; cases q
      | error r =>
        rw [hs] at q
        obtain ⟨q, q2⟩ := q
        show (match fb ds1 (T a) with | .nx ds2 S2 => forK l lg fb k (i + 1) ds2 S2 | .ct ds2 S2 => forK l lg fb k (i + 1) ds2 S2 | .bk ds2 S2 => .nx ds2 S2 | r => r) = r
        cases hf : fb ds1 (T a) with
        | nx ds2 S2 => rw [hf] at q; subst q; exact q2.elim
        | ct ds2 S2 => rw [hf] at q; subst q; exact q2.elim
        | bk ds2 S2 => rw [hf] at q; subst q; exact q2.elim
        | _ => rw [hf] at q; exact q
/-- each turn a step that keeps what holds behind so many -/
theorem for_idx {α β J : Type} {lg : LG} {fb : LS} {l : LIt} {ws : List β} {g : β → LV} (D : α → J → Sl) (T : α → Sto) (f : α → β → α) (P : Nat → α → Prop) (hl : ∀ i a, P i a → ItIs (T a) l (ws.map g))
    (h : ∀ i b, ws[i]? = some b → ∀ a j, P i a → P (i + 1) (f a b) ∧ ∃ j', turn lg fb (g b) (D a j) (T a) = .nx (D (f a b) j') (T (f a b))) (a : α) (j : J) (p : P 0 a) :
    P ws.length (ws.foldl f a) ∧ ∃ j', forS lg fb (D a j) (.ok l (T a)) = .nx (D (ws.foldl f a) j') (T (ws.foldl f a)) := by
  have := forK_idx (lg := lg) (fb := fb) (l := l) (ws := ws) (g := g) D T (fun a b => .ok (f a b)) P hl (fun i b hb a j p => h i b hb a j p) ws.length 0 a j (by omega) p
  rw [List.drop_zero, foldlM_ok] at this
  have e : forS lg fb (D a j) (.ok l (T a)) = forK l lg fb ws.length 0 (D a j) (T a) := by
    show forK l lg fb l.n 0 _ _ = _
    rw [(hl 0 a p).n, List.length_map]
  rw [e]
  exact this
/-- .. each turn some step -/
theorem forK_rel {α β J : Type} {lg : LG} {fb : LS} {l : LIt} {ws : List β} {g : β → LV} (D : α → J → Sl) (T : α → Sto) (P : Nat → α → Prop) (hl : ∀ i a, P i a → ItIs (T a) l (ws.map g))
    (h : ∀ i b, ws[i]? = some b → ∀ a j, P i a → ∃ a', P (i + 1) a' ∧ ∃ j', turn lg fb (g b) (D a j) (T a) = .nx (D a' j') (T a')) :
    ∀ (k i : Nat) (a : α) (j : J), i + k = ws.length → P i a → ∃ a', P ws.length a' ∧ ∃ j', forK l lg fb k i (D a j) (T a) = .nx (D a' j') (T a')
  | 0, i, a, j, e, p => by
    have ei : i = ws.length := by omega
    subst ei
    refine ⟨a, p, j, ?_⟩
    unfold forK
    rw [if_pos (hl _ a p).fine]
  | k + 1, i, a, j, e, p => by
    have hi : i < ws.length := by omega
    obtain ⟨a', pa, j', q⟩ := h i ws[i] (List.getElem?_eq_getElem hi) a j p
    have it := (hl i a p).item (i := i) (v := g ws[i]) (by rw [List.getElem?_map, List.getElem?_eq_getElem hi]; rfl)
    obtain ⟨a2, p2, j2, q2⟩ := forK_rel D T P hl h k (i + 1) a' j' (by omega) pa
    refine ⟨a2, p2, j2, ?_⟩
    unfold forK
    rw [it]
    simp only
    unfold turn at q
    cases hd : lg (g ws[i]) (T a) (D a j) with
    | none => rw [hd] at q; cases q
    | some ds1 =>
      rw [hd] at q
      simp only at q ⊢
      cases hf : fb ds1 (T a) with
      | nx ds2 S2 => rw [hf] at q; cases q; exact q2
      | ct ds2 S2 => rw [hf] at q; cases q; exact q2
      | _ => rw [hf] at q; cases q
theorem for_rel {α β J : Type} {lg : LG} {fb : LS} {l : LIt} {ws : List β} {g : β → LV} (D : α → J → Sl) (T : α → Sto) (P : Nat → α → Prop) (hl : ∀ i a, P i a → ItIs (T a) l (ws.map g))
    (h : ∀ i b, ws[i]? = some b → ∀ a j, P i a → ∃ a', P (i + 1) a' ∧ ∃ j', turn lg fb (g b) (D a j) (T a) = .nx (D a' j') (T a')) (a : α) (j : J) (p : P 0 a) :
    ∃ a', P ws.length a' ∧ ∃ j', forS lg fb (D a j) (.ok l (T a)) = .nx (D a' j') (T a') := by
  have e : forS lg fb (D a j) (.ok l (T a)) = forK l lg fb ws.length 0 (D a j) (T a) := by
    show forK l lg fb l.n 0 _ _ = _
    rw [(hl 0 a p).n, List.length_map]
  rw [e]
  exact forK_rel D T P hl h ws.length 0 a j (by omega) p
/-- .. each turn leaves the store -/
theorem for_all {β J : Type} {lg : LG} {fb : LS} {l : LIt} {S : Sto} {ws : List β} {g : β → LV} (D : J → Sl) (hl : ItIs S l (ws.map g)) (h : ∀ b ∈ ws, ∀ j, ∃ j', turn lg fb (g b) (D j) S = .nx (D j') S) (j : J) : ∃ j', forS lg fb (D j) (.ok l S) = .nx (D j') S :=
  (for_fold (lg := lg) (fb := fb) (l := l) (ws := ws) (g := g) (fun (_ : Unit) => D) (fun _ => S) (fun _ _ => ()) (fun _ => True) (fun _ _ => hl) (fun b hb _ j _ => ⟨trivial, h b hb j⟩) () j trivial).2
/-- .. turn by turn -/
theorem forL_cons {lg : LG} {fb : LS} {v : LV} {xs : List LV} {ds ds1 : Sl} {S S1 : Sto} (h : turn lg fb v ds S = .nx ds1 S1) : forL lg fb (v :: xs) ds S = forL lg fb xs ds1 S1 := by
  unfold turn at h
  conv => lhs; unfold forL
  cases hd : lg v S ds with
  | none => rw [hd] at h; cases h
  | some d =>
    rw [hd] at h
    simp only at h ⊢
    cases hf : fb d S with
    | nx ds2 S2 => rw [hf] at h; cases h; rfl
    | ct ds2 S2 => rw [hf] at h; cases h; rfl
    | _ => rw [hf] at h; cases h
theorem forL_nil {lg : LG} {fb : LS} {ds : Sl} {S : Sto} : forL lg fb [] ds S = .nx ds S := (rfl)
theorem seqO_app {α : Type} {a b : List (Option α)} {x y : List α} (h : seqO a = some x) (k : seqO b = some y) : seqO (a ++ b) = some (x ++ y) := by
  induction a generalizing x with
  | nil => cases h; exact k
  | cons o a ih =>
    cases o with
    | none => unfold seqO at h; cases h
    | some u =>
      unfold seqO at h
      cases hs : seqO a with
      | none => rw [hs] at h; cases h
      | some z =>
        rw [hs] at h
        cases h
        rw [List.cons_append]
        unfold seqO
        rw [ih hs]
        rfl
/-- what was older can't let go of what is new: all is kept -/
theorem seqO_none {α : Type} : ∀ {l : List (Option α)}, none ∈ l → seqO l = none
  | x :: l, h => by
    unfold seqO
    rcases List.mem_cons.mp h with e | e
    · rw [← e]
    · cases x with
      | none => rfl
      | some y => simp only [seqO_none e]
theorem gc_keep {S S' : Sto} {v : LV} {i : Nat} {o : LO} (hi : i < S.length) (h1 : S'[i]? = some o) (h2 : S[i]? ≠ some o) (h3 : frzO S' S.length S'.length 60 o = none) : gcF S (.ok v S') = .ok v S' := by
  have : gcS S S' S'.length = none := seqO_none (List.mem_map.mpr ⟨i, List.mem_range.mpr hi, by
    unfold gcO
    rw [if_neg (by rw [h1]; exact fun e => h2 e.symm), h1]
    exact h3⟩)
  unfold gcF
  simp only [this]
/-- a turn -/
theorem turn_nm {i : Nat} {fb : LS} {v : LV} {ds : Sl} {S : Sto} : turn (gNm i) fb v ds S = match fb (ds.set i (some v)) S with
    | .ct ds2 S2 => .nx ds2 S2
    | r => r := (rfl)
end LL


set_option Elab.async false
set_option linter.all false
set_option maxRecDepth 100000
set_option maxHeartbeats 2000000
/-! The logical layer: sorted. -/
namespace LL
open PySem PySem.Spec PyProof.Rows L2
/-- a value that holds no number, of so much depth -/
def dz : Nat → LV → Bool
  | _, .non => true
  | _, .bl _ => true
  | _, .int _ => true
  | _, .str _ => true
  | f + 1, .tup xs => xs.all (dz f)
  | f + 1, .lst xs => xs.all (dz f)
  | _, _ => false
theorem dz_pds {S : Sto} {f : Nat} (ih : ∀ v, dz f v = true → dat S f v = some (pd v)) : ∀ xs : List LV, xs.all (dz f) = true → seqO (xs.map (dat S f)) = some (pds xs)
  | [], _ => rfl
  | x :: xs, h => by
    obtain ⟨h1, h2⟩ := all_cons h
    rw [List.map_cons, ih x h1]
    unfold seqO
    rw [dz_pds ih xs h2]
    rfl
theorem dz_pd {S : Sto} : ∀ (f : Nat) (v : LV), dz f v = true → dat S f v = some (pd v) := by
  intro f
  induction f with
  | zero => intro v h; cases v <;> first | rfl | cases h
  | succ f ih =>
    intro v h
    cases v with
    | tup xs => unfold dat; rw [dz_pds ih xs h]; rfl
    | lst xs => unfold dat; rw [dz_pds ih xs h]; rfl
    | _ => first | rfl | cases h
theorem dz_deps {f : Nat} (ih : ∀ v, dz f v = true → PyData.depth (pd v) ≤ f) : ∀ xs : List LV, xs.all (dz f) = true → PyData.depthAll (pds xs) ≤ f
  | [], _ => Nat.zero_le _
  | x :: xs, h => by
    obtain ⟨h1, h2⟩ := all_cons h
    have a := ih x h1
    have b := dz_deps ih xs h2
    unfold pds PyData.depthAll
    omega
theorem dz_dep : ∀ (f : Nat) (v : LV), dz f v = true → PyData.depth (pd v) ≤ f := by
  intro f
  induction f with
  | zero => intro v h; cases v <;> first | exact Nat.le_refl _ | exact Nat.zero_le _ | cases h
  | succ f ih =>
    intro v h
    cases v with
    | tup xs =>
      have a := dz_deps ih xs h
      unfold pd PyData.depth
      omega
    | lst xs =>
      have a := dz_deps ih xs h
      unfold pd PyData.depth
      omega
    | _ => first | exact Nat.zero_le _ | cases h
def isNT : LV → Bool
  | .tup (_ :: _) => true
  | _ => false
def isNoT : LV → Bool
  | .non => false
  | .tup _ => false
  | .bl _ => true
  | .int _ => true
  | .str _ => true
  | .lst _ => true
  | _ => false
def alk (xs : List LV) : Bool := xs.all fun x => xs.all fun y => PySem.W.alike (pd x) (pd y)
/-- what sorted may be asked for -/
def srtOk (xs : List LV) : Bool := xs.all (dz 60) && alk xs && (xs.all isNT || xs.all isNoT) && small xs.length
noncomputable def sortV (xs : List LV) : List LV := xs.mergeSort (PySem.W.dataLe false pd)
theorem alk_ok {xs : List LV} (h : alk xs = true) : PySem.W.AllAlike (xs.map pd) := by
  intro d hd d' hd'
  obtain ⟨x, hx, rfl⟩ := List.mem_map.mp hd
  obtain ⟨y, hy, rfl⟩ := List.mem_map.mp hd'
  exact List.all_eq_true.mp (List.all_eq_true.mp h x hx) y hy
theorem sortable_ok {xs : List LV} (h : (xs.all isNT || xs.all isNoT) = true) : PySem.W.Sortable (xs.map pd) := by
  rcases Bool.or_eq_true_iff.mp h with h | h
  · refine .inl fun d hd => ?_
    obtain ⟨x, hx, rfl⟩ := List.mem_map.mp hd
    have q := List.all_eq_true.mp h x hx
    unfold isNT at q
    split at q
    · exact ⟨_, _, rfl⟩
    · cases q
  · refine .inr fun d hd => ?_
    obtain ⟨x, hx, rfl⟩ := List.mem_map.mp hd
    have q := List.all_eq_true.mp h x hx
    cases x <;> first | (simp [isNoT] at q; done) | (unfold pd; exact ⟨(fun z => by cases z), (fun _ z => by cases z)⟩)
def rSortedD (K : PySem.W.Frag) : List V → Hp → VK → Prop := fun vs H Q => ∃ (a : Addr) (bs : List (LV × V)), vs = [V.ref a] ∧ SqL K H a (bs.map (·.2)) ∧ (∀ b ∈ bs, Dp K H b.2 (pd b.1)) ∧ srtOk (bs.map (·.1)) = true ∧
  ∀ p, H p = none → Q (.ref p) (upd H p (.lst ((bs.mergeSort (PySem.W.dataLe false fun b => pd b.1)).map (·.2))))
theorem each_of : ∀ {bs : List (LV × V)} {us : List Value}, Vals (bs.map (·.2)) us → PySem.W.EachIs (fun u (b : LV × V) => RelV b.2 u) us bs
  | [], us, h => by
    cases h
    exact .nil
  | b :: bs, us, h => by
    cases h with
    | cons h1 h2 => exact .cons h1 (each_of h2)
theorem each_to : ∀ {bs : List (LV × V)} {us : List Value}, PySem.W.EachIs (fun u (b : LV × V) => RelV b.2 u) us bs → Vals (bs.map (·.2)) us
  | [], us, h => by
    cases h
    exact .nil
  | b :: bs, us, h => by
    cases h with
    | cons h1 h2 => exact .cons h1 (each_to h2)
theorem each_reads {X : Cx} {pins : List (Addr × Obj)} {σ : L2.St} {H : Hp} {s : Shared} (I : Inv X pins σ H s) : ∀ {bs : List (LV × V)} {us : List Value}, Vals (bs.map (·.2)) us → (∀ b ∈ bs, Dp X.K H b.2 (pd b.1)) →
    PySem.W.EachIs (fun u (b : LV × V) => ∃ as, Reads s.heap u (pd b.1) as) us bs
  | [], us, h, _ => by
    cases h
    exact .nil
  | b :: bs, us, h, hd => by
    cases h with
    | cons h1 h2 => exact .cons (Dp.reads I _ _ _ (hd b List.mem_cons_self) h1) (each_reads I h2 fun c hc => hd c (List.mem_cons_of_mem _ hc))
theorem srt_split {xs : List LV} (h : srtOk xs = true) : xs.all (dz 60) = true ∧ alk xs = true ∧ (xs.all isNT || xs.all isNoT) = true ∧ xs.length ≤ sizeLine := by
  unfold srtOk at h
  rw [Bool.and_eq_true, Bool.and_eq_true, Bool.and_eq_true] at h
  exact ⟨h.1.1.1, h.1.1.2, h.1.2, small_ok h.2⟩
theorem map_pd (bs : List (LV × V)) : (bs.map fun b => pd b.1) = (bs.map (·.1)).map pd := by rw [List.map_map]; rfl
theorem cr_sortedD {X : Cx} (hu : X.A.units + 64 < cLine) : CallR X (.builtin "sorted") (rSortedD X.K) := by
  intro pins s σ H vs us Q I r h
  obtain ⟨a, bs, rfl, hs, hd, hk, q⟩ := h
  obtain ⟨k1, k2, k3, k4⟩ := srt_split hk
  obtain ⟨its, rv, hl, hz⟩ := I.list hs
  rw [Vals.ref1 r]
  refine PySem.W.sorted_data (R := fun u (b : LV × V) => RelV b.2 u) (enc := fun b : LV × V => pd b.1) hl.isList (each_of rv) (each_reads I rv hd) (by rw [map_pd]; exact alk_ok k2) (by rw [map_pd]; exact sortable_ok k3) (by rw [List.length_map] at k4; exact k4)
    (fun b hb => ?_) fun out hlen ho => ?_
  · have q := dz_dep 60 b.1 (List.all_eq_true.mp k1 b.1 (List.mem_map.mpr ⟨b, hb, rfl⟩))
    show X.A.units + 2 + _ < cLine
    omega
  · obtain ⟨ep, he'⟩ := PyProof.Rows.sortedAll_at s.heap its out.toArray
    have hlen : ((bs.mergeSort (PySem.W.dataLe false fun b => pd b.1)).map (·.2)).length ≤ sizeLine := by
      rw [List.length_map, List.length_mergeSort]
      rw [List.length_map] at k4
      exact k4
    exact ⟨.ref _, upd H (s.heap.objs.size + 1) (.lst _), I.laid (t' := s.toks) (fun _ _ => PyProof.Rows.sortedAll_old) (Nat.le_succ _) ⟨hlen, out, ep, each_to ho, he'⟩, rfl, q _ (I.hok.fresh (Nat.le_succ _))⟩
def rSrtS : List V → Hp → VK → Prop := fun xs H Q => ∃ (a : Addr) (kvs : List (Key × V)) (ks : List Str), xs = [.ref a] ∧ Rd H a (.dK kvs) ∧ kvs.map (·.1) = ks.map Sum.inr ∧ ks.length < 64 ∧
    ∀ ys p, ys.Perm ks → sortedS ys = true → H p = none → Q (.ref p) (upd H p (.lst (ys.map V.str)))
def rSrtI : List V → Hp → VK → Prop := fun xs H Q => ∃ (a : Addr) (kvs : List (Key × V)) (ks : List Int), xs = [.ref a] ∧ Rd H a (.dK kvs) ∧ kvs.map (·.1) = ks.map Sum.inl ∧ ks.length < 64 ∧
    ∀ (ys : List Int) (p : Addr), ys.Perm ks → ys.Pairwise (· ≤ ·) → H p = none → Q (.ref p) (upd H p (.lst (ys.map V.int)))
def rSortedU (K : PySem.W.Frag) : List V → Hp → VK → Prop := fun xs H Q => rSortedD K xs H Q ∨ rSrtS xs H Q
theorem cr_sortedU {X : Cx} (hu : X.A.units + 64 < cLine) (hc : X.calm = true) : CallR X (.builtin "sorted") (rSortedU X.K) := CallR.or (cr_sortedD hu) (call_sortedD hc)
noncomputable def sortS (zs : List Str) : List Str := zs.mergeSort fun a b => decide (a.cps.toList ≤ b.cps.toList)
theorem sortV_strs (zs : List Str) : sortV (zs.map .str) = (sortS zs).map .str := by
  unfold sortV sortS
  refine (PySem.W.sort_maps (f := LV.str) (r := fun a b => decide (a.cps.toList ≤ b.cps.toList)) (s := PySem.W.dataLe false pd) (l := zs) fun a _ b _ => ?_).symm
  have := congrFun (congrFun (PySem.W.dataLe_str (fun b : Str => b)) a) b
  exact this.symm
end LL
namespace LL
open PySem PySem.Spec PyProof.Rows L2
section
variable {K : PySem.W.Frag} {T : Env1}
/-! ### sorted of lists, of dicts -/
noncomputable def sortedG (t : Bool) : OpN
  | [v], S => match lsO v S with
    | some xs => if srtOk xs = true then newL t (sortV xs) S else .no
    | none => .no
  | _, _ => .no
noncomputable abbrev sortedL := sortedG false
noncomputable abbrev sortedT := sortedG true
theorem zip_rel {m : List Addr} {H : Hp} : ∀ {xs : List LV} {ys : List V}, RVs K m H xs ys → ∀ b ∈ xs.zip ys, RV K m H b.1 b.2
  | [], _, h, b, hb => by simp at hb
  | x :: xs, ys, h, b, hb => by
    unfold RVs at h
    obtain ⟨y, r, rfl, h1, h2⟩ := h
    rw [List.zip_cons_cons] at hb
    rcases List.mem_cons.mp hb with rfl | hb
    · exact h1
    · exact zip_rel h2 b hb
theorem rel_map {m : List Addr} {H : Hp} : ∀ {bs : List (LV × V)}, (∀ b ∈ bs, RV K m H b.1 b.2) → RVs K m H (bs.map (·.1)) (bs.map (·.2))
  | [], _ => RVs.nil
  | b :: bs, h => RVs.cons (h b List.mem_cons_self) (rel_map fun c hc => h c (List.mem_cons_of_mem _ hc))
theorem cl_sorted {t : Bool} : CallL K T (rSortedD K) (sortedG t) := fun m S H vs xs Q W r rv h => by
  unfold sortedG at h
  split at h
  · obtain ⟨x, rfl, rx⟩ := rv.one
    split at h
    · rename_i ys hn
      split at h
      · rename_i hk
        obtain ⟨a, zs, rfl, ha, hs⟩ := lsO_ok r rx hn
        have hl := hs.len
        have e1 : (ys.zip zs).map (·.1) = ys := List.map_fst_zip (by omega)
        have e2 : (ys.zip zs).map (·.2) = zs := List.map_snd_zip (by omega)
        have hr := zip_rel hs
        refine ⟨a, ys.zip zs, rfl, SqL.of (by rw [ha, e2]), fun b hb => ?_, by rw [e1]; exact hk, ?_⟩
        · obtain ⟨k1, _⟩ := srt_split hk
          have hm : b.1 ∈ ys := by
            have := List.mem_map_of_mem (f := Prod.fst) hb
            rwa [e1] at this
          exact dat_dp r 60 b.1 (pd b.1) b.2 (dz_pd 60 b.1 (List.all_eq_true.mp k1 _ hm)) (hr b hb)
        · have es : sortV ys = ((ys.zip zs).mergeSort (PySem.W.dataLe false fun b => pd b.1)).map (·.1) := by
            unfold sortV
            have q := PySem.W.sort_maps (f := fun b : LV × V => b.1) (r := PySem.W.dataLe false fun b : LV × V => pd b.1) (s := PySem.W.dataLe false pd) (l := ys.zip zs) (fun _ _ _ _ => rfl)
            rw [q, e1]
          rw [es] at h
          exact fin_new r (rel_map fun b hb => hr b (List.mem_mergeSort.mp hb)) h
      · exact h.elim
    · exact h.elim
  · exact h.elim
def strK : List (Key × LV) → Option (List Str)
  | [] => some []
  | (.inr z, _) :: r => match strK r with
    | some l => some (z :: l)
    | none => none
  | _ => none
theorem strK_ok : ∀ {kvs : List (Key × LV)} {zs : List Str}, strK kvs = some zs → kvs.map (·.1) = zs.map Sum.inr
  | [], zs, h => by cases h; rfl
  | (.inr z, v) :: r, zs, h => by
    unfold strK at h
    split at h
    · rename_i l hl
      cases h
      rw [List.map_cons, List.map_cons, strK_ok hl]
    · cases h
  | (.inl z, v) :: r, zs, h => by cases h
noncomputable def sortedDG (t : Bool) : OpN
  | [.ref n], S => match S[n]? with
    | some (.dct kvs) => match strK kvs with
      | some zs => if zs.length < 64 then newL t ((sortS zs).map .str) S else .no
      | none => .no
    | _ => .no
  | _, _ => .no
noncomputable abbrev sortedDL := sortedDG false
noncomputable abbrev sortedDT := sortedDG true
theorem le_tr {a b c : List Nat} (h : a ≤ b) (h2 : b ≤ c) : a ≤ c := List.le_trans h h2
theorem sortS_pw (zs : List Str) : (sortS zs).Pairwise fun a b => a.cps.toList ≤ b.cps.toList := by
  have q := List.pairwise_mergeSort (le := fun a b : Str => decide (a.cps.toList ≤ b.cps.toList)) (fun a b c h1 h2 => by
    simp only [decide_eq_true_eq] at h1 h2 ⊢
    exact List.le_trans h1 h2) (fun a b => by
    simp only [Bool.or_eq_true, decide_eq_true_eq]
    exact List.le_total _ _) zs
  exact q.imp fun h => by simpa using h
theorem sortS_perm (zs : List Str) : (sortS zs).Perm zs := List.mergeSort_perm zs _
theorem sortS_uniq {ys zs : List Str} (h : ys.Perm zs) (hp : ys.Pairwise fun a b => a.cps.toList ≤ b.cps.toList) : ys = sortS zs :=
  (h.trans (sortS_perm zs).symm).eq_of_pairwise (le := fun a b => a.cps.toList ≤ b.cps.toList) (fun a b _ _ h1 h2 => PySem.W.str_of_cps (List.le_antisymm h1 h2)) hp (sortS_pw zs)
end
end LL
namespace LL
open PySem PySem.Spec PyProof.Rows L2
theorem ltCps_d (a b : List Nat) : ltCps a b = decide (a < b) := ltCps_eq a b
theorem rising_pw : ∀ (p : Str) (l : List Str), risingS p l = true → (p :: l).Pairwise fun a b => a.cps.toList ≤ b.cps.toList
  | p, [], _ => List.pairwise_singleton _ _
  | p, x :: r, h => by
    unfold risingS at h
    rw [Bool.and_eq_true, ltCps_d] at h
    have i := rising_pw x r h.2
    have h1 : p.cps.toList ≤ x.cps.toList := by
      have := h.1
      simpa using this
    refine List.pairwise_cons.mpr ⟨fun b hb => ?_, i⟩
    rcases List.mem_cons.mp hb with rfl | hb
    · exact h1
    · exact List.le_trans h1 ((List.pairwise_cons.mp i).1 b hb)
theorem sortedS_pw : ∀ {l : List Str}, sortedS l = true → l.Pairwise fun a b => a.cps.toList ≤ b.cps.toList
  | [], _ => List.Pairwise.nil
  | x :: r, h => rising_pw x r h
section
variable {K : PySem.W.Frag} {T : Env1}
theorem RVs.strs' {m : List Addr} {H : Hp} : ∀ zs : List Str, RVs K m H (zs.map .str) (zs.map V.str)
  | [] => RVs.nil
  | z :: zs => RVs.cons (rfl) (RVs.strs' zs)
theorem cl_sortedD {t : Bool} : CallL K T rSrtS (sortedDG t) := fun m S H vs xs Q W r rv h => by
  unfold sortedDG at h
  split at h
  · rename_i n
    obtain ⟨x, rfl, rx⟩ := rv.one
    split at h
    · rename_i kvs hn
      split at h
      · rename_i zs hz
        split at h
        · rename_i h64
          unfold RV at rx
          obtain ⟨a, rfl, hm⟩ := rx
          obtain ⟨ws, h1, h2, h3⟩ := r.ob n a _ hm hn
          refine ⟨a, ws, zs, rfl, .inl h1, h2.trans (strK_ok hz), h64, fun ys p hp hs hf => ?_⟩
          rw [sortS_uniq hp (sortedS_pw hs)]
          exact fin_new r (RVs.strs' _) h p hf
        · exact h.elim
      · exact h.elim
    · exact h.elim
  · exact h.elim
/-! ### list(d) -/
def listDG (t : Bool) : OpN
  | [.ref n], S => match S[n]? with
    | some (.dct kvs) => newL t (kvs.map fun kv => keyV kv.1) S
    | _ => .no
  | _, _ => .no
abbrev listDL := listDG false
abbrev listDT := listDG true
def rListDk : List V → Hp → VK → Prop := fun xs H Q => ∃ (a : Addr) (kvs : List (Key × V)), xs = [.ref a] ∧ Rd H a (.dK kvs) ∧ ∀ p, H p = none → Q (.ref p) (upd H p (.lst (kvs.map fun kv => kV kv.1)))
theorem RVs.keys' {m : List Addr} {H : Hp} : ∀ ks : List Key, RVs K m H (ks.map keyV) (ks.map kV)
  | [] => RVs.nil
  | .inl i :: zs => RVs.cons (rfl) (RVs.keys' zs)
  | .inr z :: zs => RVs.cons (rfl) (RVs.keys' zs)
theorem cl_listD {t : Bool} : CallL K T rListDk (listDG t) := fun m S H vs xs Q W r rv h => by
  unfold listDG at h
  split at h
  · rename_i n
    obtain ⟨x, rfl, rx⟩ := rv.one
    split at h
    · rename_i kvs hn
      unfold RV at rx
      obtain ⟨a, rfl, hm⟩ := rx
      obtain ⟨ws, h1, h2, h3⟩ := r.ob n a _ hm hn
      have e1 : (kvs.map fun kv => keyV kv.1) = (kvs.map (·.1)).map keyV := by rw [List.map_map]; rfl
      have e2 : (ws.map fun kv => kV kv.1) = (kvs.map (·.1)).map kV := by rw [← h2, List.map_map]; rfl
      rw [e1] at h
      exact ⟨a, ws, rfl, .inl h1, by rw [e2]; exact fin_new r (RVs.keys' _) h⟩
    · exact h.elim
  · exact h.elim
theorem cr_listDk {X : Cx} (hc : X.calm = true) : CallR X (.type "list") rListDk := call_listD hc
/-! ### {k: v, ..} -/
def lPr : List (LE × LE) → LA
  | [] => lNil
  | p :: r => lCons p.1 (lCons p.2 (lPr r))
def pairL : List LV → Option (List (Key × LV))
  | [] => some []
  | [_] => none
  | k :: v :: r => match keyL k, pairL r with
    | some a, some l => some ((a, v) :: l)
    | _, _ => none
def mergeL (kvs : List (Key × LV)) : List (Key × LV) := kvs.foldl (fun acc kv => putL acc kv.1 kv.2) []
def dispK (n : Nat) (vs : List LV) (S : Sto) : R := match S[n]? with
  | some (.dct []) => match pairL vs with
    | some kvs => if kvs.length ≤ 15 then .ok (.ref n) (S.set n (.dct (mergeL kvs))) else .no
    | none => .no
  | _ => .no
def lDisp (l : List (LE × LE)) : LE := fun ds S => (lPr l ds (S ++ [.dct []])).bind (dispK S.length)
def flat2 : List (V × V) → List V
  | [] => []
  | p :: r => p.1 :: p.2 :: flat2 r
theorem pr_read {ξ : Xi} {W : WX} {σ : L2.St} : ∀ (l : List (LE × LE)) {H : Hp} {m : List Addr} {S : Sto} {ds : Sl} {Q : List (V × V) → Hp → Prop}, RelS K T m S H → RSl K ξ m H ds σ →
    PoA K T m H (lPr l ds S) (fun xs H' => ∀ ps, flat2 ps = xs → Q ps H') (fun cls d H' => W cls d σ H') → tPairs (l.map fun p => (tL K T ξ W p.1, tL K T ξ W p.2)) σ H Q
  | [], H, m, S, ds, Q, r, rs, h => h m H [] Ext.refl r RVs.nil [] rfl
  | p :: l, H, m, S, ds, Q, r, rs, h => by
    show tL K T ξ W p.1 σ H fun x H1 => tL K T ξ W p.2 σ H1 fun y H2 => tPairs (l.map fun p => (tL K T ξ W p.1, tL K T ξ W p.2)) σ H2 fun ps H3 => Q ((x, y) :: ps) H3
    refine ⟨m, S, ds, r, rs, ?_⟩
    unfold lPr lCons at h
    cases e : p.1 ds S with
    | ok v S1 =>
      rw [e] at h
      intro m1 H1 x E r1 rv
      refine ⟨m1, S1, ds, r1, rs.mono E, ?_⟩
      have h1 := PoA.mono E h
      unfold lCons at h1
      cases e2 : p.2 ds S1 with
      | ok u S2 =>
        simp only [e2] at h1
        intro m2 H2 y E2 r2 ru
        refine pr_read l (ds := ds) r2 ((rs.mono E).mono E2) ?_
        have h2 := PoA.mono E2 h1
        cases e3 : lPr l ds S2 with
        | ok vs S3 =>
          simp only [e3, consK] at h2
          intro m3 H3 xs E3 r3 rvs ps hp
          exact h2 m3 H3 (x :: y :: xs) E3 r3 (RVs.cons ((rv.mono E2).mono E3) (RVs.cons (ru.mono E3) rvs)) ((x, y) :: ps) (by unfold flat2; rw [hp])
        | ex c fs S3 =>
          simp only [e3, consK] at h2
          exact h2
        | no =>
          simp only [e3, consK] at h2
          exact h2
      | ex c fs S2 =>
        simp only [e2, consK] at h1
        exact h1
      | no =>
        simp only [e2, consK] at h1
        exact h1
    | ex c fs S1 =>
      rw [e] at h
      exact h
    | no =>
      rw [e] at h
      exact h
theorem pair_ok {m : List Addr} {H : Hp} : ∀ {vs : List LV} {ps : List (V × V)} {kvs : List (Key × LV)}, pairL vs = some kvs → RVs K m H vs (flat2 ps) →
    ∃ ws : List (Key × V), ps = ws.map (fun kv => (kV kv.1, kv.2)) ∧ ws.map (·.1) = kvs.map (·.1) ∧ RVs K m H (kvs.map (·.2)) (ws.map (·.2))
  | [], ps, kvs, h, rv => by
    cases h
    have := rv.nilE
    cases ps with
    | nil => exact ⟨[], rfl, rfl, RVs.nil⟩
    | cons p ps => cases this
  | [_], ps, kvs, h, rv => by cases h
  | k :: v :: r, ps, kvs, h, rv => by
    cases ps with
    | nil =>
      unfold RVs at rv
      obtain ⟨_, _, e, _⟩ := rv
      cases e
    | cons p ps =>
      unfold pairL at h
      split at h
      · rename_i a l ha hl
        cases h
        unfold flat2 RVs at rv
        obtain ⟨x, q, e, rk, rr⟩ := rv
        cases e
        unfold RVs at rr
        obtain ⟨y, q, e, ru, rq⟩ := rr
        cases e
        obtain ⟨ws, e1, e2, e3⟩ := pair_ok hl rq
        refine ⟨(a, p.2) :: ws, ?_, ?_, RVs.cons ru e3⟩
        · rw [List.map_cons, ← e1, ← keyL_ok ha rk]
        · rw [List.map_cons, List.map_cons, e2]
      · cases h
theorem merge_ok {m : List Addr} {H : Hp} : ∀ {kvs : List (Key × LV)} {ws : List (Key × V)} {acc : List (Key × LV)} {bcc : List (Key × V)}, ws.map (·.1) = kvs.map (·.1) → RVs K m H (kvs.map (·.2)) (ws.map (·.2)) →
    bcc.map (·.1) = acc.map (·.1) → RVs K m H (acc.map (·.2)) (bcc.map (·.2)) →
    (mergeK bcc ws).map (·.1) = (kvs.foldl (fun acc kv => putL acc kv.1 kv.2) acc).map (·.1) ∧ RVs K m H ((kvs.foldl (fun acc kv => putL acc kv.1 kv.2) acc).map (·.2)) ((mergeK bcc ws).map (·.2))
  | [], ws, acc, bcc, h1, h2, h3, h4 => by
    cases ws with
    | nil => exact ⟨h3, h4⟩
    | cons w ws => cases h1
  | kv :: kvs, ws, acc, bcc, h1, h2, h3, h4 => by
    cases ws with
    | nil => cases h1
    | cons w ws =>
      rw [List.map_cons, List.map_cons] at h1 h2
      injection h1 with h1 h1'
      unfold RVs at h2
      obtain ⟨y, q, e, ru, rq⟩ := h2
      injection e with e1 e2
      subst e2
      rw [← e1] at ru
      have p := put_rel kv.1 ru h3 h4
      have i := merge_ok (acc := putL acc kv.1 kv.2) (bcc := putK bcc kv.1 w.2) h1' rq p.1 p.2
      unfold mergeK at i ⊢
      rw [List.foldl_cons, List.foldl_cons, h1]
      exact i
end
section
variable {X : Cx} {T : Env1} {ξ : Xi} {W : WX}
theorem pl_disp {pos : Pos} {keys : List (Option Expr)} {values : List Expr} {l : List (LE × LE)} (h : PPs X pos keys values (l.map fun p => (tL X.K T ξ W p.1, tL X.K T ξ W p.2))) (hall : keys.all (·.isSome) = true := by rfl) (hl : keys.length = values.length := by rfl)
    (h0 : keys ≠ [] := by exact (fun z => nomatch z)) (h15 : keys.length ≤ 15 := by decide) : PE X (.Dict keys values pos) (tL X.K T ξ W (lDisp l)) :=
  pe_imp (pe_disp h hall hl h0 h15) fun σ H Q ⟨m, S, ds, r, rs, h⟩ => fun p hp => by
    have E : Ext m H (m ++ [p]) (upd H p (.dK [])) := Ext.alloc r hp
    have r1 : RelS X.K T (m ++ [p]) (S ++ [.dct []]) (upd H p (.dK [])) := r.alloc hp ⟨[], upd_same, rfl, RVs.nil⟩
    refine pr_read l r1 (rs.mono E) ?_
    unfold lDisp at h
    cases e : lPr l ds (S ++ [.dct []]) with
    | ok vs S2 =>
      rw [e] at h
      replace h : PoE X.K T m H (dispK S.length vs S2) Q _ := h
      intro m2 H2 xs E2 r2 rv ps hps
      subst hps
      have hm : m2[S.length]? = some p := by
        refine E2.get ?_
        rw [← r.len, List.getElem?_append_right (Nat.le_refl _), Nat.sub_self]
        rfl
      unfold dispK at h
      split at h
      · rename_i hn
        split at h
        · rename_i kvs hk
          split at h
          · rename_i h15'
            obtain ⟨us, h1, h2, h3⟩ := r2.ob _ _ _ hm hn
            have : us = [] := by
              cases us with
              | nil => rfl
              | cons _ _ => cases h2
            subst this
            obtain ⟨ws, e1, e2, e3⟩ := pair_ok hk rv
            have pm := merge_ok (acc := []) (bcc := []) e2 e3 rfl RVs.nil
            have hl : ws.length = kvs.length := by have := congrArg List.length e2; simpa using this
            refine ⟨h1, ws, e1, by omega, ?_⟩
            have E3 : Ext m2 H2 m2 (upd H2 p (.dK (mergeK [] ws))) := Ext.write r2 (List.mem_of_getElem? hm) h1
            refine h m2 _ (.ref p) ((E.trans E2).trans E3) (r2.write hm h1 ⟨_, upd_same, pm.1, pm.2.mono E3⟩) ?_
            unfold RV
            exact ⟨p, rfl, hm⟩
          · exact h.elim
        · exact h.elim
      · exact h.elim
    | ex c fs S2 =>
      rw [e] at h
      exact fun m2 H2 cls d E2 r2 rx => h m2 H2 cls d (E.trans E2) r2 rx
    | no =>
      rw [e] at h
      exact h
end
end LL
namespace LL
open PySem PySem.Spec PyProof.Rows L2
theorem cr_sortedDk {X : Cx} (hc : X.calm = true) : CallR X (.builtin "sorted") rSrtS := call_sortedD hc
def disp1 (n : Nat) : RL → R
  | .ok vs S => dispK n vs S
  | .ex c fs S => .ex c fs S
  | .no => .no
@[simp] theorem e_disp {l : List (LE × LE)} {ds : Sl} {S : Sto} : lDisp l ds S = disp1 S.length (lPr l ds (S ++ [.dct []])) := by unfold lDisp; cases lPr l ds (S ++ [.dct []]) <;> rfl
@[simp] theorem disp1_ok {n : Nat} {vs : List LV} {S : Sto} : disp1 n (.ok vs S) = dispK n vs S := (rfl)
@[simp] theorem lPr_nil : lPr [] = lNil := (rfl)
@[simp] theorem lPr_cons {p : LE × LE} {r : List (LE × LE)} : lPr (p :: r) = lCons p.1 (lCons p.2 (lPr r)) := (rfl)
end LL


set_option Elab.async false
set_option linter.all false
set_option maxRecDepth 100000
set_option maxHeartbeats 2000000
/-! Paths in plain Lean: names, what stands above. -/
namespace LL
open PySem PySem.Spec PyProof.Rows L2
abbrev names (z : Str) : List Str := Txt.split z colT
abbrev pth (ys : List Str) : Str := Txt.join colT ys
def Pz (z : Str) : Prop := pathOk (tl z) = true
/-- the paths of what stands above, the top first -/
def abS (z : Str) : List Str := (List.range ((names z).length - 1)).map fun k => pth ((names z).take (k + 1))
def par (z : Str) : Option Str := (abS z).getLast?
theorem map_tl_inj {xs ys : List Str} (h : xs.map tl = ys.map tl) : xs = ys := (List.map_inj_right (f := tl) fun _ _ e => tl_ext e).mp h
theorem pth_names (z : Str) : pth (names z) = z := tl_ext (by rw [join_col, split_sp, join_sp])
theorem names_pth {ys : List Str} (h : ys ≠ []) (hf : ∀ y ∈ ys, 58 ∉ tl y) : names (pth ys) = ys := map_tl_inj (by
  rw [split_sp, join_col, sp_join (by simpa using h)]
  intro p hp
  obtain ⟨y, hy, rfl⟩ := List.mem_map.mp hp
  exact hf y hy)
theorem names_ne (z : Str) : names z ≠ [] := fun e => by
  have := split_sp z
  rw [show Txt.split z colT = [] from e] at this
  exact sp_ne _ this.symm
theorem names_pos (z : Str) : 1 ≤ (names z).length := by
  cases e : names z with
  | nil => exact absurd e (names_ne z)
  | cons a t => simp
theorem Pz.len {z : Str} (h : Pz z) : (names z).length ≤ 6 := by
  unfold Pz pathOk at h
  rw [Bool.and_eq_true] at h
  rw [LL.split_len]
  exact of_decide_eq_true h.1
theorem Pz.ok {z : Str} (h : Pz z) : ∀ y ∈ names z, nameOk (tl y) = true := fun y hy => by
  unfold Pz pathOk at h
  rw [Bool.and_eq_true] at h
  exact List.all_eq_true.mp h.2 _ (by rw [← split_sp]; exact List.mem_map.mpr ⟨y, hy, rfl⟩)
theorem Pz.free {z : Str} (h : Pz z) : ∀ y ∈ names z, 58 ∉ tl y := fun y hy => nameOk_free (h.ok y hy)
theorem Pz.of {z : Str} (h1 : (names z).length ≤ 6) (h2 : ∀ y ∈ names z, nameOk (tl y) = true) : Pz z := by
  unfold Pz pathOk
  rw [← split_sp, List.length_map, decide_eq_true h1, Bool.true_and, List.all_eq_true]
  intro p hp
  obtain ⟨y, hy, rfl⟩ := List.mem_map.mp hp
  exact h2 y hy
theorem pz_iff {z : Str} : Pz z ↔ (names z).length ≤ 6 ∧ ∀ y ∈ names z, nameOk (tl y) = true := ⟨fun h => ⟨h.len, h.ok⟩, fun h => Pz.of h.1 h.2⟩
theorem names_take {z : Str} (h : Pz z) (k : Nat) : names (pth ((names z).take (k + 1))) = (names z).take (k + 1) := by
  refine names_pth (fun e => ?_) fun y hy => h.free y (List.mem_of_mem_take hy)
  have q := congrArg List.length e
  rw [List.length_take, List.length_nil] at q
  have := names_pos z
  omega
theorem ab_par {z : Str} (h : Pz z) : abS z = match par z with | none => [] | some p => abS p ++ [p] := by
  unfold par
  cases e : (names z).length - 1 with
  | zero =>
    have : abS z = [] := by unfold abS; rw [e]; rfl
    rw [this]
    rfl
  | succ n =>
    have e1 : abS z = ((List.range n).map fun k => pth ((names z).take (k + 1))) ++ [pth ((names z).take (n + 1))] := by
      unfold abS
      rw [e, List.range_succ, List.map_append]
      rfl
    rw [e1, List.getLast?_append]
    simp only [List.getLast?_singleton, Option.some_or]
    congr 1
    unfold abS
    rw [names_take h, List.length_take]
    have hm : min (n + 1) (names z).length - 1 = n := by omega
    rw [hm]
    refine List.map_congr_left fun k hk => ?_
    have := List.mem_range.mp hk
    show _ = pth (((names z).take (n + 1)).take (k + 1))
    rw [List.take_take, Nat.min_eq_left (by omega)]
theorem par_some {z p : Str} (h : par z = some p) : ∃ n, (names z).length = n + 2 ∧ p = pth ((names z).take (n + 1)) := by
  unfold par abS at h
  cases e : (names z).length - 1 with
  | zero => rw [e] at h; simp at h
  | succ n =>
    rw [e, List.range_succ, List.map_append, List.getLast?_append] at h
    simp at h
    exact ⟨n, by omega, h.symm⟩
theorem par_ok {z p : Str} (h : Pz z) (hp : par z = some p) : Pz p ∧ (names p).length + 1 = (names z).length := by
  obtain ⟨n, e1, rfl⟩ := par_some hp
  have e2 := names_take h n
  have hl := h.len
  refine ⟨Pz.of (by rw [e2, List.length_take]; omega) (by rw [e2]; exact fun y hy => h.ok y (List.mem_of_mem_take hy)), ?_⟩
  rw [e2, List.length_take]
  omega
theorem par_none {z : Str} : par z = none ↔ (names z).length = 1 := by
  have := names_pos z
  constructor
  · intro h
    unfold par abS at h
    rw [List.getLast?_eq_none_iff, List.map_eq_nil_iff, List.range_eq_nil] at h
    omega
  · intro h
    unfold par abS
    rw [h]
    rfl
theorem sp_free {a : List Nat} (h : 58 ∉ a) : sp a = [a] := by
  exact sp_join (ps := [a]) (by simp) (by simpa using h)
theorem sp_app (a b : List Nat) : sp (a ++ 58 :: b) = sp a ++ sp b := by
  induction a with
  | nil => rw [List.nil_append, sp_col]; rfl
  | cons c a ih =>
    rw [List.cons_append]
    by_cases hc : c = 58
    · subst hc
      rw [sp_col, sp_col, ih]
      rfl
    · rw [sp_oth _ hc, sp_oth _ hc, ih]
      cases e : sp a with
      | nil => exact absurd e (sp_ne a)
      | cons x t => rfl
/-- an account beneath another one -/
def kid (z n : Str) : Str := (z ++ colT) ++ n
theorem names_kid {z n : Str} (hn : 58 ∉ tl n) : names (kid z n) = names z ++ [n] := map_tl_inj (by
  rw [split_sp, List.map_append, split_sp]
  unfold kid
  rw [tl_app, tl_app]
  show sp ((tl z ++ [58]) ++ tl n) = _
  rw [List.append_assoc]
  show sp (tl z ++ 58 :: tl n) = _
  rw [sp_app, sp_free hn]
  rfl)
theorem par_kid {z n : Str} (hn : 58 ∉ tl n) : par (kid z n) = some z := by
  have e := names_kid (z := z) hn
  have hp := names_pos z
  unfold par abS
  rw [e, List.length_append]
  obtain ⟨m, hm⟩ : ∃ m, (names z).length = m + 1 := ⟨(names z).length - 1, by omega⟩
  rw [hm]
  show ((List.range (m + 1)).map _).getLast? = _
  rw [List.range_succ, List.map_append, List.getLast?_append]
  simp only [List.map_cons, List.map_nil, List.getLast?_singleton, Option.some_or]
  rw [← hm, List.take_left']
  · rw [pth_names]
  · rfl
theorem pz_kid {z n : Str} (h : Pz z) (hn : nameOk (tl n) = true) : Pz (kid z n) ↔ (names z).length ≤ 5 := by
  rw [pz_iff, names_kid (nameOk_free hn), List.length_append]
  constructor
  · intro h; have := h.1; simp at this; omega
  · intro h5
    refine ⟨by simp; omega, fun y hy => ?_⟩
    rcases List.mem_append.mp hy with hy | hy
    · exact h.ok y hy
    · rw [List.mem_singleton.mp hy]; exact hn
theorem name_free {n : Str} (h : 58 ∉ tl n) : names n = [n] := map_tl_inj (by rw [split_sp, sp_free h]; rfl)
theorem pz_name {n : Str} (h : nameOk (tl n) = true) : Pz n ∧ par n = none := by
  have e := name_free (nameOk_free h)
  refine ⟨Pz.of (by rw [e]; simp) (by rw [e]; simpa using h), par_none.mpr (by rw [e]; rfl)⟩
theorem col_par (z : Str) : decide (58 ∈ tl z) = (par z).isSome := by
  by_cases h : 58 ∈ tl z
  · rw [decide_eq_true h]
    obtain ⟨a, b, e⟩ := List.append_of_mem h
    cases q : par z with
    | some p => rfl
    | none =>
      have q := par_none.mp q
      rw [LL.split_len, e, sp_app, List.length_append] at q
      have h1 := sp_ne a
      have h2 := sp_ne b
      cases e1 : sp a with
      | nil => exact absurd e1 h1
      | cons _ _ =>
        cases e2 : sp b with
        | nil => exact absurd e2 h2
        | cons _ _ => rw [e1, e2] at q; simp at q; omega
  · rw [decide_eq_false h, par_none.mpr (by rw [name_free h]; rfl)]
    rfl
theorem pz_sg {z : Str} (h : Pz z) : ∀ c ∈ tl z, c < 128 := fun c hc => by
  have q : (sp (tl z)).all (fun x => x.all fun c => decide (c < 128)) = true := by
    rw [List.all_eq_true]
    intro x hx
    rw [← split_sp] at hx
    obtain ⟨y, hy, rfl⟩ := List.mem_map.mp hx
    have := h.ok y hy
    unfold nameOk at this
    simp only [Bool.and_eq_true, List.all_eq_true, decide_eq_true_eq] at this
    rw [List.all_eq_true]
    intro d hd
    exact decide_eq_true (abc_sg d (this.1.2 d hd))
  rw [sp_all] at q
  have := List.all_eq_true.mp q c hc
  rcases Bool.or_eq_true_iff.mp this with h | h
  · have := eq_of_beq h; omega
  · exact of_decide_eq_true h
theorem joinL_len (m : Nat) : ∀ ps : List (List Nat), (∀ p ∈ ps, p.length ≤ m) → (TL.joinL [58] ps).length ≤ ps.length * (m + 1)
  | [], _ => Nat.zero_le _
  | [p], h => by
    have := h p (List.mem_singleton.mpr rfl)
    show p.length ≤ _
    simp
    omega
  | p :: q :: r, h => by
    have i := joinL_len m (q :: r) fun x hx => h x (List.mem_cons_of_mem _ hx)
    have := h p List.mem_cons_self
    show (p ++ ([58] ++ TL.joinL [58] (q :: r))).length ≤ _
    rw [List.length_append, List.length_append, List.length_cons (a := p), Nat.add_mul]
    simp only [List.length_singleton]
    omega
theorem pz_len {z : Str} (h : Pz z) : z.length ≤ 78 := by
  have q := joinL_len 12 ((names z).map tl) fun p hp => by
    obtain ⟨y, hy, rfl⟩ := List.mem_map.mp hp
    have := h.ok y hy
    unfold nameOk at this
    simp only [Bool.and_eq_true, decide_eq_true_eq] at this
    have := this.1.1
    omega
  rw [split_sp, join_sp, LL.len_tl] at q
  have hl := h.len
  rw [LL.split_len] at hl
  have : (sp (tl z)).length * (12 + 1) ≤ 6 * 13 := Nat.mul_le_mul_right 13 hl
  omega
theorem pz_fine {z : Str} (h : Pz z) : Fine 78 z := ⟨pz_len h, pz_sg h⟩
theorem pz_strOk {z : Str} (h : Pz z) : PyData.strOk z = true := (pz_fine h).ok
theorem strs_fz {n : Nat} {zs : List Str} (h : ∀ z ∈ zs, Pz z) : (zs.map LV.str).all (fz n) = true := by
  rw [List.all_eq_true]
  intro v hv
  obtain ⟨z, hz, rfl⟩ := List.mem_map.mp hv
  rw [fz_str]
  exact pz_strOk (h z hz)
theorem strs_low {n : Nat} (ys : List Str) : lowVs n (ys.map LV.str) = true := lows_all.mpr fun v hv => by
  obtain ⟨z, _, rfl⟩ := List.mem_map.mp hv
  rfl
/-! sorted of texts -/
theorem strs_srt {zs : List Str} (h : zs.length ≤ 16777216) : srtOk (zs.map .str) = true := by
  unfold srtOk
  have e1 : (zs.map LV.str).all (dz 60) = true := by simp [dz]
  have e2 : alk (zs.map .str) = true := by
    unfold alk
    simp [pd, PySem.W.alike]
  have e3 : (zs.map LV.str).all isNoT = true := by simp [isNoT]
  rw [e1, e2, e3]
  unfold small
  simpa using h
theorem sorted_strs {t : Bool} {S : Sto} {v : LV} {zs : List Str} (hv : lsO v S = some (zs.map .str)) (h : zs.length ≤ 16777216) : sortedG t [v] S = newL t ((sortS zs).map .str) S := by
  unfold sortedG
  simp only [hv, strs_srt h, if_true]
  rw [sortV_strs]
theorem sortedD_ok {t : Bool} {S : Sto} {n : Nat} {kvs : List (Key × LV)} {zs : List Str} (h : S[n]? = some (.dct kvs)) (hz : strK kvs = some zs) (hl : zs.length < 64) : sortedDG t [.ref n] S = newL t ((sortS zs).map .str) S := by
  unfold sortedDG
  simp only [h, hz, if_pos hl]
theorem sortS_same {xs ys : List Str} (h : xs.Perm ys) : sortS xs = sortS ys := sortS_uniq ((sortS_perm xs).trans h) (sortS_pw xs)
theorem in_col {z : Str} {S : Sto} : inL (.str colT) (.str z) S = .ok (.bl (par z).isSome) S := by
  rw [← col_par]
  rfl
theorem nin_col {z : Str} {S : Sto} : notinL (.str colT) (.str z) S = .ok (.bl !(par z).isSome) S := by
  rw [← col_par]
  rfl
end LL


set_option Elab.async false
set_option linter.all false
set_option maxRecDepth 100000
set_option maxHeartbeats 2000000
/-! The logical layer: max and min of a list of alike data, a > b of tuples, a list compared with its copy. -/
namespace LL
open PySem PySem.Spec PyProof.Rows L2
/-- what was there at g is there at h -/
def Kept (g h : Heap) : Prop := ∀ c u, g.get? c = some u → h.get? c = some u
/-- the two are compared at each heap that keeps g -/
def CmpKept (P0 : Program) (w0 : World) (B : Around) (op : CmpOp) (g : Heap) (Pr : Nat → Value → Prop) (f : Nat → Nat → Bool) : Prop :=
  ∀ (i j : Nat) (x y : Value) (s : Shared) (Q1 Q2 : Value → Shared → Prop), Kept g s.heap → Pr i x → Pr j y → Q1 (.bool (f i j)) s → wpAny (model P0 w0) B (richCompare op x y) Q1 Q2 s
section
variable {P0 : Program} {w0 : World} {B : Around} {RR : Result → Shared → Prop} {J : Addr} {fs ws : List Addr} {N : Nat} {Pr : Nat → Value → Prop} {Ss : Nat → Heap → Prop} {g : Heap}
theorem maxK_loop {kw : List (Str × Value)} (Wk : Walks P0 w0 B.in1 J fs ws N Pr Ss) (f : Nat → Nat → Bool) (hq : CmpKept P0 w0 B.in1 .Gt g Pr f) (hw : ∀ c ∈ ws, g.get? c = none) (Z : Addr) (hZ : Z ∉ fs) (gZ : g.get? Z = none) :
    ∀ (m i : Nat) (s : Shared) (best : Value) (cap : Nat), N - (i + 1) = m → i + 1 ≤ N → Ss (i + 1) s.heap → Kept g s.heap → Pr (argBest f i) best → s.heap.get? Z = some { cls := .type "list", dict := none, data := .seq #[best, best] cap, slots := #[] } →
    (∀ u h2 t2, Pr (argBest f (N - 1)) u → (∀ c o, c ∉ ws → c ≠ Z → s.heap.get? c = some o → h2.get? c = some o) → RR (.ok (.ret u)) { s with heap := h2, toks := t2 }) → codeAny (model P0 w0) B (.builtin "max.loop" ⟨[.ref J, .none, .ref Z], kw⟩) RR s := by
  have zw : Z ∉ ws := fun z => hZ (Wk.sub _ z)
  have nm : (toString "max" ++ toString ".loop" : String) = "max.loop" := by decide
  intro m
  induction m with
  | zero =>
    intro i s best cap hm hi hs kg pb hz fin'
    have last : i + 1 = N := by omega
    refine codeAny_builtin F.entry_max_loop ?_; rw [Around.under_plainId F.plain_max_loop _]
    show wpAny _ B.in1 (seqItems? (.ref Z) >>= _) _ _ s
    refine wpAny_bind (wpAny_seqItems hz rfl ?_); show wpAny _ B.in1 (tryCatch (pyNext (.ref J)) _ >>= _) _ _ s
    refine wpAny_bind (wpAny_tryCatch (Wk.done s _ _ (last ▸ hs) fun h2 t2 kk => ?_))
    have hz2 := kk Z _ zw hz
    show wpAny _ B.in1 (updateSeq Z (fun _ => #[]) >>= _) _ _ _
    refine wpAny_bind ?_; refine wpAny_updateSeq hz2 rfl (wpAny_bind (wpAny_letGo (wpAny_pure ?_)))
    exact fin' best _ t2 (by rw [← last]; exact pb) fun c o h1 h2 e => (Heap.get?_update_other _ _ (Ne.symm h2)).trans (kk c o h1 e)
  | succ m ih =>
    intro i s best cap hm hi hs kg pb hz fin'
    have more : i + 1 < N := by omega
    refine codeAny_builtin F.entry_max_loop ?_; rw [Around.under_plainId F.plain_max_loop _]
    show wpAny _ B.in1 (seqItems? (.ref Z) >>= _) _ _ s
    refine wpAny_bind (wpAny_seqItems hz rfl ?_); show wpAny _ B.in1 (tryCatch (pyNext (.ref J)) _ >>= _) _ _ s
    refine wpAny_bind (wpAny_tryCatch (Wk.item (i + 1) s _ _ more hs fun x h2 t2 px hs2 kk => ?_))
    have hz2 := kk Z _ zw hz
    have kg2 : Kept g h2 := fun c o e => kk c o (fun z => by rw [hw c z] at e; cases e) (kg c o e)
    show wpAny _ B.in1 (tryCatch (holding [x, x] (richCompare .Gt x best >>= _)) _ >>= _) _ _ _
    refine wpAny_bind (wpAny_tryCatch (wpAny_holding (wpAny_bind (hq (i + 1) (argBest f i) x best _ _ _ kg2 px pb ?_))))
    refine wpAny_bind (wpAny_holding (wpAny_truthy_bool ?_)); refine wpAny_bind (wpAny_letGo (wpAny_pure ?_))
    cases hf : f (i + 1) (argBest f i) with
    | true =>
      simp only [if_true]
      refine wpAny_bind ?_; refine wpAny_updateSeq hz2 rfl (wpAny_bind (wpAny_letGo ?_)); rw [nm]
      have kg3 : ∀ up, Kept g (h2.update Z up) := fun up c o e => (Heap.get?_update_other _ _ (fun z : Z = c => by rw [← z, gZ] at e; cases e)).trans (kg2 c o e)
      refine wpAny_pure ⟨plainId_quiet F.plain_max_loop _, ih (i + 1) _ x _ (by omega) more (Wk.frame _ _ _ hs2 fun c hc o e => ?_) (kg3 _) (by simp only [argBest, hf, if_true]; exact px) (Heap.get?_update_self _ hz2 rfl) fun u h3 t3 pu k3 => ?_⟩
      · exact (Heap.get?_update_other _ _ (fun z : Z = c => hZ (by rw [z]; exact hc))).trans e
      · exact fin' u h3 t3 pu fun c o h1 h2' e => k3 c o h1 h2' ((Heap.get?_update_other _ _ (Ne.symm h2')).trans (kk c o h1 e))
    | false =>
      simp only [Bool.false_eq_true, if_false]
      refine wpAny_bind (wpAny_letGo ?_); rw [nm]
      exact wpAny_pure ⟨plainId_quiet F.plain_max_loop _, ih (i + 1) _ best cap (by omega) more hs2 kg2 (by simp only [argBest, hf, Bool.false_eq_true, if_false]; exact pb) hz2 fun u h3 t3 pu k3 => fin' u h3 t3 pu fun c o h1 h2' e => k3 c o h1 h2' (kk c o h1 e)⟩
theorem maxK_first {kw : List (Str × Value)} (Wk : Walks P0 w0 B.in1 J fs ws N Pr Ss) (f : Nat → Nat → Bool) (hq : CmpKept P0 w0 B.in1 .Gt g Pr f) (hw : ∀ c ∈ ws, g.get? c = none) (Z : Addr) (hZ : Z ∉ fs) (gZ : g.get? Z = none) (hN : 0 < N) {s : Shared} {cap : Nat} (hs : Ss 0 s.heap) (kg : Kept g s.heap)
    (hz : s.heap.get? Z = some { cls := .type "list", dict := none, data := .seq #[] cap, slots := #[] }) (fin' : ∀ u h2 t2, Pr (argBest f (N - 1)) u → (∀ c o, c ∉ ws → c ≠ Z → s.heap.get? c = some o → h2.get? c = some o) → RR (.ok (.ret u)) { s with heap := h2, toks := t2 }) :
    codeAny (model P0 w0) B (.builtin "max.loop" ⟨[.ref J, .none, .ref Z], kw⟩) RR s := by
  have zw : Z ∉ ws := fun z => hZ (Wk.sub _ z)
  have nm : (toString "max" ++ toString ".loop" : String) = "max.loop" := by decide
  refine codeAny_builtin F.entry_max_loop ?_; rw [Around.under_plainId F.plain_max_loop _]
  show wpAny _ B.in1 (seqItems? (.ref Z) >>= _) _ _ s
  refine wpAny_bind (wpAny_seqItems hz rfl ?_); show wpAny _ B.in1 (tryCatch (pyNext (.ref J)) _ >>= _) _ _ s
  refine wpAny_bind (wpAny_tryCatch (Wk.item 0 s _ _ hN hs fun x h2 t2 px hs2 kk => ?_))
  have hz2 := kk Z _ zw hz
  have kg2 : Kept g h2 := fun c o e => kk c o (fun z => by rw [hw c z] at e; cases e) (kg c o e)
  show wpAny _ B.in1 (updateSeq Z (fun _ => #[x, x]) >>= _) _ _ _
  refine wpAny_bind ?_; refine wpAny_updateSeq hz2 rfl ?_; rw [nm]
  have kg3 : ∀ up, Kept g (h2.update Z up) := fun up c o e => (Heap.get?_update_other _ _ (fun z : Z = c => by rw [← z, gZ] at e; cases e)).trans (kg2 c o e)
  refine wpAny_pure ⟨plainId_quiet F.plain_max_loop _, maxK_loop Wk f hq hw Z hZ gZ _ 0 _ x _ rfl hN (Wk.frame _ _ _ hs2 fun c hc o e => ?_) (kg3 _) px (Heap.get?_update_self _ hz2 rfl) fun u h3 t3 pu k3 => ?_⟩
  · exact (Heap.get?_update_other _ _ (fun z : Z = c => hZ (by rw [z]; exact hc))).trans e
  · exact fin' u h3 t3 pu fun c o h1 h2' e => k3 c o h1 h2' ((Heap.get?_update_other _ _ (Ne.symm h2')).trans (kk c o h1 e))
end
section
variable {P0 : Program} {w0 : World} {B : Around} {E0 : Value → Shared → Prop} {s : Shared}
theorem maxK_walk {l : Addr} {us : Array Value} {Q : Value → Shared → Prop} {Pr : Nat → Value → Prop} (f : Nat → Nat → Bool) (hh : B.handled = none) (hl : s.heap.IsList l us) (hN : 0 < us.size) (hP : ∀ i v, us[i]? = some v → Pr i v) (hq : CmpKept P0 w0 B.in1 .Gt s.heap Pr f)
    (fin' : ∀ u h2 t2, us[argBest f (us.size - 1)]? = some u → Kept s.heap h2 → Q u { s with heap := h2, toks := t2 }) : wpAny (model P0 w0) B (call (.builtin "max") [.ref l]) Q E0 s := by
  have nm : (toString "max" ++ toString ".loop" : String) = "max.loop" := by decide
  refine call_function_tree F.kind_max F.plain_max F.entry_max (F.args_max1 _) ?_
  show wpAny _ B.in1 (Builtin.Builtins.bindParams "max" ["key", "default"] 0 ⟨[], []⟩ >>= _) _ _ s
  refine wpAny_bind (wpAny_of_eq (show Builtin.Builtins.bindParams "max" ["key", "default"] 0 ⟨[], []⟩ = pure [none, none] from rfl) ?_)
  refine wpAny_bind (wpAny_pure ?_)
  have lt : l < s.heap.objs.size := by obtain ⟨_, e, _⟩ := hl; exact Heap.lt_size e
  refine wpAny_bind (wpAny_pyIter_list hl ?_)
  refine wpAny_bind (wpAny_newObj_type ?_)
  rw [nm]
  have gJ : s.heap.get? s.heap.objs.size = none := by
    cases e : s.heap.get? s.heap.objs.size with
    | none => rfl
    | some o => exact absurd (Heap.lt_size e) (Nat.lt_irrefl _)
  have gZ : s.heap.get? (s.heap.objs.size + 1) = none := by
    cases e : s.heap.get? (s.heap.objs.size + 1) with
    | none => rfl
    | some o => exact absurd (Heap.lt_size e) (Nat.not_lt.mpr (Nat.le_succ _))
  have sz : (s.heap.push { cls := .type "list_iterator", data := .fields #[.ref l, .int 0 0] }).objs.size = s.heap.objs.size + 1 := Heap.size_push _ _
  rw [sz]
  have k0 : Kept s.heap (s.heap.push { cls := .type "list_iterator", data := .fields #[.ref l, .int 0 0] }) := fun c o e => Heap.get?_push_of_some _ e
  refine wpAny_pure ⟨plainId_quiet F.plain_max_loop _, maxK_first (Walks.list (A := B.in1) hh s.heap.objs.size l (Nat.ne_of_lt lt) us) f (g := s.heap) (cap := 0) (fun i j x y s1 Q1 Q2 kg hx hy q => hq i j x y s1 Q1 Q2 kg (hP i x hx) (hP j y hy) q) (fun c hc => ?_) (s.heap.objs.size + 1) (fun z => ?_) gZ hN ?_ (fun c o e => Heap.get?_push_of_some _ (k0 c o e)) ?_ fun u h2 t2 pu kk => ?_⟩
  · rw [List.mem_singleton.mp hc]; exact gJ
  · rcases List.mem_cons.mp z with z | z
    · exact Nat.succ_ne_self _ z
    · have e := List.mem_singleton.mp z
      rw [← e] at lt
      exact Nat.not_lt.mpr (Nat.le_succ _) lt
  · exact ⟨⟨_, Heap.get?_push_of_some _ (Heap.get?_push_size _ rfl), rfl, rfl⟩, (hl.push _).push _⟩
  · rw [← sz]; exact Heap.get?_push_size _ rfl
  · refine fin' u h2 t2 pu fun c o e => kk c o (fun z => ?_) (fun z => ?_) (Heap.get?_push_of_some _ (k0 c o e))
    · rw [List.mem_singleton.mp z, gJ] at e; cases e
    · rw [z, gZ] at e; cases e
end
section
variable {P0 : Program} {w0 : World} {B : Around} {RR : Result → Shared → Prop} {J : Addr} {fs ws : List Addr} {N : Nat} {Pr : Nat → Value → Prop} {Ss : Nat → Heap → Prop} {g : Heap}
theorem minK_loop (Wk : Walks P0 w0 B.in1 J fs ws N Pr Ss) (f : Nat → Nat → Bool) (hq : CmpKept P0 w0 B.in1 .Lt g Pr f) (hw : ∀ c ∈ ws, g.get? c = none) (Z : Addr) (hZ : Z ∉ fs) (gZ : g.get? Z = none) :
    ∀ (m i : Nat) (s : Shared) (best : Value) (cap : Nat), N - (i + 1) = m → i + 1 ≤ N → Ss (i + 1) s.heap → Kept g s.heap → Pr (argBest f i) best → s.heap.get? Z = some { cls := .type "list", dict := none, data := .seq #[best, best] cap, slots := #[] } →
    (∀ u h2 t2, Pr (argBest f (N - 1)) u → (∀ c o, c ∉ ws → c ≠ Z → s.heap.get? c = some o → h2.get? c = some o) → RR (.ok (.ret u)) { s with heap := h2, toks := t2 }) → codeAny (model P0 w0) B (.builtin "min.loop" ⟨[.ref J, .none, .ref Z], []⟩) RR s := by
  have zw : Z ∉ ws := fun z => hZ (Wk.sub _ z)
  have nm : (toString "min" ++ toString ".loop" : String) = "min.loop" := by decide
  intro m
  induction m with
  | zero =>
    intro i s best cap hm hi hs kg pb hz fin'
    have last : i + 1 = N := by omega
    refine codeAny_builtin F.entry_min_loop ?_; rw [Around.under_plainId F.plain_min_loop _]
    show wpAny _ B.in1 (seqItems? (.ref Z) >>= _) _ _ s
    refine wpAny_bind (wpAny_seqItems hz rfl ?_); show wpAny _ B.in1 (tryCatch (pyNext (.ref J)) _ >>= _) _ _ s
    refine wpAny_bind (wpAny_tryCatch (Wk.done s _ _ (last ▸ hs) fun h2 t2 kk => ?_))
    have hz2 := kk Z _ zw hz
    show wpAny _ B.in1 (updateSeq Z (fun _ => #[]) >>= _) _ _ _
    refine wpAny_bind ?_; refine wpAny_updateSeq hz2 rfl (wpAny_bind (wpAny_letGo (wpAny_pure ?_)))
    exact fin' best _ t2 (by rw [← last]; exact pb) fun c o h1 h2 e => (Heap.get?_update_other _ _ (Ne.symm h2)).trans (kk c o h1 e)
  | succ m ih =>
    intro i s best cap hm hi hs kg pb hz fin'
    have more : i + 1 < N := by omega
    refine codeAny_builtin F.entry_min_loop ?_; rw [Around.under_plainId F.plain_min_loop _]
    show wpAny _ B.in1 (seqItems? (.ref Z) >>= _) _ _ s
    refine wpAny_bind (wpAny_seqItems hz rfl ?_); show wpAny _ B.in1 (tryCatch (pyNext (.ref J)) _ >>= _) _ _ s
    refine wpAny_bind (wpAny_tryCatch (Wk.item (i + 1) s _ _ more hs fun x h2 t2 px hs2 kk => ?_))
    have hz2 := kk Z _ zw hz
    have kg2 : Kept g h2 := fun c o e => kk c o (fun z => by rw [hw c z] at e; cases e) (kg c o e)
    show wpAny _ B.in1 (tryCatch (holding [x, x] (richCompare .Lt x best >>= _)) _ >>= _) _ _ _
    refine wpAny_bind (wpAny_tryCatch (wpAny_holding (wpAny_bind (hq (i + 1) (argBest f i) x best _ _ _ kg2 px pb ?_))))
    refine wpAny_bind (wpAny_holding (wpAny_truthy_bool ?_)); refine wpAny_bind (wpAny_letGo (wpAny_pure ?_))
    cases hf : f (i + 1) (argBest f i) with
    | true =>
      simp only [if_true]
      refine wpAny_bind ?_; refine wpAny_updateSeq hz2 rfl (wpAny_bind (wpAny_letGo ?_)); rw [nm]
      have kg3 : ∀ up, Kept g (h2.update Z up) := fun up c o e => (Heap.get?_update_other _ _ (fun z : Z = c => by rw [← z, gZ] at e; cases e)).trans (kg2 c o e)
      refine wpAny_pure ⟨plainId_quiet F.plain_min_loop _, ih (i + 1) _ x _ (by omega) more (Wk.frame _ _ _ hs2 fun c hc o e => ?_) (kg3 _) (by simp only [argBest, hf, if_true]; exact px) (Heap.get?_update_self _ hz2 rfl) fun u h3 t3 pu k3 => ?_⟩
      · exact (Heap.get?_update_other _ _ (fun z : Z = c => hZ (by rw [z]; exact hc))).trans e
      · exact fin' u h3 t3 pu fun c o h1 h2' e => k3 c o h1 h2' ((Heap.get?_update_other _ _ (Ne.symm h2')).trans (kk c o h1 e))
    | false =>
      simp only [Bool.false_eq_true, if_false]
      refine wpAny_bind (wpAny_letGo ?_); rw [nm]
      exact wpAny_pure ⟨plainId_quiet F.plain_min_loop _, ih (i + 1) _ best cap (by omega) more hs2 kg2 (by simp only [argBest, hf, Bool.false_eq_true, if_false]; exact pb) hz2 fun u h3 t3 pu k3 => fin' u h3 t3 pu fun c o h1 h2' e => k3 c o h1 h2' (kk c o h1 e)⟩
theorem minK_first (Wk : Walks P0 w0 B.in1 J fs ws N Pr Ss) (f : Nat → Nat → Bool) (hq : CmpKept P0 w0 B.in1 .Lt g Pr f) (hw : ∀ c ∈ ws, g.get? c = none) (Z : Addr) (hZ : Z ∉ fs) (gZ : g.get? Z = none) (hN : 0 < N) {s : Shared} {cap : Nat} (hs : Ss 0 s.heap) (kg : Kept g s.heap)
    (hz : s.heap.get? Z = some { cls := .type "list", dict := none, data := .seq #[] cap, slots := #[] }) (fin' : ∀ u h2 t2, Pr (argBest f (N - 1)) u → (∀ c o, c ∉ ws → c ≠ Z → s.heap.get? c = some o → h2.get? c = some o) → RR (.ok (.ret u)) { s with heap := h2, toks := t2 }) :
    codeAny (model P0 w0) B (.builtin "min.loop" ⟨[.ref J, .none, .ref Z], []⟩) RR s := by
  have zw : Z ∉ ws := fun z => hZ (Wk.sub _ z)
  have nm : (toString "min" ++ toString ".loop" : String) = "min.loop" := by decide
  refine codeAny_builtin F.entry_min_loop ?_; rw [Around.under_plainId F.plain_min_loop _]
  show wpAny _ B.in1 (seqItems? (.ref Z) >>= _) _ _ s
  refine wpAny_bind (wpAny_seqItems hz rfl ?_); show wpAny _ B.in1 (tryCatch (pyNext (.ref J)) _ >>= _) _ _ s
  refine wpAny_bind (wpAny_tryCatch (Wk.item 0 s _ _ hN hs fun x h2 t2 px hs2 kk => ?_))
  have hz2 := kk Z _ zw hz
  have kg2 : Kept g h2 := fun c o e => kk c o (fun z => by rw [hw c z] at e; cases e) (kg c o e)
  show wpAny _ B.in1 (updateSeq Z (fun _ => #[x, x]) >>= _) _ _ _
  refine wpAny_bind ?_; refine wpAny_updateSeq hz2 rfl ?_; rw [nm]
  have kg3 : ∀ up, Kept g (h2.update Z up) := fun up c o e => (Heap.get?_update_other _ _ (fun z : Z = c => by rw [← z, gZ] at e; cases e)).trans (kg2 c o e)
  refine wpAny_pure ⟨plainId_quiet F.plain_min_loop _, minK_loop Wk f hq hw Z hZ gZ _ 0 _ x _ rfl hN (Wk.frame _ _ _ hs2 fun c hc o e => ?_) (kg3 _) px (Heap.get?_update_self _ hz2 rfl) fun u h3 t3 pu k3 => ?_⟩
  · exact (Heap.get?_update_other _ _ (fun z : Z = c => hZ (by rw [z]; exact hc))).trans e
  · exact fin' u h3 t3 pu fun c o h1 h2' e => k3 c o h1 h2' ((Heap.get?_update_other _ _ (Ne.symm h2')).trans (kk c o h1 e))
end
section
variable {P0 : Program} {w0 : World} {B : Around} {E0 : Value → Shared → Prop} {s : Shared}
theorem minK_walk {l : Addr} {us : Array Value} {Q : Value → Shared → Prop} {Pr : Nat → Value → Prop} (f : Nat → Nat → Bool) (hh : B.handled = none) (hl : s.heap.IsList l us) (hN : 0 < us.size) (hP : ∀ i v, us[i]? = some v → Pr i v) (hq : CmpKept P0 w0 B.in1 .Lt s.heap Pr f)
    (fin' : ∀ u h2 t2, us[argBest f (us.size - 1)]? = some u → Kept s.heap h2 → Q u { s with heap := h2, toks := t2 }) : wpAny (model P0 w0) B (call (.builtin "min") [.ref l]) Q E0 s := by
  have nm : (toString "min" ++ toString ".loop" : String) = "min.loop" := by decide
  refine call_function_tree F.kind_min F.plain_min F.entry_min (F.args_min1 _) ?_
  show wpAny _ B.in1 (Builtin.Builtins.bindParams "min" ["key", "default"] 0 ⟨[], []⟩ >>= _) _ _ s
  refine wpAny_bind (wpAny_of_eq (show Builtin.Builtins.bindParams "min" ["key", "default"] 0 ⟨[], []⟩ = pure [none, none] from rfl) ?_)
  refine wpAny_bind (wpAny_pure ?_)
  have lt : l < s.heap.objs.size := by obtain ⟨_, e, _⟩ := hl; exact Heap.lt_size e
  refine wpAny_bind (wpAny_pyIter_list hl ?_)
  refine wpAny_bind (wpAny_newObj_type ?_)
  rw [nm]
  have gJ : s.heap.get? s.heap.objs.size = none := by
    cases e : s.heap.get? s.heap.objs.size with
    | none => rfl
    | some o => exact absurd (Heap.lt_size e) (Nat.lt_irrefl _)
  have gZ : s.heap.get? (s.heap.objs.size + 1) = none := by
    cases e : s.heap.get? (s.heap.objs.size + 1) with
    | none => rfl
    | some o => exact absurd (Heap.lt_size e) (Nat.not_lt.mpr (Nat.le_succ _))
  have sz : (s.heap.push { cls := .type "list_iterator", data := .fields #[.ref l, .int 0 0] }).objs.size = s.heap.objs.size + 1 := Heap.size_push _ _
  rw [sz]
  have k0 : Kept s.heap (s.heap.push { cls := .type "list_iterator", data := .fields #[.ref l, .int 0 0] }) := fun c o e => Heap.get?_push_of_some _ e
  refine wpAny_pure ⟨plainId_quiet F.plain_min_loop _, minK_first (Walks.list (A := B.in1) hh s.heap.objs.size l (Nat.ne_of_lt lt) us) f (g := s.heap) (cap := 0) (fun i j x y s1 Q1 Q2 kg hx hy q => hq i j x y s1 Q1 Q2 kg (hP i x hx) (hP j y hy) q) (fun c hc => ?_) (s.heap.objs.size + 1) (fun z => ?_) gZ hN ?_ (fun c o e => Heap.get?_push_of_some _ (k0 c o e)) ?_ fun u h2 t2 pu kk => ?_⟩
  · rw [List.mem_singleton.mp hc]; exact gJ
  · rcases List.mem_cons.mp z with z | z
    · exact Nat.succ_ne_self _ z
    · have e := List.mem_singleton.mp z
      rw [← e] at lt
      exact Nat.not_lt.mpr (Nat.le_succ _) lt
  · exact ⟨⟨_, Heap.get?_push_of_some _ (Heap.get?_push_size _ rfl), rfl, rfl⟩, (hl.push _).push _⟩
  · rw [← sz]; exact Heap.get?_push_size _ rfl
  · refine fin' u h2 t2 pu fun c o e => kk c o (fun z => ?_) (fun z => ?_) (Heap.get?_push_of_some _ (k0 c o e))
    · rw [List.mem_singleton.mp z, gJ] at e; cases e
    · rw [z, gZ] at e; cases e
end
def gtDat (d e : PyData) : Bool := PySem.W.dataLt e d
def ltDat (d e : PyData) : Bool := PySem.W.dataLt d e
noncomputable def bestI (q : PyData → PyData → Bool) (xs : List LV) : Nat := argBest (fun i j => q (pd (xs.getD i .non)) (pd (xs.getD j .non))) (xs.length - 1)
def rBest (q : PyData → PyData → Bool) (K : PySem.W.Frag) : List V → Hp → VK → Prop := fun vs H Q => ∃ (a : Addr) (bs : List (LV × V)), vs = [V.ref a] ∧ SqL K H a (bs.map (·.2)) ∧ (∀ b ∈ bs, Dp K H b.2 (pd b.1)) ∧ srtOk (bs.map (·.1)) = true ∧ 0 < bs.length ∧
  ∀ b, bs[bestI q (bs.map (·.1))]? = some b → Q b.2 H
theorem no_none {xs : List LV} (h : (xs.all isNT || xs.all isNoT) = true) : ∀ x ∈ xs, pd x ≠ .none := fun x hx => by
  rcases sortable_ok h with k | k
  · obtain ⟨a, r, e⟩ := k (pd x) (List.mem_map.mpr ⟨x, hx, rfl⟩)
    rw [e]
    exact fun z => by cases z
  · exact (k (pd x) (List.mem_map.mpr ⟨x, hx, rfl⟩)).1
section
variable {X : Cx} {pins : List (Addr × Obj)} {σ : L2.St} {H : Hp} {s : Shared}
theorem best_cmp {op : CmpOp} {q : PyData → PyData → Bool} (ho : ∀ (da db : PyData) (A : Around) (s : Shared) (a b : Value) (as bs : List Addr), Reads s.heap a da as → Reads s.heap b db bs → PySem.W.alike da db = true → da ≠ .none → A.units + min da.depth db.depth < cLine → ∀ (prog : Program) (w : World) (E Q : Value → Shared → Prop), Q (.bool (q da db)) s → wpAny (model prog w) A (richCompare op a b) Q E s)
    (hu : X.A.units + 64 < cLine) (I : Inv X pins σ H s) {bs : List (LV × V)} {us : List Value} (rv : Vals (bs.map (·.2)) us) (hd : ∀ b ∈ bs, Dp X.K H b.2 (pd b.1)) (hk : srtOk (bs.map (·.1)) = true) :
    CmpKept X.prog X.w X.A.in1 op s.heap (fun i v => us.toArray[i]? = some v) (fun i j => q (pd ((bs.map (·.1)).getD i .non)) (pd ((bs.map (·.1)).getD j .non))) := by
  obtain ⟨k1, k2, k3, k4⟩ := srt_split hk
  have at_ : ∀ (i : Nat) (v : Value), us.toArray[i]? = some v → ∃ b ∈ bs, (bs.map (·.1)).getD i .non = b.1 ∧ ∃ as, Reads s.heap v (pd b.1) as := fun i v e => by
    have e2 : us[i]? = some v := by simpa using e
    obtain ⟨x, hx, rx⟩ : ∃ x, (bs.map (·.2))[i]? = some x ∧ RelV x v := by
      have hl := rv.length
      have hi : i < us.length := (List.getElem?_eq_some_iff.mp e2).1
      obtain ⟨u, h1, h2⟩ := Vals.get (i := i) (x := (bs.map (·.2))[i]'(by omega)) rv (List.getElem?_eq_getElem _)
      rw [e2] at h1
      cases h1
      exact ⟨_, List.getElem?_eq_getElem _, h2⟩
    rw [List.getElem?_map, Option.map_eq_some_iff] at hx
    obtain ⟨b, hb, rfl⟩ := hx
    have hm := List.mem_of_getElem? hb
    exact ⟨b, hm, by simp [List.getD, hb], Dp.reads I _ _ _ (hd b hm) rx⟩
  intro i j x y s1 Q1 Q2 kg hx hy hq
  obtain ⟨b, hb, e1, as, r1⟩ := at_ i x hx
  obtain ⟨c, hc, e2, cs, r2⟩ := at_ j y hy
  simp only at hq
  rw [e1, e2] at hq
  have mb : b.1 ∈ bs.map (·.1) := List.mem_map.mpr ⟨b, hb, rfl⟩
  have mc : c.1 ∈ bs.map (·.1) := List.mem_map.mpr ⟨c, hc, rfl⟩
  have d1 := dz_dep 60 b.1 (List.all_eq_true.mp k1 _ mb)
  exact ho _ _ X.A.in1 s1 x y as cs (PyProof.Rows.Reads.keeps kg r1) (PyProof.Rows.Reads.keeps kg r2) (alk_ok k2 _ (List.mem_map.mpr ⟨_, mb, rfl⟩) _ (List.mem_map.mpr ⟨_, mc, rfl⟩)) (no_none k3 _ mb) (by
    show X.A.units + 1 + _ < cLine
    have := Nat.min_le_left (pd b.1).depth (pd c.1).depth
    omega) _ _ _ _ hq
end
section
variable {X : Cx}
theorem best_end {q : PyData → PyData → Bool} {bs : List (LV × V)} {us : List Value} (rv : Vals (bs.map (·.2)) us) {u : Value} (e : us.toArray[bestI q (bs.map (·.1))]? = some u) : ∃ b, bs[bestI q (bs.map (·.1))]? = some b ∧ RelV b.2 u := by
  generalize bestI q (bs.map (·.1)) = i at *
  have e2 : us[i]? = some u := by simpa using e
  have hl := rv.length
  have hi : i < us.length := (List.getElem?_eq_some_iff.mp e2).1
  rw [List.length_map] at hl
  obtain ⟨w, h1, h2⟩ := Vals.get (i := i) (x := (bs[i]'(by omega)).2) rv (by rw [List.getElem?_map, List.getElem?_eq_getElem (by omega)]; rfl)
  rw [e2] at h1
  cases h1
  exact ⟨_, List.getElem?_eq_getElem _, h2⟩
theorem cr_maxB (hu : X.A.units + 64 < cLine) (hc : X.calm = true) : CallR X (.builtin "max") (rBest gtDat X.K) := by
  intro pins s σ H vs us Q I r h
  obtain ⟨a, bs, rfl, hs, hd, hk, hn, q⟩ := h
  obtain ⟨its, rv, hl, _⟩ := I.list hs
  rw [Vals.ref1 r]
  have len : its.length = bs.length := by rw [← rv.length, List.length_map]
  refine maxK_walk _ (I.ok.hd hc) hl.isList (by simp; omega) (fun i v e => e) (best_cmp (q := gtDat) PySem.W.rcGt_alike hu I rv hd hk) fun u h2 t2 pu kk => ?_
  obtain ⟨b, e1, e2⟩ := best_end (q := gtDat) rv (u := u) (by
    unfold bestI
    rw [List.length_map, ← len]
    simpa using pu)
  exact ⟨b.2, H, I.kept kk, e2, q b e1⟩
theorem cr_minB (hu : X.A.units + 64 < cLine) (hc : X.calm = true) : CallR X (.builtin "min") (rBest ltDat X.K) := by
  intro pins s σ H vs us Q I r h
  obtain ⟨a, bs, rfl, hs, hd, hk, hn, q⟩ := h
  obtain ⟨its, rv, hl, _⟩ := I.list hs
  rw [Vals.ref1 r]
  have len : its.length = bs.length := by rw [← rv.length, List.length_map]
  refine minK_walk _ (I.ok.hd hc) hl.isList (by simp; omega) (fun i v e => e) (best_cmp (q := ltDat) PySem.W.rcLt_alike hu I rv hd hk) fun u h2 t2 pu kk => ?_
  obtain ⟨b, e1, e2⟩ := best_end (q := ltDat) rv (u := u) (by
    unfold bestI
    rw [List.length_map, ← len]
    simpa using pu)
  exact ⟨b.2, H, I.kept kk, e2, q b e1⟩
end
noncomputable def bestL (q : PyData → PyData → Bool) : OpN
  | [v], S => match lsO v S with
    | some xs => if (srtOk xs && decide (0 < xs.length)) = true then .ok (xs.getD (bestI q xs) .non) S else .no
    | none => .no
  | _, _ => .no
noncomputable abbrev maxB := bestL gtDat
noncomputable abbrev minB := bestL ltDat
theorem cl_best {K : PySem.W.Frag} {T : Env1} {q : PyData → PyData → Bool} : CallL K T (rBest q K) (bestL q) := fun m S H vs xs Q W r rv h => by
  unfold bestL at h
  split at h
  · obtain ⟨x, rfl, rx⟩ := rv.one
    split at h
    · rename_i ys hn
      split at h
      · rename_i hk
        rw [Bool.and_eq_true, decide_eq_true_eq] at hk
        obtain ⟨a, zs, rfl, ha, hs⟩ := lsO_ok r rx hn
        have hl := hs.len
        have e1 : (ys.zip zs).map (·.1) = ys := List.map_fst_zip (by omega)
        have e2 : (ys.zip zs).map (·.2) = zs := List.map_snd_zip (by omega)
        have hr := zip_rel hs
        refine ⟨a, ys.zip zs, rfl, SqL.of (by rw [ha, e2]), fun b hb => ?_, by rw [e1]; exact hk.1, by rw [List.length_zip]; omega, fun b hb => ?_⟩
        · obtain ⟨k1, _⟩ := srt_split hk.1
          have hm : b.1 ∈ ys := by
            have := List.mem_map_of_mem (f := Prod.fst) hb
            rwa [e1] at this
          exact dat_dp r 60 b.1 (pd b.1) b.2 (dz_pd 60 b.1 (List.all_eq_true.mp k1 _ hm)) (hr b hb)
        · rw [e1] at hb
          have : ys.getD (bestI q ys) .non = b.1 := by
            have e3 : ((ys.zip zs).map (·.1))[bestI q ys]? = some b.1 := by rw [List.getElem?_map, hb]; rfl
            rw [e1] at e3
            simp [List.getD, e3]
          rw [this] at h
          exact h.here r (hr b (List.mem_of_getElem? hb))
      · exact h.elim
    · exact h.elim
  · exact h.elim
/-! ### a > b of alike tuples -/
def rGtD (K : PySem.W.Frag) : R2 := fun x y H Q => ∃ d e, Dp K H x d ∧ Dp K H y e ∧ PySem.W.alike d e = true ∧ d ≠ .none ∧ d.depth ≤ 60 ∧ Q (.bl (PySem.W.dataLt e d)) H
theorem op_gtD {X : Cx} (hu : X.A.units + 64 < cLine) : OpR X (compareOp .Gt) (rGtD X.K) := by
  intro pins s σ H x y v u Q I rx ry h
  obtain ⟨d, e, hd, he, al, dn, dp, q⟩ := h
  obtain ⟨as, r1⟩ := Dp.reads I d x v hd rx
  obtain ⟨bs, r2⟩ := Dp.reads I e y u he ry
  exact PySem.W.gt_data r1 r2 al dn (by have := Nat.min_le_left d.depth e.depth; omega) ⟨.bl _, H, I, rfl, q⟩
def gtT : Op2 := fun v w S => if (dz 60 v && dz 60 w && PySem.W.alike (pd v) (pd w) && (isNT v || isNoT v)) = true then .ok (.bl (PySem.W.dataLt (pd w) (pd v))) S else .no
theorem ol_gtT {K : PySem.W.Frag} {T : Env1} : OpL K T (rGtD K) gtT := fun m S H v w x y Q W r rv rw h => by
  unfold gtT at h
  split at h
  · rename_i hk
    rw [Bool.and_eq_true, Bool.and_eq_true, Bool.and_eq_true] at hk
    refine ⟨pd v, pd w, dat_dp r 60 v _ x (dz_pd 60 v hk.1.1.1) rv, dat_dp r 60 w _ y (dz_pd 60 w hk.1.1.2) rw, hk.1.2, ?_, dz_dep 60 v hk.1.1.1, h.here r rfl⟩
    exact no_none (xs := [v]) (by simpa using hk.2) v (List.mem_singleton.mpr rfl)
  · exact h.elim
theorem c_gtT {X : Cx} {T : Env1} (hr : X.A.units + 64 < cLine) : CmL X T .Gt (rGtD X.K) gtT := ⟨op_gtD hr, ol_gtT⟩
/-! ### a != b, b a copy of the list a (or a itself) -/
def atm : LV → Bool
  | .non => true
  | .bl _ => true
  | .int _ => true
  | .str _ => true
  | .ref _ => true
  | _ => false
def sameA : LV → LV → Bool
  | .non, .non => true
  | .bl a, .bl b => a == b
  | .int a, .int b => a == b
  | .str a, .str b => decide (a = b)
  | .ref a, .ref b => a == b
  | _, _ => false
def sameAs : List LV → List LV → Bool
  | [], [] => true
  | x :: xs, y :: ys => sameA x y && sameAs xs ys
  | _, _ => false
def rNeS (K : PySem.W.Frag) : R2 := fun x y H Q => ∃ a b xs, x = .ref a ∧ y = .ref b ∧ SqL K H a xs ∧ SqL K H b xs ∧ (∀ v ∈ xs, flatB v = true ∨ ∃ c, v = .ref c) ∧ Q (.bl false) H
theorem op_neS {X : Cx} (hu : X.A.units + 64 < cLine) : OpR X (compareOp .NotEq) (rNeS X.K) := by
  intro pins s σ H x y v u Q I rx ry h
  obtain ⟨a, b, xs, rfl, rfl, ha, hb, hx, q⟩ := h
  cases (show v = Value.ref a from rx)
  cases (show u = Value.ref b from ry)
  obtain ⟨us, r1, p1, _⟩ := I.list ha
  obtain ⟨ws, r2, p2, _⟩ := I.list hb
  have hsz : us.toArray.size = ws.toArray.size := by rw [List.size_toArray, List.size_toArray, ← r1.length, ← r2.length]
  have items : ∀ (zs : List V) (us ws : List Value), (∀ v ∈ zs, flatB v = true ∨ ∃ c, v = .ref c) → Vals zs us → Vals zs ws → ∀ (j : Nat) (j1 : j < us.length) (j2 : j < ws.length), SeqAt.EqAt X.A.in1 s us[j] ws[j] true := by
    intro zs
    induction zs with
    | nil =>
      intro us ws _ r1 r2 j j1 j2
      cases r1
      exact absurd j1 (Nat.not_lt_zero j)
    | cons z zs ih =>
      intro us ws hz r1 r2 j j1 j2
      cases r1 with
      | cons a1 b1 =>
        cases r2 with
        | cons a2 b2 =>
          cases j with
          | zero =>
            rcases hz z List.mem_cons_self with f | ⟨c, rfl⟩
            · exact eqAt_same a1 a2 f
            · obtain rfl := (show _ = Value.ref c from a1)
              obtain rfl := (show _ = Value.ref c from a2)
              exact SeqAt.EqAt.same _
          | succ j => exact ih _ _ (fun v hv => hz v (List.mem_cons_of_mem _ hv)) b1 b2 j (Nat.lt_of_succ_lt_succ j1) (Nat.lt_of_succ_lt_succ j2)
  refine SeqAt.RcNeAt.lists (e := fun _ => true) p1.isList p2.isList hsz (by omega) (fun j j1 j2 => ?_) X.prog X.w _ _ ?_
  · have := items xs us ws hx r1 r2 j (by simpa using j1) (by simpa using j2)
    simpa using this
  · exact ⟨.bl false, H, I, by simp [L2.RelV], q⟩
theorem atm_flat {K : PySem.W.Frag} {m : List Addr} {H : Hp} {v : LV} {x : V} (h : atm v = true) (rv : RV K m H v x) : flatB x = true ∨ ∃ c, x = .ref c := by
  cases v with
  | non => rw [show x = .non from rv]; exact .inl rfl
  | bl b => rw [show x = .bl b from rv]; exact .inl rfl
  | int b => rw [show x = .int b from rv]; exact .inl rfl
  | str b => rw [show x = .str b from rv]; exact .inl rfl
  | ref n =>
    unfold RV at rv
    obtain ⟨a, e, _⟩ := rv
    exact .inr ⟨a, e⟩
  | _ => cases h
theorem same_rel {K : PySem.W.Frag} {m : List Addr} {H : Hp} {v w : LV} {x y : V} (h : sameA v w = true) (rv : RV K m H v x) (rw : RV K m H w y) : x = y ∧ atm v = true := by
  unfold sameA at h
  split at h
  · unfold RV at rv rw; exact ⟨rv.trans rw.symm, rfl⟩
  · unfold RV at rv rw; rw [rv, rw, eq_of_beq h]; exact ⟨rfl, rfl⟩
  · unfold RV at rv rw; rw [rv, rw, eq_of_beq h]; exact ⟨rfl, rfl⟩
  · unfold RV at rv rw; rw [rv, rw, of_decide_eq_true h]; exact ⟨rfl, rfl⟩
  · have e := eq_of_beq h
    subst e
    unfold RV at rv rw
    obtain ⟨a, rfl, h1⟩ := rv
    obtain ⟨b, rfl, h2⟩ := rw
    rw [h1] at h2
    cases h2
    exact ⟨rfl, rfl⟩
  · cases h
theorem sames_rel {K : PySem.W.Frag} {m : List Addr} {H : Hp} : ∀ {vs ws : List LV} {xs ys : List V}, sameAs vs ws = true → RVs K m H vs xs → RVs K m H ws ys → xs = ys ∧ ∀ x ∈ xs, flatB x = true ∨ ∃ c, x = .ref c
  | [], [], xs, ys, _, rv, rw => by rw [rv.nilE, rw.nilE]; exact ⟨rfl, fun x hx => by cases hx⟩
  | [], _ :: _, _, _, h, _, _ => by cases h
  | _ :: _, [], _, _, h, _, _ => by cases h
  | v :: vs, w :: ws, xs, ys, h, rv, rw => by
    unfold sameAs at h
    rw [Bool.and_eq_true] at h
    unfold RVs at rv rw
    obtain ⟨x, r, rfl, h1, h2⟩ := rv
    obtain ⟨y, r', rfl, k1, k2⟩ := rw
    obtain ⟨e, a⟩ := same_rel h.1 h1 k1
    obtain ⟨e2, a2⟩ := sames_rel h.2 h2 k2
    subst e e2
    refine ⟨rfl, fun z hz => ?_⟩
    rcases List.mem_cons.mp hz with rfl | hz
    · exact atm_flat a h1
    · exact a2 z hz
def isD1 (v w : LV) (S : Sto) : Bool := match v, w with
  | .ref n, .ref k => n == k && (match S[n]? with
    | some (.dct [(_, .int _)]) => true
    | _ => false)
  | _, _ => false
def neX : Op2 := fun v w S => match eqV2 v w S with
  | some b => .ok (.bl !b) S
  | none => if isD1 v w S = true then .ok (.bl false) S else match lsO v S, lsO w S with
    | some xs, some ys => if sameAs xs ys = true then .ok (.bl false) S else .no
    | _, _ => .no
def rNeX (K : PySem.W.Frag) : R2 := fun x y H Q => (rNeU K x y H Q ∨ rNeS K x y H Q) ∨ rNeDA x y H Q
theorem ol_neX {K : PySem.W.Frag} {T : Env1} : OpL K T (rNeX K) neX := fun m S H v w x y Q W r rv rw h => by
  unfold neX at h
  split at h
  · rename_i b hb
    exact .inl (.inl (ol_ne m S H v w x y Q W r rv rw (by unfold neL; rw [hb]; exact h)))
  · split at h
    · rename_i hd
      unfold isD1 at hd
      split at hd
      · rename_i n k
        rw [Bool.and_eq_true] at hd
        obtain ⟨e, hd⟩ := hd
        have e := eq_of_beq e
        subst e
        split at hd
        · rename_i key i hn
          unfold RV at rv rw
          obtain ⟨a, rfl, h1⟩ := rv
          obtain ⟨b, rfl, h2⟩ := rw
          rw [h1] at h2
          cases h2
          obtain ⟨ws, q1, q2, q3⟩ := r.ob _ a _ h1 hn
          obtain ⟨w, rfl⟩ : ∃ w, ws = [w] := by
            cases ws with
            | nil => cases q2
            | cons w t => cases t with
              | nil => exact ⟨w, rfl⟩
              | cons _ _ => cases q2
          unfold RVs at q3
          obtain ⟨u, t, e3, e4, _⟩ := q3
          cases e3
          have e4 : w.2 = V.int i := e4
          refine .inr ⟨a, a, [w], [w], rfl, rfl, q1, q1, rfl, fun p hp => ?_, h.here r rfl⟩
          rw [List.mem_singleton.mp hp]
          exact ⟨by simp [valV], by rw [e4]; rfl⟩
        · cases hd
      · cases hd
    · split at h
      · rename_i xs ys h1 h2
        split at h
        · rename_i hs
          obtain ⟨a, zs, rfl, ha, hz⟩ := lsO_ok r rv h1
          obtain ⟨b, zt, rfl, hb, hz2⟩ := lsO_ok r rw h2
          obtain ⟨e, k⟩ := sames_rel hs hz hz2
          subst e
          exact .inl (.inr ⟨a, b, zs, rfl, rfl, SqL.of ha, SqL.of hb, k, h.here r rfl⟩)
        · exact h.elim
      · exact h.elim
theorem c_neX {X : Cx} {T : Env1} (hr : X.A.units + 64 < cLine) : CmL X T .NotEq (rNeX X.K) neX := ⟨OpR.or (OpR.or (op_neU hr) (op_neS hr)) (op_ne_dictA (by omega)), ol_neX⟩
end LL


set_option Elab.async false
set_option linter.all false
set_option maxRecDepth 100000
set_option maxHeartbeats 2000000
/-! The logical layer: comprehensions over what is known by its items (enumerate). -/
namespace LL
open PySem PySem.Spec PyProof.Rows L2
/-- what is walked, at each store behind S -/
structure Wk {β : Type} (S : Sto) (l : LIt) (ws : List β) (g : β → LV) : Prop where
  n : l.n = ws.length
  it : ∀ (U : Sto) (i : Nat) (b : β), ws[i]? = some b → l.item i (S ++ U) = some (g b)
  fine : ∀ U : Sto, l.fine (S ++ U) = true
theorem Wk.of {β : Type} {S : Sto} {l : LIt} {ws : List β} {g : β → LV} (h : ItIs S l (ws.map g)) : Wk S l ws g :=
  ⟨by rw [h.n, List.length_map], fun U i b e => h.app.item (by rw [List.getElem?_map, e]; rfl), fun U => h.app.fine⟩
theorem Wk.enum {β : Type} {S : Sto} {l : LIt} {ws : List β} {g : β → LV} (h : Wk S l ws g) : Wk S (enumI l) (ws.zipIdx) (fun p => .tup [.int (p.2 : Nat), g p.1]) :=
  ⟨by show l.n = _; rw [h.n, List.length_zipIdx], fun U i b e => by
    rw [List.getElem?_zipIdx, Option.map_eq_some_iff] at e
    obtain ⟨w, hw, rfl⟩ := e
    show (l.item i (S ++ U)).map _ = _
    rw [h.it U i w hw]
    simp, fun U => h.fine U⟩
theorem lcKx_map {β : Type} {lg : LG} {ft fe : LE} {ds : Sl} {S : Sto} {l : LIt} {ws : List β} {g : β → LV} (p : β → Bool) (f : β → LV) (hl : Wk S l ws g) (hs : ws.length ≤ 16777216)
    (h : ∀ b ∈ ws, ∀ acc, ∃ ds1, lg (g b) (S ++ [.lst acc]) ds = some ds1 ∧ ft ds1 (S ++ [.lst acc]) = .ok (.bl (p b)) (S ++ [.lst acc]) ∧ (p b = true → fe ds1 (S ++ [.lst acc]) = .ok (f b) (S ++ [.lst acc]))) :
    ∀ (k i : Nat) (acc : List LV), i + k = ws.length → acc.length ≤ i → lcK l lg ft fe ds S.length k i (S ++ [.lst acc]) = .ok (.ref S.length) (S ++ [.lst (acc ++ ((ws.drop i).filter p).map f)])
  | 0, i, acc, e, _ => by
    have : ws.drop i = [] := List.drop_eq_nil_of_le (by omega)
    rw [this]
    unfold lcK
    rw [if_pos (hl.fine _)]
    simp
  | k + 1, i, acc, e, ha => by
    have hi : i < ws.length := by omega
    rw [List.drop_eq_getElem_cons hi]
    obtain ⟨ds1, h1, h2, h3⟩ := h ws[i] (List.getElem_mem hi) acc
    unfold lcK
    rw [hl.it [.lst acc] i ws[i] (List.getElem?_eq_getElem hi)]
    simp only
    rw [h1]
    simp only
    rw [h2]
    cases ht : p ws[i] with
    | true =>
      simp only
      rw [h3 ht]
      simp only
      unfold lcA
      rw [show (S ++ [LO.lst acc])[S.length]? = some (.lst acc) by rw [get_app0]; rfl]
      simp only
      rw [if_pos (by unfold small; exact decide_eq_true (by omega)), set_app0]
      show lcK l lg ft fe ds S.length k (i + 1) (S ++ [.lst (acc ++ [f ws[i]])]) = _
      rw [lcKx_map p f hl hs h k (i + 1) _ (by omega) (by simp; omega), List.filter_cons, if_pos ht, List.map_cons, List.append_assoc]
      rfl
    | false =>
      simp only
      rw [lcKx_map p f hl hs h k (i + 1) _ (by omega) (by omega), List.filter_cons, if_neg (by rw [ht]; simp)]
theorem lcX_map {β : Type} {t : Bool} {lg : LG} {ft fe : LE} {ds : Sl} {S : Sto} {l : LIt} {ws : List β} {g : β → LV} (p : β → Bool) (f : β → LV) (hl : Wk S l ws g) (hs : ws.length ≤ 16777216)
    (h : ∀ b ∈ ws, ∀ acc, ∃ ds1, lg (g b) (S ++ [.lst acc]) ds = some ds1 ∧ ft ds1 (S ++ [.lst acc]) = .ok (.bl (p b)) (S ++ [.lst acc]) ∧ (p b = true → fe ds1 (S ++ [.lst acc]) = .ok (f b) (S ++ [.lst acc])))
    (hlow : ∀ b ∈ ws, p b = true → lowV S.length (f b) = true) : lcR t lg ft fe ds (.ok l S) = newL t ((ws.filter p).map f) S := by
  show gcG t S (lcK l lg ft fe ds S.length l.n 0 (S ++ [.lst []])) = _
  rw [hl.n, lcKx_map p f hl hs h ws.length 0 [] (by omega) (by simp), List.drop_zero, List.nil_append]
  have low : lowVs S.length ((ws.filter p).map f) = true := lows_all.mpr fun v hv => by
    obtain ⟨b, hb, rfl⟩ := List.mem_map.mp hv
    obtain ⟨h1, h2⟩ := List.mem_filter.mp hb
    exact hlow b h1 h2
  cases t with
  | true => rw [gcG_t, gcT_new0 rfl low]; rfl
  | false => rw [gcG_f, gc_frz0 rfl low]; rfl
theorem lcX_all {β : Type} {t : Bool} {lg : LG} {fe : LE} {ds : Sl} {S : Sto} {l : LIt} {ws : List β} {g : β → LV} (f : β → LV) (hl : Wk S l ws g) (hs : ws.length ≤ 16777216)
    (h : ∀ b ∈ ws, ∀ acc, ∃ ds1, lg (g b) (S ++ [.lst acc]) ds = some ds1 ∧ fe ds1 (S ++ [.lst acc]) = .ok (f b) (S ++ [.lst acc])) (hlow : ∀ b ∈ ws, lowV S.length (f b) = true) : lcR t lg lYes fe ds (.ok l S) = newL t (ws.map f) S := by
  rw [lcX_map (fun _ => true) f hl hs (fun b hb acc => by
    obtain ⟨ds1, h1, h2⟩ := h b hb acc
    exact ⟨ds1, h1, rfl, fun _ => h2⟩) (fun b hb _ => hlow b hb)]
  rw [List.filter_eq_self.mpr (by simp)]
/-! data in order: pairs of ints -/
def pv (p : Int × Int) : LV := .tup [.int p.1, .int p.2]
theorem pv_srt {ps : List (Int × Int)} (h : ps.length ≤ 16777216) : srtOk (ps.map pv) = true := by
  unfold srtOk
  have e1 : (ps.map pv).all (dz 60) = true := by simp [dz, pv]
  have e2 : alk (ps.map pv) = true := by
    unfold alk
    rw [List.all_eq_true]
    intro x hx
    obtain ⟨p, _, rfl⟩ := List.mem_map.mp hx
    rw [List.all_eq_true]
    intro y hy
    obtain ⟨q, _, rfl⟩ := List.mem_map.mp hy
    rfl
  have e3 : (ps.map pv).all isNT = true := by simp [isNT, pv]
  rw [e1, e2, e3]
  unfold small
  simpa using h
noncomputable def sortP (ps : List (Int × Int)) : List (Int × Int) := ps.mergeSort fun p q => decide (p.1 < q.1 ∨ (p.1 = q.1 ∧ p.2 ≤ q.2))
theorem sortV_pairs (ps : List (Int × Int)) : sortV (ps.map pv) = (sortP ps).map pv := by
  unfold sortV sortP
  refine (PySem.W.sort_maps (f := pv) (r := fun p q => decide (p.1 < q.1 ∨ (p.1 = q.1 ∧ p.2 ≤ q.2))) (s := PySem.W.dataLe false pd) (l := ps) fun a _ b _ => ?_).symm
  have := congrFun (congrFun (PySem.W.dataLe_ii (fun p : Int × Int => p.1) (fun p => p.2)) a) b
  exact this.symm
theorem sortP_perm (ps : List (Int × Int)) : (sortP ps).Perm ps := List.mergeSort_perm ps _
theorem sortP_pw (ps : List (Int × Int)) : (sortP ps).Pairwise fun p q => p.1 < q.1 ∨ (p.1 = q.1 ∧ p.2 ≤ q.2) := by
  have q := List.pairwise_mergeSort (le := fun p q : Int × Int => decide (p.1 < q.1 ∨ (p.1 = q.1 ∧ p.2 ≤ q.2))) (fun a b c h1 h2 => by
    simp only [decide_eq_true_eq] at h1 h2 ⊢
    omega) (fun a b => by
    simp only [Bool.or_eq_true, decide_eq_true_eq]
    omega) ps
  exact q.imp fun h => by simpa using h
theorem sorted_pairs {t : Bool} {S : Sto} {v : LV} {ps : List (Int × Int)} (hv : lsO v S = some (ps.map pv)) (h : ps.length ≤ 16777216) : sortedG t [v] S = newL t ((sortP ps).map pv) S := by
  unfold sortedG
  simp only [hv, pv_srt h, if_true]
  rw [sortV_pairs]
theorem argBest_le (f : Nat → Nat → Bool) : ∀ k, argBest f k ≤ k
  | 0 => Nat.le_refl _
  | k + 1 => by
    unfold argBest
    have := argBest_le f k
    split <;> omega
/-- what is told is one of them -/
theorem best_pairs {q : PyData → PyData → Bool} {S : Sto} {v : LV} {ps : List (Int × Int)} (hv : lsO v S = some (ps.map pv)) (h : ps.length ≤ 16777216) (h0 : ps ≠ []) : ∃ p ∈ ps, bestL q [v] S = .ok (pv p) S := by
  have hp : 0 < ps.length := by cases ps with | nil => exact absurd rfl h0 | cons _ _ => simp
  have hb : bestI q (ps.map pv) < ps.length := by
    have := argBest_le (fun i j => q (pd ((ps.map pv).getD i .non)) (pd ((ps.map pv).getD j .non))) ((ps.map pv).length - 1)
    unfold bestI
    rw [List.length_map] at this ⊢
    omega
  refine ⟨ps[bestI q (ps.map pv)], List.getElem_mem hb, ?_⟩
  unfold bestL
  simp only [hv, pv_srt h, List.length_map, Bool.true_and]
  rw [if_pos (by simpa using hp)]
  congr 1
  rw [List.getD_eq_getElem?_getD, List.getElem?_map, List.getElem?_eq_getElem hb]
  rfl
theorem gt_pairs {S : Sto} (p q : Int × Int) : gtT (pv p) (pv q) S = .ok (.bl (decide (q.1 < p.1 ∨ (q.1 = p.1 ∧ q.2 < p.2)))) S := by
  have e : PySem.W.dataLt (pd (pv q)) (pd (pv p)) = decide (q.1 < p.1 ∨ (q.1 = p.1 ∧ q.2 < p.2)) := PySem.W.dataLt_ii q.1 q.2 p.1 p.2
  unfold gtT
  rw [if_pos (by rfl), e]
end LL


set_option Elab.async false
set_option linter.all false
set_option maxRecDepth 100000
set_option maxHeartbeats 2000000
/-! The logical layer: sorted of a dict whose keys are tuples; how often a text stands in a text. -/
namespace LL
open PySem PySem.Spec PyProof.Rows L2
theorem reads_keys {h : Heap} : ∀ {ks : List Key} {us : List Value}, Vals (ks.map kV) us → ReadsAll h us (pds (ks.map keyV)) []
  | [], us, r => by cases r; exact .nil
  | .inl i :: ks, us, r => by
    cases r with
    | cons r1 r2 =>
      obtain ⟨t, rfl⟩ := r1
      exact ReadsAll.cons (as := []) (bs := []) (.int i t) (reads_keys r2)
  | .inr z :: ks, us, r => by
    cases r with
    | cons r1 r2 =>
      obtain ⟨t, rfl⟩ := r1
      exact ReadsAll.cons (as := []) (bs := []) (.str z t) (reads_keys r2)
/-- sorted(d), the keys of d tuples that are alike -/
def rSrtT : List V → Hp → VK → Prop := fun xs H Q => ∃ (a : Addr) (kvs : List (List Key × V)), xs = [.ref a] ∧ H a = some (.dT kvs) ∧ srtOk (kvs.map fun kv => keyT kv.1) = true ∧
  ∀ (p : Addr) (L : List (List Key × Addr)), L.map (·.1) = kvs.map (·.1) → (∀ x ∈ L, H x.2 = some (.tup (x.1.map kV))) → H p = none → Q (.ref p) (upd H p (.lst ((L.mergeSort (PySem.W.dataLe false fun x => pd (keyT x.1))).map fun x => V.ref x.2)))
theorem each_key {h : Heap} {L : List (List Key × Addr)} {P : Value → List Key × Addr → Prop} (hp : ∀ x ∈ L, P (.ref x.2) x) : PySem.W.EachIs P (L.map fun x => Value.ref x.2) L := by
  induction L with
  | nil => exact .nil
  | cons x L ih => exact .cons (hp x List.mem_cons_self) (ih fun y hy => hp y (List.mem_cons_of_mem _ hy))
theorem key_vals : ∀ {M : List (List Key × Addr)} {us : List Value}, PySem.W.EachIs (fun u (x : List Key × Addr) => u = Value.ref x.2) us M → Vals (M.map fun x => V.ref x.2) us
  | [], us, h => by cases h; exact .nil
  | x :: M, us, h => by
    cases h with
    | cons h1 h2 => exact .cons h1 (key_vals h2)
theorem kt_keys {H : Hp} {kvs : List (List Key × V)} {ts : List (List Key × Addr × Value)} (pr : Paired (fun (p : List Key × V) (q : List Key × Addr × Value) => p.1 = q.1 ∧ H q.2.1 = some (.tup (p.1.map kV)) ∧ L2.RelV p.2 q.2.2) kvs ts) :
    ts.map (fun x => x.1) = kvs.map (·.1) ∧ ∀ y ∈ ts, H y.2.1 = some (.tup (y.1.map kV)) := by
  induction pr with
  | nil => exact ⟨rfl, fun y hy => by cases hy⟩
  | cons h _ ih =>
    refine ⟨by rw [List.map_cons, List.map_cons, ih.1, h.1]; all_goals rfl, fun y hy => ?_⟩
    rcases List.mem_cons.mp hy with rfl | hy
    · rw [← h.1]; exact h.2.1
    · exact ih.2 y hy
theorem cr_srtT {X : Cx} (hu : X.A.units + 64 < cLine) (hc : X.calm = true) : CallR X (.builtin "sorted") rSrtT := by
  intro pins s σ H vs us Q I r h
  obtain ⟨a, kvs, rfl, hd, hk, q⟩ := h
  rw [Vals.ref1 r]
  obtain ⟨k1, k2, k3, k4⟩ := srt_split hk
  obtain ⟨z, nm, ts, pr, ob, es, ep, ho, hx, hdt, he, _⟩ := (show ObjOk X.prog X.w H s.heap a (.dT kvs) from I.hok a _ hd)
  have n1 : es.size = ts.length := size_of_entries he
  have n2 : kvs.length = ts.length := Paired.length pr
  refine Calls.call_function_entry kind_sorted plain_sorted entry_sorted (args_sorted1 _) ?_; unfold Builtin.«sorted»
  refine wpAny_bind (m := checkCount "sorted" 1 1 _) (wpAny_pure ?_); refine wpAny_bind (PySem.W.kdu_collect (A := X.A.in1) (kdl_raw nm hx hdt) (I.ok.hd hc) ho (by omega) fun h2 t2 acc kp it => ?_)
  have items : acc.toList = ts.map fun x => Value.ref x.2.1 := by
    have ln : acc.toList.length = ts.length := by rw [Array.length_toList, it.1]; exact n1
    refine List.ext_getElem? fun j => ?_
    rw [List.getElem?_map]
    by_cases lt : j < ts.length
    · have hj : acc.toList[j]? = some acc.toList[j] := List.getElem?_eq_getElem (by omega)
      obtain ⟨en, h1, h3⟩ := it.2 j _ (by rw [← Array.getElem?_toList]; exact hj)
      have h4 := entry_at he j
      rw [h1, List.getElem?_eq_getElem lt] at h4
      have h5 : en = entryOfKey (tupleKind (mixKind X.prog X.w)) ts[j] := Option.some.inj h4
      rw [hj, h3, h5, List.getElem?_eq_getElem lt]
      all_goals rfl
    · rw [List.getElem?_eq_none (by omega), List.getElem?_eq_none (by omega)]
      all_goals rfl
  have I1 : Inv X pins σ H { s with heap := h2, toks := t2 } := I.kept kp
  obtain ⟨L, hL⟩ : ∃ L : List (List Key × Addr), L = ts.map fun x => (x.1, x.2.1) := ⟨_, rfl⟩
  have items2 : acc.toList = L.map fun x => Value.ref x.2 := by rw [items, hL, List.map_map]; all_goals rfl
  have keys : L.map (·.1) = kvs.map (·.1) := by
    rw [hL, List.map_map]
    exact (kt_keys pr).1
  have held : ∀ x ∈ L, H x.2 = some (.tup (x.1.map kV)) := fun x hx => by
    rw [hL] at hx
    obtain ⟨y, hy, rfl⟩ := List.mem_map.mp hx
    exact (kt_keys pr).2 y hy
  refine wpAny_bind (wpAny_newList ?_ (by rw [items2, List.length_map, hL, List.length_map]; omega))
  have hob : (h2.push (seqObj "list" acc.toList.toArray 0)).get? h2.objs.size = some (seqObj "list" acc.toList.toArray 0) := Heap.get?_push_size _ rfl
  show wpAny _ _ _ _ _ { s with heap := h2.push (seqObj "list" acc.toList.toArray 0), toks := t2 }
  have kp3 : ∀ (o : Obj) c u, h2.get? c = some u → (h2.push o).get? c = some u := fun o c u e => Heap.get?_push_of_some _ e
  have kl : L.map (fun x => keyT x.1) = kvs.map fun kv => keyT kv.1 := by
    have := congrArg (List.map keyT) keys
    rw [List.map_map, List.map_map] at this
    exact this
  have kp' : (L.map fun x => pd (keyT x.1)) = (kvs.map fun kv => keyT kv.1).map pd := by rw [← kl, List.map_map]; all_goals rfl
  rw [items2] at hob ⊢
  refine wpAny_bind (wpAny_holding (PySem.W.list_sort_data (R := fun u (x : List Key × Addr) => u = Value.ref x.2) (enc := fun x : List Key × Addr => pd (keyT x.1)) (bs := L) hob (each_key (h := h2) fun x _ => rfl) (each_key (h := h2) fun x hx => ?_)
    (by rw [kp']; exact alk_ok k2) (by rw [kp']; exact sortable_ok k3) (by rw [hL, List.length_map]; omega) (fun x hx => ?_) fun out ln eo => ?_))
  · obtain ⟨_, its, rv, o, hg, hcl, n, hdd⟩ := I1.hok x.2 _ (held x hx)
    exact ⟨[], .tuple (kp3 _ _ _ hg) hcl hdd (reads_keys rv), by simp⟩
  · have hm : keyT x.1 ∈ kvs.map fun kv => keyT kv.1 := by rw [← kl]; exact List.mem_map.mpr ⟨x, hx, rfl⟩
    have := dz_dep 60 _ (List.all_eq_true.mp k1 _ hm)
    show X.A.units + 1 + 1 + _ < cLine
    omega
  · obtain ⟨e', he'⟩ := PyProof.Rows.sortedHeap_at (vs := L.map fun x => Value.ref x.2) (out := out.toArray) hob
    have len2 : ((L.mergeSort (PySem.W.dataLe false fun x => pd (keyT x.1))).map fun x => V.ref x.2).length ≤ sizeLine := by rw [List.length_map, List.length_mergeSort, hL, List.length_map]; omega
    refine wpAny_pure ⟨_, rfl, .ref h2.objs.size, upd H h2.objs.size (.lst _), I1.laid (t' := t2) (fun c u e => ?_) (Nat.le_refl _) ⟨len2, out, e', key_vals eo, he'⟩, rfl, q _ L keys held (I1.hok.fresh (Nat.le_refl _))⟩
    have hb : c < h2.objs.size := Heap.lt_size e
    rw [PyProof.Rows.sortedHeap_old (Nat.ne_of_lt hb) (by show c < (h2.push _).objs.size; rw [Heap.size_push]; exact Nat.lt_succ_of_lt hb)]
    exact kp3 _ c u e
end LL
namespace LL
open PySem PySem.Spec PyProof.Rows L2
section
variable {K : PySem.W.Frag} {T : Env1}
noncomputable def sortedTG (t : Bool) : OpN
  | [.ref n], S => match S[n]? with
    | some (.dcT kvs) => if srtOk (kvs.map fun kv => keyT kv.1) = true then newL t (sortV (kvs.map fun kv => keyT kv.1)) S else .no
    | _ => .no
  | _, _ => .no
noncomputable abbrev sortedTL := sortedTG false
noncomputable abbrev sortedTT := sortedTG true
theorem keys_rv {m : List Addr} {H : Hp} : ∀ ks : List Key, RVs K m H (ks.map keyV) (ks.map kV)
  | [] => RVs.nil
  | k :: ks => RVs.cons keyV_rv (keys_rv ks)
theorem keyT_rv {m : List Addr} {H : Hp} {ks : List Key} {a : Addr} (h : H a = some (.tup (ks.map kV))) : RV K m H (keyT ks) (.ref a) := by
  unfold keyT RV
  exact ⟨a, _, rfl, h, keys_rv ks⟩
theorem keyTs_rv {m : List Addr} {H : Hp} : ∀ {L : List (List Key × Addr)}, (∀ x ∈ L, H x.2 = some (.tup (x.1.map kV))) → RVs K m H (L.map fun x => keyT x.1) (L.map fun x => V.ref x.2)
  | [], _ => RVs.nil
  | x :: L, h => RVs.cons (keyT_rv (h x List.mem_cons_self)) (keyTs_rv fun y hy => h y (List.mem_cons_of_mem _ hy))
theorem cl_sortedT {t : Bool} : CallL K T rSrtT (sortedTG t) := fun m S H vs xs Q W r rv h => by
  unfold sortedTG at h
  split at h
  · rename_i n
    obtain ⟨x, rfl, rx⟩ := rv.one
    split at h
    · rename_i kvs hn
      split at h
      · rename_i hk
        unfold RV at rx
        obtain ⟨a, rfl, hm⟩ := rx
        obtain ⟨ws, h1, h2, h3⟩ := r.ob n a _ hm hn
        have e : (ws.map fun kv => keyT kv.1) = kvs.map fun kv => keyT kv.1 := by
          have := congrArg (List.map keyT) h2
          rw [List.map_map, List.map_map] at this
          exact this
        refine ⟨a, ws, rfl, h1, by rw [e]; exact hk, fun p L hL hh hp => ?_⟩
        have e2 : sortV (kvs.map fun kv => keyT kv.1) = (L.mergeSort (PySem.W.dataLe false fun x => pd (keyT x.1))).map fun x => keyT x.1 := by
          have q := PySem.W.sort_maps (f := fun x : List Key × Addr => keyT x.1) (r := PySem.W.dataLe false fun x : List Key × Addr => pd (keyT x.1)) (s := PySem.W.dataLe false pd) (l := L) (fun _ _ _ _ => rfl)
          rw [q]
          unfold sortV
          congr 1
          rw [← e]
          have := congrArg (List.map keyT) hL
          rw [List.map_map, List.map_map] at this
          exact this.symm
        rw [e2] at h
        exact fin_new r (keyTs_rv fun x hx => hh x (List.mem_mergeSort.mp hx)) h p hp
      · exact h.elim
    · exact h.elim
  · exact h.elim
/-! text.count(text) -/
def countL : OpM
  | .str a, [.str b], S => .ok (.int (Txt.count a b)) S
  | _, _, _ => .no
theorem ml_count : MtL K T (fun x xs H Q => ∃ a b, x = .str a ∧ xs = [.str b] ∧ Q (.int (Txt.count a b)) H) countL := fun m S H v vs x xs Q W r rv rvs h => by
  unfold countL at h
  split at h
  · obtain ⟨y, rfl, ry⟩ := rvs.one
    cases (show y = .str _ from ry)
    exact ⟨_, _, rv, rfl, h.here r rfl⟩
  · exact h.elim
end
end LL
namespace LL
open PySem PySem.Spec PyProof.Rows L2
/-! {} for keys that are tuples -/
def lDnewT : LE := fun _ S => .ok (.ref S.length) (S ++ [.dcT []])
section
variable {X : Cx} {T : Env1} {ξ : Xi} {W : WX} {pos : Pos}
theorem fin_dcT {K : PySem.W.Frag} {m : List Addr} {S : Sto} {H : Hp} {Q : VK} {W : XK} (r : RelS K T m S H) (h : PoE K T m H (.ok (.ref S.length) (S ++ [.dcT []])) Q W) : ∀ p, H p = none → Q (.ref p) (upd H p (.dT [])) := fun p hp => by
  have E : Ext m H (m ++ [p]) (upd H p (.dT [])) := Ext.alloc r hp
  refine h _ _ _ E (r.alloc hp ⟨[], upd_same, rfl, RVs.nil⟩) ?_
  unfold RV
  exact ⟨p, rfl, by rw [← r.len, List.getElem?_append_right (Nat.le_refl _), Nat.sub_self] <;> rfl⟩
theorem pl_dnewT : PE X (.Dict [] [] pos) (tL X.K T ξ W lDnewT) := pe_imp pe_dnewT fun σ H Q ⟨m, S, ds, r, rs, h⟩ => fin_dcT r h
end
@[simp] theorem e_dnewT {ds : Sl} {S : Sto} : lDnewT ds S = .ok (.ref S.length) (S ++ [.dcT []]) := (rfl)
/-! what is known of dicts with tuple keys -/
section
variable {S : Sto} {n : Nat} {kvs : List (List Key × LV)} {xs : List LV} {ks : List Key} {w u : LV}
theorem got_dT (h : S[n]? = some (.dcT kvs)) (hk : keysL xs = some ks) : gotO (.ref n) (.tup xs) w S = .ok ((getK kvs ks).getD w) S := by
  simp [gotO, getOv, h, dKs, dTs, hk]
theorem isDc_dT (h : S[n]? = some (.dcT kvs)) : isDc (.ref n) S = true := by simp [isDc, h, dKs, dTs]
theorem put_dT (h : S[n]? = some (.dcT kvs)) (hk : keysL xs = some ks) (hs : kvs.length < 16777216) : putO (.ref n) (.tup xs) w S = some (S.set n (.dcT (putL kvs ks w))) := by
  have hz : small (kvs.length + 1) = true := by unfold small; exact decide_eq_true (by omega)
  simp [putO, h, hk, hz]
theorem ix_dT (h : S[n]? = some (.dcT kvs)) (hk : keysL xs = some ks) (hg : getK kvs ks = some u) : ixL (.ref n) (.tup xs) S = .ok u S := by
  simp [ixL, ixO, h, getOv, dKs, dTs, hk, hg]
end
/-! enumerate of a list -/
theorem enumI_of (xs : List LV) : enumI (itOf xs) = itOf (xs.zipIdx.map fun p => .tup [.int (p.2 : Nat), p.1]) := by
  unfold enumI itOf
  congr 1
  · simp
  · funext i S
    simp only [List.getElem?_map, List.getElem?_zipIdx, Option.map_map]
    cases xs[i]? <;> simp
/-! how often : stands in a text -/
theorem kind_col (z : Str) : ¬ Builtin.Str.strKind z < Builtin.Str.strKind colT := by
  have e : Builtin.Str.strKind colT = 1 := by decide +kernel
  rw [e]
  unfold Builtin.Str.strKind
  split
  · omega
  · split <;> omega
theorem count_col {z : Str} (h : 1 ≤ z.length) : Txt.count z colT = ((names z).length : Int) - 1 := by
  unfold Txt.count names Txt.split
  have c : (decide (z.length < colT.length) || decide (Builtin.Str.strKind z < Builtin.Str.strKind colT)) = false := by
    rw [decide_eq_false (kind_col z), decide_eq_false (by have : colT.length = 1 := rfl; omega)]
    rfl
  rw [c, if_neg (by decide)]
  cases e : Builtin.Str.occurrences z colT 0 z.length (z.length + 1) with
  | nil => simp
  | cons a t =>
    rw [if_neg (by simp)]
    unfold Builtin.Str.partsBetween
    simp
end LL


set_option Elab.async false
set_option linter.all false
set_option maxRecDepth 100000
set_option maxHeartbeats 2000000
/-! The logical layer: reversed(list) walked, enumerate(reversed(list)) walked. -/
namespace LL
open PySem PySem.Spec PyProof.Rows L2
/-! ### the kit's side: a list from its end, numbered -/
section
variable {prog : Program} {w : World} {A : Around} {E : Value → Shared → Prop} {s : Shared}
theorem nextOf_rev {it l : Addr} {i : Nat} {items : Array Value} {x : Value} {Q : Value → Shared → Prop} (hit : s.heap.IsRevIter it l (i : Int)) (hl : s.heap.IsList l items) (hx : items[i]? = some x)
    (hQ : ∀ h', h'.IsRevIter it l ((i : Int) - 1) → Heap.SameBut it s.heap h' → Q x { s with heap := h' }) : wpAny (model prog w) A (Builtin.SmallTypes.nextOf (.ref it)) Q E s := by
  have ty := hit.typeIs
  obtain ⟨o, ho, hc, hd⟩ := hit
  obtain ⟨ol, hol, _, nl, hdl⟩ := hl
  unfold Builtin.SmallTypes.nextOf
  refine wpAny_bind (wpAny_callSpecial?_slot (name := Str.ofString "__next__") ty F.slot_lri_next (wpAny_call_entry F.slot_lri_next ty F.entry_lri_next ?_ (F.args_lri_next_1 _)))
  unfold Builtin.«list_reverseiterator.__next__»
  refine wpAny_bind (wpAny_of_eq (a := (Value.ref it, [])) rfl ?_)
  dsimp only
  refine wpAny_bind (wpAny_field ho hd (x := rawInt (i : Int)) rfl ?_)
  show wpAny _ _ (if (i : Int) < 0 then _ else _) _ _ s
  rw [if_neg (show ¬ (i : Int) < 0 by omega)]
  show wpAny _ _ (field (.ref it) 0 >>= _) _ _ s
  refine wpAny_bind (wpAny_field ho hd (x := .ref l) rfl ?_)
  show wpAny _ _ (seqItems? (.ref l) >>= _) _ _ s
  refine wpAny_bind (wpAny_seqItems hol hdl ?_)
  simp only [Int.toNat_natCast, hx]
  refine wpAny_bind (wpAny_setField ho hd (by simp) ?_)
  first
  | refine wpAny_pure ⟨x, rfl, wpAny_pure (hQ _ ?_ (Heap.SameBut.update ..))⟩
  | refine wpAny_bind (wpAny_pure (wpAny_pure ⟨x, rfl, wpAny_pure (hQ _ ?_ (Heap.SameBut.update ..))⟩))
  refine ⟨_, Heap.get?_update_self _ ho (Obj.isFreed_of_fields (Obj.data_mapFields hd _)), (Obj.cls_mapFields ..).trans hc, ?_⟩
  rw [Obj.data_mapFields hd]
  simp
theorem nextOf_rev0 {it l : Addr} {Q : Value → Shared → Prop} (hh : A.handled = none) (hit : s.heap.IsRevIter it l (-1))
    (hE : ∀ h' e, Heap.ExtBut it s.heap h' → (∃ o, h'.get? e = some o ∧ o.cls = .type "StopIteration") → E (.ref e) { s with heap := h' }) : wpAny (model prog w) A (Builtin.SmallTypes.nextOf (.ref it)) Q E s := by
  have ty := hit.typeIs
  obtain ⟨o, ho, hc, hd⟩ := hit
  unfold Builtin.SmallTypes.nextOf
  refine wpAny_bind (wpAny_callSpecial?_slot (name := Str.ofString "__next__") ty F.slot_lri_next (wpAny_call_entry F.slot_lri_next ty F.entry_lri_next ?_ (F.args_lri_next_1 _)))
  unfold Builtin.«list_reverseiterator.__next__»
  refine wpAny_bind (wpAny_of_eq (a := (Value.ref it, [])) rfl ?_)
  dsimp only
  refine wpAny_bind (wpAny_field ho hd (x := rawInt (-1)) rfl ?_)
  show wpAny _ _ (if (-1 : Int) < 0 then _ else _) _ _ s
  rw [if_pos (show (-1 : Int) < 0 by decide)]
  refine wpAny_bind (wpAny_rule ?_)
  first
  | show wpAny _ _ (newExc (.type "StopIteration") [] >>= _) _ _ _
  | (refine wpAny_bind ?_; show wpAny _ _ (newExc (.type "StopIteration") [] >>= _) _ _ _)
  refine wpAny_bind ?_
  simp only [newExc, newTuple]
  refine wpAny_bind (wpAny_newObj_type ?_ (by size_fits))
  refine wpAny_bind (m := firstArgMember _ _) (wpAny_of_eq (a := Value.none) (by first | rfl | (simp only [firstArgMember]; rfl)) ?_)
  refine wpAny_newObj_type ?_ (by size_fits)
  simp only [raiseNew]
  refine wpAny_bind (wpAny_handled ?_)
  first
  | rw [show A.in1.handled = none from hh]
  | rw [hh]
  refine wpAny_bind (wpAny_pure (wpAny_throw (hE _ _ (((Heap.ExtBut.refl _ _).push _).push _) ⟨_, Heap.get?_push_size _ rfl, rfl⟩)))
end
theorem drawsRev {prog : Program} {w : World} {A : Around} (hh : A.handled = none) (it l : Addr) (hne : l ≠ it) (items : Array Value) :
    Draws prog w A it [it, l] items.size (fun i v => items[items.size - 1 - i]? = some v) (fun i h => i ≤ items.size ∧ h.IsRevIter it l ((items.size : Int) - 1 - (i : Int)) ∧ h.IsList l items) where
  live := fun _ _ st => let ⟨o, ho, _⟩ := st.2.1; ⟨o, ho⟩
  frame := fun _ _ _ st hk => ⟨st.1, st.2.1.at fun o e => hk it (by simp) o e, st.2.2.at fun o e => hk l (by simp) o e⟩
  item := fun i s Q E hi st hQ => by
    have hit := st.2.1
    rw [show (items.size : Int) - 1 - (i : Int) = ((items.size - 1 - i : Nat) : Int) by omega] at hit
    have hx : items[items.size - 1 - i]? = some (items[items.size - 1 - i]'(by omega)) := Array.getElem?_eq_getElem (by omega)
    refine nextOf_rev hit st.2.2 hx fun h' hit' hs' => hQ _ h' s.toks hx ⟨hi, ?_, st.2.2.at fun o eo => (hs'.2 l hne).trans eo⟩ hs'
    rw [show (items.size : Int) - 1 - ((i + 1 : Nat) : Int) = ((items.size - 1 - i : Nat) : Int) - 1 by omega]
    exact hit'
  done := fun s Q E st hE => by
    have hit := st.2.1
    rw [show (items.size : Int) - 1 - (items.size : Int) = -1 by omega] at hit
    exact nextOf_rev0 hh hit hE
/-- the list at a (n items at the start), from its end, each item in a new pair -/
def Itev (K : PySem.W.Frag) (a : Addr) (n : Nat) : It :=
  ⟨fun i H => i < n ∧ ∃ (xs : List V) (x : V), SqL K H a xs ∧ xs.length = n ∧ xs[n - 1 - i]? = some x, fun i H v H' => ∃ T x, v = .ref T ∧ H T = none ∧ H' = upd H T (.tup [.int (i : Nat), x]) ∧ ∀ xs, SqL K H a xs → xs[n - 1 - i]? = some x, fun i H => i = n ∧ ∃ xs : List V, SqL K H a xs ∧ xs.length = n⟩
theorem turn_erev {P : Program} {w : World} {K : PySem.W.Frag} {elts : List Expr} {kk : Nat} {tpos : Pos} (a e it : Addr) (n : Nat) :
    Turn P w K (.Tuple elts kk tpos) (Itev K a n) [e, it] e (fun i h => (∃ old, IsEnum h e it ((i : Nat) : Int) old) ∧ (i ≤ n ∧ h.IsRevIter it a ((n : Int) - 1 - (i : Nat))) ∧ e ≠ it) where
  mem := by simp
  obj := fun i h st b hb => by
    obtain ⟨⟨old, he⟩, ⟨_, o, ho, hc, hd⟩, _⟩ := st
    rcases (show b = e ∨ b = it by simpa using hb) with z | z
    · rw [z]; exact ⟨_, he, fun v q => nomatch q⟩
    · rw [z]; exact ⟨o, ho, fun v q => by rw [hd] at q; cases q⟩
  keep := fun i h h' st k => let ⟨⟨old, he⟩, hi, hne⟩ := st; ⟨⟨old, k e (by simp) _ he⟩, ⟨hi.1, hi.2.at fun o q => k it (by simp) o q⟩, hne⟩
  item := by
    intro X hP hw hK hc i pins s σ H E I hf st hg
    subst hP hw hK
    obtain ⟨⟨old, he⟩, ⟨hin, hit⟩, hne⟩ := st
    obtain ⟨hlt, xs, x, hq, hxl, hx⟩ := hg
    obtain ⟨its, rv, p, hz⟩ := I.list hq
    obtain ⟨u, hu, ru⟩ := rv.get hx
    have hl := rv.length
    have sz : its.toArray.size = n := by simp only [List.size_toArray]; omega
    have hel : e < s.heap.objs.size := Heap.lt_size he
    have hil : it < s.heap.objs.size := by obtain ⟨_, q, _⟩ := hit; exact Heap.lt_size q
    have ha : a < s.heap.objs.size := by obtain ⟨_, q, _⟩ := p.isList; exact Heap.lt_size q
    have nHe : a ≠ e := fun z => by
      obtain ⟨o, q, c, _⟩ := p.isList
      rw [z, he] at q
      cases q
      injection c with c
      exact absurd c (by decide)
    have nHi : a ≠ it := fun z => by
      obtain ⟨o, q, c, _⟩ := p.isList
      obtain ⟨o2, q2, c2, _⟩ := hit
      rw [z, q2] at q
      cases q
      rw [c2] at c
      injection c with c
      exact absurd c (by decide)
    have D := drawsRev (prog := X.prog) (w := X.w) (A := X.A.in1) (I.ok.hd hc) it a nHi its.toArray
    rw [sz] at D
    refine wpAny_pyNext_enum_itemD D he ⟨hin, hit, p.isList⟩ hlt hne (by simp; exact ⟨hne, fun z => nHe z.symm⟩) fun y h' tk hy ho hs' hT hsz hk => ?_
    have hy' : y = u := by
      have h1 : its.toArray[n - 1 - i]? = some u := by simpa using hu
      rw [h1] at hy
      exact (Option.some.inj hy).symm
    subst hy'
    refine ⟨_, rfl, wpAny_letOwnedTupleGo_enum (s := { s with heap := h', toks := tk + 1 }) ho fun h'' he' sb => ?_⟩
    have hT2 : h''.get? s.heap.objs.size = some { cls := .type "tuple", data := .seq #[.int i tk, y] } := (sb.2 _ (Nat.ne_of_gt hel)).trans hT
    have new : ObjOk X.prog X.w (upd H s.heap.objs.size (.tup [.int (i : Nat), x])) h'' s.heap.objs.size (.tup [.int (i : Nat), x]) :=
      ⟨by show 2 ≤ sizeLine; decide, [.int i tk, y], .cons ⟨_, rfl⟩ (.cons ru .nil), ⟨_, hT2, rfl, _, rfl⟩⟩
    have I1 : Inv X pins σ (upd H s.heap.objs.size (.tup [.int (i : Nat), x])) { s with heap := h'', toks := tk + 1 } :=
      I.turnedNew (ch := [e, it]) (fun b ob hb q => (sb.2 b (fun z => hb (by simp [z]))).trans (hk b ob (fun z => hb (by simp [z])) (fun z => hb (by simp [z])) q)) hf (Nat.le_refl _) new
    refine ⟨.ref s.heap.objs.size, _, I1, rfl, ⟨_, x, rfl, I.hok.fresh (Nat.le_refl _), rfl, fun ys hy => by rw [I.list_inj hy hq]; exact hx⟩, ⟨⟨y, ?_⟩, ⟨hlt, hs'.2.1.at fun o q => (sb.2 it (Ne.symm hne)).trans q⟩, hne⟩, fun b hb => ?_⟩
    · rw [show ((i + 1 : Nat) : Int) = (i : Int) + 1 by omega]; exact he'
    · have hb' : b < s.heap.objs.size := by
        rcases (show b = e ∨ b = it by simpa using hb) with z | z
        · rw [z]; exact hel
        · rw [z]; exact hil
      rw [upd_ne (Nat.ne_of_lt hb')]
      exact (hf b hb).1
  done := by
    intro X hP hw hK hc i pins s σ H E I hf st hg
    subst hP hw hK
    obtain ⟨⟨old, he⟩, ⟨hin, hit⟩, hne⟩ := st
    obtain ⟨rfl, xs, hq, hxl⟩ := hg
    obtain ⟨its, rv, p, hz⟩ := I.list hq
    obtain ⟨f0, f1, f2, f3, f4, f5⟩ := hf it (by simp)
    have hl := rv.length
    have sz : its.toArray.size = i := by simp only [List.size_toArray]; omega
    have nHi : a ≠ it := fun z => by
      obtain ⟨o, q, c, _⟩ := p.isList
      obtain ⟨o2, q2, c2, _⟩ := hit
      rw [z, q2] at q
      cases q
      rw [c2] at c
      injection c with c
      exact absurd c (by decide)
    have D := drawsRev (prog := X.prog) (w := X.w) (A := X.A.in1) (I.ok.hd hc) it a nHi its.toArray
    rw [sz] at D
    exact wpAny_pyNext_enum_endD D he ⟨hin, hit, p.isList⟩ fun h' eb => ⟨rfl, I.turned (t' := s.toks) (fun b o hb q => eb b o hb q) f0 f1 f3 f4 f5⟩
  self := fun A i s Q E st h => let ⟨⟨_, he⟩, _⟩ := st; wpAny_pyIter_enum he h

theorem meets_enum_rev (it l : Addr) (i : Int) : Meets (Builtin.«enumerate.__new__» ⟨[.type "enumerate", .ref it], []⟩) (fun _ R s => s.heap.IsRevIter it l i ∧
      R (.ok (.ret (.ref s.heap.objs.size))) { s with heap := s.heap.push { cls := .type "enumerate", data := .fields #[.none, .bool false, .ref it, rawInt 0, .none, .none] } }) :=
  .of_wp fun prog w A R s h => by
    obtain ⟨hp, g, d, tk, os⟩ := s; obtain ⟨h1, h⟩ := h
    have hsub := sub_enumerate
    have q1 : ∀ {A' : Around} {E : Value → Shared → Prop} {Q : Value → Shared → Prop}, Q (.ref it) ⟨hp, g, d, tk, os⟩ → wpAny (model prog w) A' (pyIter (.ref it)) Q E ⟨hp, g, d, tk, os⟩ :=
      fun q => wpAny_pyIter_revIter (s := ⟨hp, g, d, tk, os⟩) h1 q
    wp_walk using q1
    refine wpAny_stack_any fun st => wpAny_pure ?_
    split
    · rename_i c _ _ _ _ _
      cases (c == Value.type "enumerate")
      · wp_walk using q1
        exact ⟨_, rfl, h⟩
      · wp_walk using q1
        exact ⟨_, rfl, h⟩
    · wp_walk using q1
      exact ⟨_, rfl, h⟩
theorem call_enum_rev {prog : Program} {w : World} {A : Around} {E : Value → Shared → Prop} {s : Shared} {it l : Addr} {i : Int} {Q : Value → Shared → Prop} (hit : s.heap.IsRevIter it l i)
    (h : ∀ h', IsEnum h' s.heap.objs.size it 0 .none → (∀ b o, s.heap.get? b = some o → h'.get? b = some o) → Q (.ref s.heap.objs.size) { s with heap := h' }) :
    wpAny (model prog w) A (call (.type "enumerate") [.ref it]) Q E s := by
  refine callType_new F.called_enumerate (by decide) (F.typeCall_enumerate_1 _) (F.newCall_enumerate_1 _) (fun obj => F.args_object_init_2 obj _) F.entry_enumerate_new (meets_enum_rev it l i) ⟨hit, ?_⟩
  have he : IsEnum (s.heap.push { cls := .type "enumerate", data := .fields #[.none, .bool false, .ref it, rawInt 0, .none, .none] }) s.heap.objs.size it 0 .none := Heap.get?_push_size _ rfl
  exact ⟨⟨_, he, rfl⟩, h _ he fun b o x => Heap.get?_push_of_some _ x⟩
def iEnumRev (K : PySem.W.Frag) (te : TE) : TI := fun σ H R => te σ H fun v H1 => ∃ (a : Addr) (xs : List V), v = .ref a ∧ SqL K H1 a xs ∧ R (Itev K a xs.length) H1
theorem pi_enumRev {X : Cx} {elts : List Expr} {kk : Nat} {tpos : Pos} {e : Expr} {te : TE} {p p2 pos pos2 : Pos} (hg : Gl X "enumerate") (hm : X.mg "enumerate" = none) (hg2 : Gl X "reversed") (hm2 : X.mg "reversed" = none) (he : PE X e te)
    (hs : starEach [e] X.env = (false, eval e X.env) :: starEach [] X.env := by rfl)
    (hs2 : starEach [.Call (.Name "reversed" p2) [e] [] pos2] X.env = (false, eval (.Call (.Name "reversed" p2) [e] [] pos2) X.env) :: starEach [] X.env := by rfl) :
    PI X (.Tuple elts kk tpos) (.Call (.Name "enumerate" p) [.Call (.Name "reversed" p2) [e] [] pos2] [] pos) (iEnumRev X.K te) := by
  refine ⟨fun pins s σ H R I h => ?_⟩
  refine Call_ (ld_blt I hg hm boot_enumerate (PyProof.Rows.callWith_type1 (args_cons (Call_ (ld_blt I hg2 hm2 PyProof.Rows.boot_reversed (PyProof.Rows.callWith_type1 (args_cons (thn (he.run pins s σ H _ I h) fun u s1 ⟨v, H1, I1, r1, q1⟩ => args_nil ?_) hs) hs rfl))) hs2) hs2 rfl))
  obtain ⟨a, xs, ev, hq, q⟩ := q1
  subst ev
  obtain rfl : u = Value.ref a := r1
  obtain ⟨its, rv, p', hz⟩ := I1.list hq
  have hl := rv.length
  refine call_reversed_list p'.isList (args_nil ?_)
  have I2 : Inv X pins σ H1 { s1 with heap := s1.heap.push (revObj a ((its.toArray.size : Int) - 1)) } := I1.kept (t' := s1.toks) fun b o e => Heap.get?_push_of_some _ e
  have sz : (s1.heap.push (revObj a ((its.toArray.size : Int) - 1))).objs.size = s1.heap.objs.size + 1 := Heap.size_push ..
  have hit : (s1.heap.push (revObj a ((its.toArray.size : Int) - 1))).IsRevIter s1.heap.objs.size a ((its.toArray.size : Int) - 1) := ⟨_, Heap.get?_push_size _ rfl, rfl, rfl⟩
  refine call_enum_rev (s := { s1 with heap := s1.heap.push (revObj a ((its.toArray.size : Int) - 1)) }) hit fun h' he' hk => wpAny_pyIter_enum he' ?_
  have I3 : Inv X pins σ H1 { s1 with heap := h' } := I2.kept (t' := s1.toks) hk
  have he2 : IsEnum h' (s1.heap.objs.size + 1) s1.heap.objs.size 0 .none := by rw [← sz]; exact he'
  refine ⟨s1.heap.objs.size + 1, [s1.heap.objs.size + 1, s1.heap.objs.size], _, _, H1, by rw [← sz], I3, turn_erev a (s1.heap.objs.size + 1) s1.heap.objs.size xs.length, ⟨⟨.none, he2⟩, ⟨Nat.zero_le _, ?_⟩, Nat.succ_ne_self _⟩, fun b hb => ?_, q⟩
  · have e1 : ((its.toArray.size : Nat) : Int) - 1 = (xs.length : Int) - 1 - ((0 : Nat) : Int) := by simp only [List.size_toArray]; omega
    rw [← e1]
    exact hit.at fun o z => hk _ _ z
  · have hle : s1.heap.objs.size ≤ b := by
      rcases (show b = s1.heap.objs.size + 1 ∨ b = s1.heap.objs.size by simpa using hb) with z | z
      · rw [z]; exact Nat.le_succ _
      · rw [z]; exact Nat.le_refl _
    exact I1.fpOk hle (I1.hok.fresh hle)
/-! ### the layer's side -/
def revI (k n i : Nat) (S : Sto) : Option LV := match S[k]? with
  | some (.lst ys) => if ys.length = n then ys[n - 1 - i]? else none
  | _ => none
def itRev (k n : Nat) : LIt := ⟨n, fun i S => revI k n i S, fun S => refF k n S⟩
def revO (v : LV) (S : Sto) : RI := match v with
  | .lst xs => .ok (itOf xs.reverse) S
  | .ref n => match S[n]? with
    | some (.lst xs) => .ok (itRev n xs.length) S
    | _ => .no
  | _ => .no
def enrO (v : LV) (S : Sto) : RI := match v with
  | .lst xs => .ok (enumI (itOf xs.reverse)) S
  | .ref n => match S[n]? with
    | some (.lst xs) => .ok (enumI (itRev n xs.length)) S
    | _ => .no
  | _ => .no
def lRev (f : LE) : LI := fun ds S => bindI (f ds S) revO
def lEnumRev (f : LE) : LI := fun ds S => bindI (f ds S) enrO
section
variable {K : PySem.W.Frag} {T : Env1} {m0 : List Addr} {H0 : Hp}
theorem rev_at {α : Type} {xs : List α} {i : Nat} (h : i < xs.length) : xs.reverse[i]? = xs[xs.length - 1 - i]? := by rw [List.getElem?_reverse h]
theorem it_rev {a : Addr} {k n : Nat} (hm : m0[k]? = some a) : ItL K T m0 H0 (Itv K a n) (itRev k n) where
  stop := fun m S H E r h => Nat.le_refl _
  go := fun i m S H v hi E r h => by
    simp only [itRev, revI] at h
    split at h
    · rename_i ys hk
      split at h
      · obtain ⟨vs, h1, h2⟩ := r.at (E.get hm) hk
        obtain ⟨x, hx, _⟩ := h2.get h
        exact ⟨hi, vs, x, SqL.of h1, hx⟩
      · cases h
    · cases h
  yld := fun i x H' m S H v hi E r h y => by
    simp only [itRev, revI] at h
    split at h
    · rename_i ys hk
      split at h
      · obtain ⟨vs, h1, h2⟩ := r.at (E.get hm) hk
        obtain ⟨z, hz, rz⟩ := h2.get h
        obtain ⟨rfl, y2⟩ := y
        have := y2 vs (SqL.of h1)
        rw [hz] at this
        cases this
        exact ⟨Ext.refl, r, rz⟩
      · cases h
    · cases h
theorem it_rlst {a : Addr} {xs : List LV} {vs : List V} (ht : ∀ m H, Ext m0 H0 m H → SqL K H a vs) (hs : RVs K m0 H0 xs vs) : ItL K T m0 H0 (Itv K a vs.length) (itOf xs.reverse) where
  stop := fun m S H E r h => by
    show vs.length ≤ xs.reverse.length
    rw [List.length_reverse, hs.len]
    exact Nat.le_refl _
  go := fun i m S H v hi E r h => by
    have hi' : i < xs.length := by
      have : i < xs.reverse.length := hi
      rwa [List.length_reverse] at this
    have h' : xs.reverse[i]? = some v := h
    rw [rev_at hi'] at h'
    obtain ⟨x, hx, _⟩ := hs.get h'
    rw [hs.len] at hx
    exact ⟨by rw [← hs.len]; exact hi', vs, x, ht m H E, hx⟩
  yld := fun i x H' m S H v hi E r h y => by
    have hi' : i < xs.length := by
      have : i < xs.reverse.length := hi
      rwa [List.length_reverse] at this
    have h' : xs.reverse[i]? = some v := h
    rw [rev_at hi'] at h'
    obtain ⟨z, hz, rz⟩ := hs.get h'
    rw [hs.len] at hz
    obtain ⟨rfl, y2⟩ := y
    have := y2 vs (ht m _ E)
    rw [hz] at this
    cases this
    exact ⟨Ext.refl, r, rz.mono E⟩
theorem it_erev {a : Addr} {n : Nat} {l : LIt} (hn : l.n = n) (hl : ∀ m S H, Ext m0 H0 m H → RelS K T m S H → l.fine S = true → ∃ xs : List V, SqL K H a xs ∧ xs.length = n) (it : ItL K T m0 H0 (Itv K a n) l)
    (hg : ∀ i m S H v, i < n → Ext m0 H0 m H → RelS K T m S H → l.item i S = some v → ∃ (xs : List V) (x : V), SqL K H a xs ∧ xs.length = n ∧ xs[n - 1 - i]? = some x) : ItL K T m0 H0 (Itev K a n) (enumI l) where
  stop := fun m S H E r h => ⟨hn, hl m S H E r h⟩
  go := fun i m S H v hi E r h => by
    have h' : (l.item i S).map (fun v => LV.tup [.int (i : Nat), v]) = some v := h
    have hi' : i < n := by rw [← hn]; exact hi
    cases q : l.item i S with
    | none => rw [q] at h'; cases h'
    | some u => exact ⟨hi', hg i m S H u hi' E r q⟩
  yld := fun i x H' m S H v hi E r h y => by
    have h' : (l.item i S).map (fun v => LV.tup [.int (i : Nat), v]) = some v := h
    cases q : l.item i S with
    | none => rw [q] at h'; cases h'
    | some u =>
      rw [q] at h'
      cases h'
      obtain ⟨p, x0, rfl, hp, rfl, hx⟩ := y
      obtain ⟨_, _, ru⟩ := it.yld i x0 H m S H u hi E r q ⟨rfl, hx⟩
      have E1 : Ext m H m (upd H p (.tup [.int (i : Nat), x0])) := Ext.side hp
      refine ⟨E1, r.side hp, ?_⟩
      unfold RV
      exact ⟨p, _, rfl, upd_same, RVs.cons rfl (RVs.cons (ru.mono E1) RVs.nil)⟩
end

theorem itRev_at {K : PySem.W.Frag} {T : Env1} {m0 : List Addr} {H0 : Hp} {a : Addr} {k n : Nat} (hm : m0[k]? = some a) {m : List Addr} {S : Sto} {H : Hp} (E : Ext m0 H0 m H) (r : RelS K T m S H) (h : refF k n S = true) : ∃ xs : List V, SqL K H a xs ∧ xs.length = n := by
  unfold refF at h
  split at h
  · rename_i ys hk
    obtain ⟨vs, h1, h2⟩ := r.at (E.get hm) hk
    exact ⟨vs, SqL.of h1, by rw [← h2.len]; exact of_decide_eq_true h⟩
  · cases h
theorem itRev_go {K : PySem.W.Frag} {T : Env1} {m0 : List Addr} {H0 : Hp} {a : Addr} {k n : Nat} (hm : m0[k]? = some a) {i : Nat} {v : LV} {m : List Addr} {S : Sto} {H : Hp} (E : Ext m0 H0 m H) (r : RelS K T m S H) (h : revI k n i S = some v) : ∃ (xs : List V) (x : V), SqL K H a xs ∧ xs.length = n ∧ xs[n - 1 - i]? = some x := by
  unfold revI at h
  split at h
  · rename_i ys hk
    split at h
    · rename_i hl
      obtain ⟨vs, h1, h2⟩ := r.at (E.get hm) hk
      obtain ⟨x, hx, _⟩ := h2.get h
      exact ⟨vs, x, SqL.of h1, by rw [← h2.len]; exact hl, hx⟩
    · cases h
  · cases h
section
variable {X : Cx} {T : Env1} {ξ : Xi} {W : WX} {e tg : Expr} {pos p pos2 p2 tpos : Pos} {fe : LE}
theorem il_rev (hg : Gl X "reversed") (hm : X.mg "reversed" = none) (he : PE X e (tL X.K T ξ W fe)) (hs : starEach [e] X.env = (false, eval e X.env) :: starEach [] X.env := by rfl) :
    PI X tg (.Call (.Name "reversed" p) [e] [] pos) (tI X.K T ξ W (lRev fe)) :=
  pi_imp (RT.pi_revA hg hm he hs) fun σ H R ⟨m, S, ds, r, rs, h⟩ => tL.bindI (k := revO) r rs h fun v S1 m1 H1 x e2 E r1 rv h1 => by
    unfold revO at h1
    split at h1
    · obtain ⟨a, vs, rfl, na, ha, hs⟩ := rv.lstE
      exact ⟨a, vs, rfl, .inl ⟨SqL.of ha, h1 m1 H1 _ Ext.refl r1 (it_rlst (fun m2 H2 E2 => SqL.of (E2.fr a _ na ha)) hs)⟩⟩
    · split at h1
      · rename_i xs hn
        obtain ⟨a, vs, rfl, hm, ha, hs⟩ := rv.lst r1 hn
        refine ⟨a, vs, rfl, .inl ⟨SqL.of ha, h1 m1 H1 _ Ext.refl r1 ?_⟩⟩
        rw [hs.len]
        exact it_rev hm
      · exact h1.elim
    · exact h1.elim
theorem il_enumRev {elts : List Expr} {kk : Nat} (hg : Gl X "enumerate") (hm : X.mg "enumerate" = none) (hg2 : Gl X "reversed") (hm2 : X.mg "reversed" = none) (he : PE X e (tL X.K T ξ W fe))
    (hs : starEach [e] X.env = (false, eval e X.env) :: starEach [] X.env := by rfl)
    (hs2 : starEach [.Call (.Name "reversed" p2) [e] [] pos2] X.env = (false, eval (.Call (.Name "reversed" p2) [e] [] pos2) X.env) :: starEach [] X.env := by rfl) :
    PI X (.Tuple elts kk tpos) (.Call (.Name "enumerate" p) [.Call (.Name "reversed" p2) [e] [] pos2] [] pos) (tI X.K T ξ W (lEnumRev fe)) :=
  pi_imp (pi_enumRev hg hm hg2 hm2 he hs hs2) fun σ H R ⟨m, S, ds, r, rs, h⟩ => tL.bindI (k := enrO) r rs h fun v S1 m1 H1 x e2 E r1 rv h1 => by
    unfold enrO at h1
    split at h1
    · rename_i xs
      obtain ⟨a, vs, rfl, na, ha, hs⟩ := rv.lstE
      have sq : ∀ m2 H2, Ext m1 H1 m2 H2 → SqL X.K H2 a vs := fun m2 H2 E2 => SqL.of (E2.fr a _ na ha)
      refine ⟨a, vs, rfl, SqL.of ha, h1 m1 H1 _ Ext.refl r1 (it_erev (by show xs.reverse.length = _; rw [List.length_reverse, hs.len]) (fun m2 S2 H2 E2 _ _ => ⟨vs, sq m2 H2 E2, rfl⟩) (it_rlst sq hs) fun i m2 S2 H2 v hi E2 _ q => ?_)⟩
      have hi' : i < xs.length := by rw [hs.len]; exact hi
      have q : xs.reverse[i]? = some v := q
      rw [rev_at hi'] at q
      obtain ⟨z, hz, _⟩ := hs.get q
      rw [hs.len] at hz
      exact ⟨vs, z, sq m2 H2 E2, rfl, hz⟩
    · split at h1
      · rename_i xs hn
        obtain ⟨a, vs, rfl, hm, ha, hs⟩ := rv.lst r1 hn
        refine ⟨a, vs, rfl, SqL.of ha, h1 m1 H1 _ Ext.refl r1 ?_⟩
        rw [hs.len]
        exact it_erev rfl (fun m2 S2 H2 E2 r2 q => itRev_at hm E2 r2 q) (it_rev hm) fun i m2 S2 H2 v hi E2 r2 q => itRev_go hm E2 r2 q
      · exact h1.elim
    · exact h1.elim
end
/-! how to reckon -/
@[simp] theorem e_rev {fa : LE} {ds : Sl} {S : Sto} : lRev fa ds S = bindI (fa ds S) revO := (rfl)
@[simp] theorem e_enumRev {fa : LE} {ds : Sl} {S : Sto} : lEnumRev fa ds S = bindI (fa ds S) enrO := (rfl)
@[simp] theorem bindI_ok {k : LV → Sto → RI} {v : LV} {S : Sto} : bindI (.ok v S) k = k v S := (rfl)
theorem revI_get {S : Sto} {n i : Nat} {xs : List LV} {v : LV} (h : S[n]? = some (.lst xs)) (e : xs.reverse[i]? = some v) : revI n xs.length i S = some v := by
  have hi : i < xs.reverse.length := (List.getElem?_eq_some_iff.mp e).1
  rw [List.length_reverse] at hi
  rw [rev_at hi] at e
  unfold revI
  rw [h]
  simp [e]
theorem ItIs.rev {S : Sto} {n : Nat} {xs : List LV} (h : S[n]? = some (.lst xs)) : ItIs S (itRev n xs.length) xs.reverse := ⟨(List.length_reverse ..).symm, fun U => by
  have hn : (S ++ U)[n]? = some (.lst xs) := by rw [List.getElem?_append_left (List.getElem?_eq_some_iff.mp h).1]; exact h
  refine ⟨fun i v e => revI_get hn e, ?_⟩
  show refF n xs.length (S ++ U) = _
  unfold refF
  rw [hn]
  simp⟩
theorem ItIs.enum {S : Sto} {l : LIt} {xs : List LV} (h : ItIs S l xs) : ItIs S (enumI l) (xs.zipIdx.map fun p => .tup [.int (p.2 : Nat), p.1]) := ⟨by show l.n = _; rw [h.n, List.length_map, List.length_zipIdx], fun U => ⟨fun i v e => by
  rw [List.getElem?_map, List.getElem?_zipIdx, Option.map_map, Option.map_eq_some_iff] at e
  obtain ⟨w, hw, rfl⟩ := e
  show (l.item i (S ++ U)).map _ = _
  rw [h.app.item hw]
  simp, h.app.fine⟩⟩
theorem revO_r {S : Sto} {n : Nat} {xs : List LV} (h : S[n]? = some (.lst xs)) : revO (.ref n) S = .ok (itRev n xs.length) S := by
  show (match S[n]? with
    | some (.lst xs) => RI.ok (itRev n xs.length) S
    | _ => .no) = _
  rw [h]
theorem enrO_r {S : Sto} {n : Nat} {xs : List LV} (h : S[n]? = some (.lst xs)) : enrO (.ref n) S = .ok (enumI (itRev n xs.length)) S := by
  show (match S[n]? with
    | some (.lst xs) => RI.ok (enumI (itRev n xs.length)) S
    | _ => .no) = _
  rw [h]
/-! dicts walked -/
@[simp] theorem e_iterD {fa : LE} {ds : Sl} {S : Sto} : lIterD fa ds S = bindI (fa ds S) dictO := (rfl)
theorem dictO_k {S : Sto} {n : Nat} {kvs : List (Key × LV)} (h : S[n]? = some (.dck kvs)) : dictO (.ref n) S = .ok (itOf (kvs.map fun kv => keyV kv.1)) S := by
  unfold dictO
  simp only [h]
theorem lockO_k {S : Sto} {n : Nat} {kvs : List (Key × LV)} (h : S[n]? = some (.dct kvs)) : lockO S n = some (S.set n (.dck kvs)) := by
  unfold lockO
  rw [h]
theorem unlO_k {S : Sto} {n : Nat} {kvs : List (Key × LV)} (h : S[n]? = some (.dck kvs)) : unlO S n = some (S.set n (.dct kvs)) := by
  unfold unlO
  rw [h]
theorem lockS_e {fd : LE} {fb : LS} {ds ds' : Sl} {S S0 S' : Sto} {n : Nat} {kvs : List (Key × LV)} (hs : fd ds S = .ok (.ref n) S0) (hn : S[n]? = some (.dct kvs)) (hf : fb ds (S.set n (.dck kvs)) = .nx ds' S') (hn' : S'[n]? = some (.dck kvs)) :
    lLockS fd fb ds S = .nx ds' (S'.set n (.dct kvs)) := by
  unfold lLockS selE
  rw [hs]
  simp only
  rw [lockO_k hn]
  simp only
  rw [hf]
  unfold unlS
  simp only
  rw [unlO_k hn']
theorem lockE_e {fd fe : LE} {ds : Sl} {S S0 S' : Sto} {n : Nat} {v : LV} {kvs : List (Key × LV)} (hs : fd ds S = .ok (.ref n) S0) (hn : S[n]? = some (.dct kvs)) (hf : fe ds (S.set n (.dck kvs)) = .ok v S') (hn' : S'[n]? = some (.dck kvs)) :
    lLock fd fe ds S = .ok v (S'.set n (.dct kvs)) := by
  unfold lLock selE
  rw [hs]
  simp only
  rw [lockO_k hn]
  simp only
  rw [hf]
  unfold unlR
  simp only
  rw [unlO_k hn']
theorem ix_dck {S : Sto} {n : Nat} {kvs : List (Key × LV)} {v u : LV} {k : Key} (h : S[n]? = some (.dck kvs)) (hk : keyL v = some k) (hg : getK kvs k = some u) : ixL (.ref n) v S = .ok u S := by
  simp [ixL, ixO, h, getOv, dKs, hk, hg]
end LL


set_option Elab.async false
set_option linter.all false
set_option maxRecDepth 100000
set_option maxHeartbeats 2000000
/-! The logical layer: list.count, list.index; d.pop, d.setdefault; max with a default; extend, insert, reverse; more of texts. -/
namespace LL
open PySem PySem.Spec PyProof.Rows L2
/-! ### how often, where: lists of flat values -/
def rCntF (K : PySem.W.Frag) : V → List V → Hp → VK → Prop := fun x xs H Q => ∃ (a : Addr) (ys : List V) (y : V), x = .ref a ∧ xs = [y] ∧ SqL K H a ys ∧ flatV y = true ∧ ys.all flatV = true ∧ Q (.int (ys.countP fun z => eqV z y : Nat)) H
theorem count_eqU {x : V} : ∀ {xs : List V} {us : List Value}, Vals xs us → xs.all flatV = true → us.countP (eqU x) = xs.countP fun y => eqV y x
  | _, _, .nil, _ => rfl
  | y :: xs, u :: us, .cons r t, f => by
    rw [List.all_cons, Bool.and_eq_true] at f
    rw [List.countP_cons, List.countP_cons, count_eqU t f.2, eqU_of r f.1]
theorem mt_countF {X : Cx} : MtR X "list.count" (rCntF X.K) := by
  intro pins s σ H x xs v us Q I rx rxs h
  obtain ⟨a, ys, y, rfl, rfl, hs, fy, fys, q⟩ := h
  cases rx
  obtain ⟨u, rfl, ru⟩ := rxs.one
  obtain ⟨its, rv, ⟨⟨cls, dd, data, sl⟩, n, ho, hc, hdn, hd⟩, hlen⟩ := I.list hs
  simp only at hc hd
  subst hc hd
  refine call_meets PySem.F.slot_list_count ⟨_, ho, rfl⟩ PySem.F.entry_list_count (PySem.F.args_list_count_2 _ _)
    (SeqAt.list_countAt a its.toArray n dd sl u (eqU y)) ⟨ho, fun u' hu' => mem_eqAt ru fy rv fys u' (by simpa using hu'), ?_⟩
  have ec : its.toArray.toList.countP (eqU y) = ys.countP fun z => eqV z y := count_eqU rv fys
  refine ⟨.int (ys.countP fun z => eqV z y : Nat), H, I.tok _, ⟨s.toks, ?_⟩, q⟩
  rw [ec]
def cntF (w : LV) (xs : List LV) : Nat := (xs.map fv).countP fun z => eqV z (fv w)
def lcountL : OpM := fun v vs S => match vs with
  | [w] => match lsO v S with
    | some xs => if (flatL w && xs.all flatL) = true then .ok (.int (cntF w xs)) S else .no
    | none => .no
  | _ => .no
def idxL (w : LV) (xs : List LV) : Option Nat := (xs.map fv).findIdx? fun z => eqV z (fv w)
def lindexL : OpM := fun v vs S => match vs with
  | [w] => match lsO v S with
    | some xs => if (flatL w && xs.all flatL) = true then (match idxL w xs with
      | some j => .ok (.int (j : Nat)) S
      | none => .no) else .no
    | none => .no
  | _ => .no
section
variable {K : PySem.W.Frag} {T : Env1}
theorem ml_lcount : MtL K T (rCntF K) lcountL := fun m S H v vs x xs Q W r rv rvs h => by
  unfold lcountL at h
  split at h
  · obtain ⟨y, rfl, ry⟩ := rvs.one
    split at h
    · rename_i ys hn
      split at h
      · rename_i hf
        rw [Bool.and_eq_true] at hf
        obtain ⟨a, zs, rfl, ha, hs⟩ := lsO_ok r rv hn
        obtain ⟨e1, f1⟩ := fv_ok hf.1 ry
        obtain ⟨e2, f2⟩ := fvs_ok hf.2 hs
        refine ⟨a, zs, y, rfl, rfl, SqL.of ha, f1, f2, ?_⟩
        rw [e1, e2]
        exact h.here r rfl
      · exact h.elim
    · exact h.elim
  · exact h.elim
theorem ml_lindex : MtL K T (rIndex K) lindexL := fun m S H v vs x xs Q W r rv rvs h => by
  unfold lindexL at h
  split at h
  · obtain ⟨y, rfl, ry⟩ := rvs.one
    split at h
    · rename_i ys hn
      split at h
      · rename_i hf
        rw [Bool.and_eq_true] at hf
        split at h
        · rename_i j hj
          obtain ⟨a, zs, rfl, ha, hs⟩ := lsO_ok r rv hn
          obtain ⟨e1, f1⟩ := fv_ok hf.1 ry
          obtain ⟨e2, f2⟩ := fvs_ok hf.2 hs
          unfold idxL at hj
          obtain ⟨hl, hp, hno⟩ := List.findIdx?_eq_some_iff_getElem.mp hj
          refine ⟨a, zs, y, j, ((ys.map fv)[j]'hl), rfl, rfl, SqL.of ha, f1, f2, by rw [e2]; exact List.getElem?_eq_getElem hl, by rw [e1]; exact hp, fun k z' hk hz => ?_, h.here r rfl⟩
          rw [e2] at hz
          obtain ⟨hk2, ez⟩ := List.getElem?_eq_some_iff.mp hz
          have := hno k hk
          rw [e1, ← ez]
          simpa using this
        · exact h.elim
      · exact h.elim
    · exact h.elim
  · exact h.elim
end
/-! ### d.pop(k), k there -/
def dropL {κ : Type} [DecidableEq κ] (kvs : List (κ × LV)) (k : κ) : List (κ × LV) := kvs.filter fun kv => decide (kv.1 ≠ k)
theorem drop_rel {κ : Type} [DecidableEq κ] {K : PySem.W.Frag} {m : List Addr} {H : Hp} (k : κ) : ∀ {kvs : List (κ × LV)} {ws : List (κ × V)}, ws.map (·.1) = kvs.map (·.1) → RVs K m H (kvs.map (·.2)) (ws.map (·.2)) →
    (dropK ws k).map (·.1) = (dropL kvs k).map (·.1) ∧ RVs K m H ((dropL kvs k).map (·.2)) ((dropK ws k).map (·.2))
  | [], ws, e, h => by
    have : ws = [] := by simpa using e
    subst this
    exact ⟨rfl, RVs.nil⟩
  | p :: kvs, [], e, h => by simp at e
  | p :: kvs, q :: ws, e, h => by
    simp only [List.map_cons, List.cons.injEq] at e h
    unfold RVs at h
    obtain ⟨y, r, e2, h1, h2⟩ := h
    simp only [List.cons.injEq] at e2
    obtain ⟨rfl, rfl⟩ := e2
    have i := drop_rel k e.2 h2
    unfold dropL dropK at i ⊢
    by_cases c : p.1 = k
    · have c2 : q.1 = k := e.1.trans c
      have hp : decide (p.1 ≠ k) = false := decide_eq_false fun z => z c
      have hq : decide (q.1 ≠ k) = false := decide_eq_false fun z => z c2
      simp only [List.filter_cons, hp, hq, Bool.false_eq_true, if_false]
      exact i
    · have c2 : ¬ q.1 = k := fun z => c (e.1.symm.trans z)
      have hp : decide (p.1 ≠ k) = true := decide_eq_true c
      have hq : decide (q.1 ≠ k) = true := decide_eq_true c2
      simp only [List.filter_cons, hp, hq, if_true]
      refine ⟨?_, RVs.cons h1 i.2⟩
      rw [List.map_cons, List.map_cons, e.1, i.1]
def popK (v k : LV) (S : Sto) : R := match v with
  | .ref n => match S[n]? with
    | some (.dct kvs) => match keyL k with
      | some q => match getK kvs q with
        | some u => .ok u (S.set n (.dct (dropL kvs q)))
        | none => .no
      | none => .no
    | _ => .no
  | _ => .no
def lPop1 (fo fk : LE) : LE := fun ds S => (fo ds S).bind fun v S1 => if isDc v S1 = true then (fk ds S1).bind fun u S2 => popK v u S2 else .no
section
variable {X : Cx} {T : Env1} {ξ : Xi} {W : WX} {e f o : Expr} {pos p apos cpos : Pos} {fo fk fx : LE} {k : Nat}
theorem pl_pop1 (ho : PE X o (tL X.K T ξ W fo)) (he : PE X e (tL X.K T ξ W fk)) (m1 : M1 X o "pop" apos e cpos := by exact ⟨rfl, rfl, rfl, rfl⟩) : PE X (.Call (.Attribute o "pop" apos) [e] [] cpos) (tL X.K T ξ W (lPop1 fo fk)) :=
  pe_imp (pe_dpop1 ho he m1) fun σ H Q ⟨m, S, ds, r, rs, h⟩ => tL.bind r rs h fun v S1 m1 H1 x E r1 rs1 rv h1 => by
    split at h1
    · rename_i hd
      obtain ⟨a, n, rfl, rfl, d⟩ := isDc_ok r1 hd rv
      refine ⟨a, rfl, d, tL.bind r1 rs1 h1 fun u S2 m2 H2 y E2 r2 rs2 ru h2 => ?_⟩
      unfold popK at h2
      simp only at h2
      split at h2
      · rename_i kvs hn
        split at h2
        · rename_i q hq
          split at h2
          · rename_i w hw
            have rv2 := rv.mono E2
            unfold RV at rv2
            obtain ⟨a', ea, hm⟩ := rv2
            cases ea
            obtain ⟨ws, h3, h4, h5⟩ := r2.ob n a _ hm hn
            have ey := keyL_ok hq ru
            rcases getK_rel q h4 h5 with ⟨e1, _⟩ | ⟨v', z, e1, e2, rz⟩
            · rw [hw] at e1; cases e1
            · rw [hw] at e1
              cases e1
              refine ⟨ws, q, z, h3, ey, e2, ?_⟩
              have E3 : Ext m2 H2 m2 (upd H2 a (.dK (dropK ws q))) := Ext.write r2 (List.mem_of_getElem? hm) h3
              have p := drop_rel q h4 h5
              exact h2 m2 _ z E3 (r2.write hm h3 ⟨_, upd_same, p.1, p.2.mono E3⟩) (rz.mono E3)
          · exact h2.elim
        · exact h2.elim
      · exact h2.elim
    · exact h1.elim
end
/-! ### d.setdefault(k, x) -/
section
variable {X : Cx} {pins : List (Addr × Obj)} {σ : L2.St} {H : Hp} {s : Shared} {a b : Addr} {u r : Value} {d : V} {A : Around} {E : Value → Shared → Prop}
theorem d_setdT {kvs : List (List Key × V)} {k : List Key} {Q : Value → Shared → Prop} (hu : A.units + 1 < cLine) (I : Inv X pins σ H s) (e : H a = some (.dT kvs)) (eb : H b = some (.tup (k.map kV))) (rd : RelV d r) (hl : kvs.length < sizeLine)
    (h1 : ∀ v, valV kvs k = some v → ∀ (w' : Value) (s' : Shared), Inv X pins σ H s' → RelV v w' → Q w' s') (h2 : valV kvs k = none → ∀ (w' : Value) (s' : Shared), Inv X pins σ (upd H a (.dT (putK kvs k d))) s' → RelV d w' → Q w' s') :
    wpAny (model X.prog X.w) A (call (.builtin "dict.setdefault") [.ref a, .ref b, r]) Q E s := by
  obtain ⟨z, hd, xs, rel, dd⟩ := dt_of I.hok e
  have hz : xs.length ≤ sizeLine := by rw [← Paired.length rel]; exact z
  refine call_setdefault_heap (knd := tupleKind (mixKind X.prog X.w)) (k := k) (tupleKind_room_in1 hu) (key_of I.hok eb) hd dd (fun p hp => ?_) (fun hn h' dd' hs => ?_) hz
  · have q := rel.val k
    rw [hp] at q
    cases q0 : valV kvs k with
    | none => rw [q0] at q; exact (show False from q).elim
    | some v0 =>
      rw [q0] at q
      exact h1 v0 q0 _ _ (I.tok _) q
  · have q := rel.val k
    rw [hn] at q
    cases q0 : valV kvs k with
    | some v0 => rw [q0] at q; exact (show False from q).elim
    | none =>
      have hl2 : (putK kvs k d).length ≤ sizeLine := by have := length_putK kvs k d; omega
      obtain ⟨q1, es, ep, hq, h2', h3, h4, _, h5⟩ := dd'
      refine h2 q0 _ _ (d_write I (by rw [e]; exact True.intro) hs ⟨q1, hq⟩ ⟨hl2, hd, _, (rel.put k eb rd).keeps fun c ys ec => ?_, q1, es, ep, hq, h2', h3, h4, h5⟩) rd
      rw [upd_ne (ne_of ec e (fun z => nomatch z))]
      exact ec
end
def tDSetU (td ty tx : TE) : TE := fun σ H Q => td σ H fun x H1 => ∃ a, x = .ref a ∧ IsD H1 a ∧ ty σ H1 fun y H2 => tx σ H2 fun z H3 =>
  (∃ (kvs : List (Key × V)) (k : Key), H3 a = some (.dK kvs) ∧ y = kV k ∧ kvs.length < sizeLine ∧ (∀ v, valV kvs k = some v → Q v H3) ∧ (valV kvs k = none → Q z (upd H3 a (.dK (putK kvs k z))))) ∨
  (∃ (kvs : List (List Key × V)) (k : List Key) (b : Addr), H3 a = some (.dT kvs) ∧ y = .ref b ∧ H3 b = some (.tup (k.map kV)) ∧ kvs.length < sizeLine ∧ (∀ v, valV kvs k = some v → Q v H3) ∧ (valV kvs k = none → Q z (upd H3 a (.dT (putK kvs k z)))))
section
variable {X : Cx} {o e f : Expr} {td ty tx : TE} {apos cpos : Pos}
theorem pe_dsetU (hu : X.A.units + 1 < cLine) (ho : PE X o td) (he : PE X e ty) (hf : PE X f tx) (m : M2 X o "setdefault" apos e f cpos) : PE X (.Call (.Attribute o "setdefault" apos) [e, f] [] cpos) (tDSetU td ty tx) := by
  refine ⟨fun pins s σ H Q I h => ?_⟩
  refine wpAny_Call_method m.base m.few m.line PySem.F.plainAttrs_dict PySem.F.slot_dict_setdefault PySem.F.type_dict_setdefault (thn (ho.run pins s σ H _ I h) fun u s1 ⟨x, H1, I1, rx, a, ex, d, q1⟩ => ?_)
  subst ex
  obtain rfl : u = Value.ref a := rx
  obtain ⟨t1, t2, _⟩ := isD_at I1 d
  refine ⟨t1, t2, ?_⟩
  rw [m.trees]
  refine Calls.callWith_builtin rfl (Calls.evalArgs_plain (Calls.spliced_cons (thn (he.run pins s1 σ H1 _ I1 q1) fun iv s2 ⟨y, H2, I2, ry, q2⟩ =>
    Calls.spliced_cons (thn (hf.run pins s2 σ H2 _ I2 q2) fun fv s3 ⟨z, H3, I3, rz, q3⟩ => Calls.spliced_nil ?_))))
  rcases q3 with ⟨kvs, k, ea, ey, hl, q4, q5⟩ | ⟨kvs, k, b, ea, ey, eb, hl, q4, q5⟩
  · subst ey
    exact d_setd I3 ea ry rz hl (fun v hv w' s4 I4 rw' => ⟨v, _, I4, rw', q4 v hv⟩) fun hn w' s4 I4 rw' => ⟨z, _, I4, rw', q5 hn⟩
  · subst ey
    obtain rfl : iv = Value.ref b := ry
    exact d_setdT hu I3 ea eb rz hl (fun v hv w' s4 I4 rw' => ⟨v, _, I4, rw', q4 v hv⟩) fun hn w' s4 I4 rw' => ⟨z, _, I4, rw', q5 hn⟩
end
def setdK (v k z : LV) (S : Sto) : R := match v with
  | .ref n => match S[n]? with
    | some (.dct kvs) => match keyL k with
      | some q => if small (kvs.length + 1) = true then (match getK kvs q with
        | some u => .ok u S
        | none => .ok z (S.set n (.dct (putL kvs q z)))) else .no
      | none => .no
    | some (.dcT kvs) => match k with
      | .tup xs => match keysL xs with
        | some q => if small (kvs.length + 1) = true then (match getK kvs q with
          | some u => .ok u S
          | none => .ok z (S.set n (.dcT (putL kvs q z)))) else .no
        | none => .no
      | _ => .no
    | _ => .no
  | _ => .no
def lSetd (fo fk fx : LE) : LE := fun ds S => (fo ds S).bind fun v S1 => if isDc v S1 = true then (fk ds S1).bind fun u S2 => (fx ds S2).bind fun z S3 => setdK v u z S3 else .no
section
variable {X : Cx} {T : Env1} {ξ : Xi} {W : WX} {e f o : Expr} {pos p apos cpos : Pos} {fo fk fx : LE} {k : Nat}
theorem pl_setd (hr : Room k X.A) (ho : PE X o (tL X.K T ξ W fo)) (he : PE X e (tL X.K T ξ W fk)) (hf : PE X f (tL X.K T ξ W fx)) (m1 : M2 X o "setdefault" apos e f cpos := by exact ⟨rfl, rfl, rfl, rfl⟩) : PE X (.Call (.Attribute o "setdefault" apos) [e, f] [] cpos) (tL X.K T ξ W (lSetd fo fk fx)) :=
  pe_imp (pe_dsetU (hu_of hr) ho he hf m1) fun σ H Q ⟨m, S, ds, r, rs, h⟩ => tL.bind r rs h fun v S1 m1 H1 x E r1 rs1 rv h1 => by
    split at h1
    · rename_i hd
      obtain ⟨a, n, rfl, rfl, d⟩ := isDc_ok r1 hd rv
      refine ⟨a, rfl, d, tL.bind r1 rs1 h1 fun u S2 m2 H2 y E2 r2 rs2 ru h2 => tL.bind r2 rs2 h2 fun w S3 m3 H3 z E3 r3 rs3 rw h3 => ?_⟩
      have rv3 := (rv.mono E2).mono E3
      unfold RV at rv3
      obtain ⟨a', ea, hm⟩ := rv3
      cases ea
      unfold setdK at h3
      simp only at h3
      split at h3
      · rename_i kvs hn
        split at h3
        · rename_i q hq
          split at h3
          · rename_i hz
            obtain ⟨ws, h4, h5, h6⟩ := r3.ob n a _ hm hn
            have hl : ws.length = kvs.length := by have := congrArg List.length h5; simpa using this
            have hs := small_ok hz
            refine .inl ⟨ws, q, h4, keyL_ok hq (ru.mono E3), by omega, fun v' hv => ?_, fun hv => ?_⟩
            · rcases getK_rel q h5 h6 with ⟨_, e2⟩ | ⟨u', z', e1, e2, rz⟩
              · rw [hv] at e2; cases e2
              · rw [hv] at e2
                cases e2
                rw [e1] at h3
                exact h3.here r3 rz
            · rcases getK_rel q h5 h6 with ⟨e1, _⟩ | ⟨u', z', _, e2, _⟩
              · rw [e1] at h3
                have E4 : Ext m3 H3 m3 (upd H3 a (.dK (putK ws q z))) := Ext.write r3 (List.mem_of_getElem? hm) h4
                have p := put_rel q rw h5 h6
                exact h3 m3 _ z E4 (r3.write hm h4 ⟨_, upd_same, p.1, p.2.mono E4⟩) (rw.mono E4)
              · rw [hv] at e2; cases e2
          · exact h3.elim
        · exact h3.elim
      · rename_i kvs hn
        split at h3
        · rename_i xs
          split at h3
          · rename_i q hq
            split at h3
            · rename_i hz
              obtain ⟨ws, h4, h5, h6⟩ := r3.ob n a _ hm hn
              have hl : ws.length = kvs.length := by have := congrArg List.length h5; simpa using this
              have hs := small_ok hz
              obtain ⟨b, us, rfl, hb, hus⟩ := (ru.mono E3).tupE
              have eu := keysL_ok hq hus
              subst eu
              refine .inr ⟨ws, q, b, h4, rfl, hb, by omega, fun v' hv => ?_, fun hv => ?_⟩
              · rcases getK_rel q h5 h6 with ⟨_, e2⟩ | ⟨u', z', e1, e2, rz⟩
                · rw [hv] at e2; cases e2
                · rw [hv] at e2
                  cases e2
                  rw [e1] at h3
                  exact h3.here r3 rz
              · rcases getK_rel q h5 h6 with ⟨e1, _⟩ | ⟨u', z', _, e2, _⟩
                · rw [e1] at h3
                  have E4 : Ext m3 H3 m3 (upd H3 a (.dT (putK ws q z))) := Ext.write r3 (List.mem_of_getElem? hm) h4
                  have p := put_rel q rw h5 h6
                  exact h3 m3 _ z E4 (r3.write hm h4 ⟨_, upd_same, p.1, p.2.mono E4⟩) (rw.mono E4)
                · rw [hv] at e2; cases e2
            · exact h3.elim
          · exact h3.elim
        · exact h3.elim
      · exact h3.elim
    · exact h1.elim
end
/-! ### extend, reverse, insert -/
def extendL : OpM
  | .ref n, [w], S => match S[n]? with
    | some (.lst xs) => match lsO w S with
      | some ys => if small (xs.length + ys.length) = true then .ok .non (S.set n (.lst (xs ++ ys))) else .no
      | none => .no
    | _ => .no
  | _, _, _ => .no
def reverseL : OpM
  | .ref n, [], S => match S[n]? with
    | some (.lst xs) => .ok .non (S.set n (.lst xs.reverse))
    | _ => .no
  | _, _, _ => .no
def insertL : OpM
  | .ref n, [.int i, v], S => match S[n]? with
    | some (.lst xs) => if (small (xs.length + 1) && decide (0 ≤ i) && decide (i < 2 ^ 63)) = true then .ok .non (S.set n (.lst (xs.take i.toNat ++ [v] ++ xs.drop i.toNat))) else .no
    | _ => .no
  | _, _, _ => .no
theorem RVs.rev {K : PySem.W.Frag} {m : List Addr} {H : Hp} : ∀ {vs : List LV} {xs : List V}, RVs K m H vs xs → RVs K m H vs.reverse xs.reverse
  | [], xs, h => by rw [h.nilE]; exact RVs.nil
  | v :: vs, xs, h => by
    unfold RVs at h
    obtain ⟨y, r, rfl, h1, h2⟩ := h
    rw [List.reverse_cons, List.reverse_cons]
    exact RVs.append h2.rev (RVs.cons h1 RVs.nil)
section
variable {K : PySem.W.Frag} {T : Env1}
theorem ml_extend : MtL K T rExtend extendL := fun m S H v vs x xs Q W r rv rvs h => by
  unfold extendL at h
  split at h
  · rename_i n w
    obtain ⟨y, rfl, ry⟩ := rvs.one
    split at h
    · rename_i ys hn
      split at h
      · rename_i us hw
        split at h
        · rename_i hz
          obtain ⟨a, zs, rfl, hm, ha, hs⟩ := rv.lst r hn
          obtain ⟨b, qs, rfl, hb, hq⟩ := lsO_ok r ry hw
          refine ⟨a, b, zs, qs, rfl, rfl, ha, hb, ?_, ?_⟩
          · have := small_ok hz
            rw [← hs.len, ← hq.len]
            exact this
          · have E : Ext m H m (upd H a (.lst (zs ++ qs))) := Ext.write r (List.mem_of_getElem? hm) ha
            exact h m _ _ E (r.write hm ha ⟨_, upd_same, (hs.append hq).mono E⟩) rfl
        · exact h.elim
      · exact h.elim
    · exact h.elim
  · exact h.elim
theorem ml_reverse : MtL K T rReverse reverseL := fun m S H v vs x xs Q W r rv rvs h => by
  unfold reverseL at h
  split at h
  · rename_i n
    have := rvs.nilE
    subst this
    split at h
    · rename_i ys hn
      obtain ⟨a, zs, rfl, hm, ha, hs⟩ := rv.lst r hn
      refine ⟨a, zs, rfl, rfl, ha, ?_⟩
      have E : Ext m H m (upd H a (.lst zs.reverse)) := Ext.write r (List.mem_of_getElem? hm) ha
      exact h m _ _ E (r.write hm ha ⟨_, upd_same, hs.rev.mono E⟩) rfl
    · exact h.elim
  · exact h.elim
def rInsert : V → List V → Hp → VK → Prop := fun x vs H Q => ∃ (l : Addr) (xs : List V) (i : Int) (y : V), x = .ref l ∧ vs = [.int i, y] ∧ H l = some (.lst xs) ∧ xs.length < sizeLine ∧ 0 ≤ i ∧ i < 2 ^ 63 ∧ Q .non (upd H l (.lst (xs.take i.toNat ++ [y] ++ xs.drop i.toNat)))
theorem mt_insertR {X : Cx} : MtR X "list.insert" rInsert := mt_insert
theorem ml_insert : MtL K T rInsert insertL := fun m S H v vs x xs Q W r rv rvs h => by
  unfold insertL at h
  split at h
  · rename_i n i w
    obtain ⟨y, z, rfl, ry, rz⟩ := rvs.two
    split at h
    · rename_i ys hn
      split at h
      · rename_i hc
        simp only [Bool.and_eq_true, decide_eq_true_eq] at hc
        obtain ⟨⟨hz, h0⟩, h1⟩ := hc
        obtain ⟨a, zs, rfl, hm, ha, hs⟩ := rv.lst r hn
        refine ⟨a, zs, i, z, rfl, by rw [show y = .int i from ry], ha, ?_, h0, h1, ?_⟩
        · have := small_ok hz
          rw [← hs.len]
          omega
        · have E : Ext m H m (upd H a (.lst (zs.take i.toNat ++ [z] ++ zs.drop i.toNat))) := Ext.write r (List.mem_of_getElem? hm) ha
          exact h m _ _ E (r.write hm ha ⟨_, upd_same, (((hs.take i.toNat).append (RVs.cons rz RVs.nil)).append (hs.drop i.toNat)).mono E⟩) rfl
      · exact h.elim
    · exact h.elim
  · exact h.elim
end
/-! ### how to reckon -/
def pop1 (fk : LE) (ds : Sl) : R → R
  | .ok v S => if isDc v S = true then (fk ds S).bind fun u S2 => popK v u S2 else .no
  | .ex c fs S => .ex c fs S
  | .no => .no
def pop1b (v : LV) : R → R
  | .ok u S => popK v u S
  | .ex c fs S => .ex c fs S
  | .no => .no
def setd1 (fk fx : LE) (ds : Sl) : R → R
  | .ok v S => if isDc v S = true then (fk ds S).bind fun u S2 => (fx ds S2).bind fun z S3 => setdK v u z S3 else .no
  | .ex c fs S => .ex c fs S
  | .no => .no
def setd2 (v : LV) (fx : LE) (ds : Sl) : R → R
  | .ok u S => (fx ds S).bind fun z S3 => setdK v u z S3
  | .ex c fs S => .ex c fs S
  | .no => .no
def setd3 (v u : LV) : R → R
  | .ok z S => setdK v u z S
  | .ex c fs S => .ex c fs S
  | .no => .no
section
variable {fo fk fx : LE} {ds : Sl} {S : Sto} {v u z w : LV} {n : Nat} {kvs : List (Key × LV)} {tvs : List (List Key × LV)} {q : Key} {qs : List Key} {xs ys : List LV} {j : Nat}
@[simp] theorem e_pop1 : lPop1 fo fk ds S = pop1 fk ds (fo ds S) := by unfold lPop1; cases fo ds S <;> rfl
theorem pop1_ok (h : isDc v S = true) : pop1 fk ds (.ok v S) = pop1b v (fk ds S) := by
  show (if isDc v S = true then _ else _) = _
  rw [if_pos h]
  cases fk ds S <;> rfl
@[simp] theorem pop1b_ok : pop1b v (.ok u S) = popK v u S := (rfl)
theorem popK_ok (h : S[n]? = some (.dct kvs)) (hk : keyL u = some q) (hg : getK kvs q = some w) : popK (.ref n) u S = .ok w (S.set n (.dct (dropL kvs q))) := by simp only [popK, h, hk, hg]
@[simp] theorem e_setd : lSetd fo fk fx ds S = setd1 fk fx ds (fo ds S) := by unfold lSetd; cases fo ds S <;> rfl
theorem setd1_ok (h : isDc v S = true) : setd1 fk fx ds (.ok v S) = setd2 v fx ds (fk ds S) := by
  show (if isDc v S = true then _ else _) = _
  rw [if_pos h]
  cases fk ds S <;> rfl
@[simp] theorem setd2_ok : setd2 v fx ds (.ok u S) = setd3 v u (fx ds S) := by
  show (fx ds S).bind _ = _
  cases fx ds S <;> rfl
@[simp] theorem setd3_ok : setd3 v u (.ok z S) = setdK v u z S := (rfl)
theorem setdK_t (h : S[n]? = some (.dcT tvs)) (hk : keysL xs = some qs) (hl : tvs.length < 16777216) : setdK (.ref n) (.tup xs) z S = match getK tvs qs with | some w => .ok w S | none => .ok z (S.set n (.dcT (putL tvs qs z))) := by
  have hz : small (tvs.length + 1) = true := by unfold small; exact decide_eq_true (by omega)
  simp only [setdK, h, hk, hz, if_true]
theorem setdK_d (h : S[n]? = some (.dct kvs)) (hk : keyL u = some q) (hl : kvs.length < 16777216) : setdK (.ref n) u z S = match getK kvs q with | some w => .ok w S | none => .ok z (S.set n (.dct (putL kvs q z))) := by
  have hz : small (kvs.length + 1) = true := by unfold small; exact decide_eq_true (by omega)
  simp only [setdK, h, hk, hz, if_true]
theorem lcount_ok (h : lsO v S = some xs) (hf : (flatL w && xs.all flatL) = true) : lcountL v [w] S = .ok (.int (cntF w xs)) S := by simp only [lcountL, h, hf, if_true]
theorem lindex_ok (h : lsO v S = some xs) (hf : (flatL w && xs.all flatL) = true) (hj : idxL w xs = some j) : lindexL v [w] S = .ok (.int (j : Nat)) S := by simp only [lindexL, h, hf, if_true, hj]
theorem extend_ok (h : S[n]? = some (.lst xs)) (hw : lsO w S = some ys) (hl : xs.length + ys.length ≤ 16777216) : extendL (.ref n) [w] S = .ok .non (S.set n (.lst (xs ++ ys))) := by
  have hz : small (xs.length + ys.length) = true := by unfold small; exact decide_eq_true hl
  simp only [extendL, h, hw, hz, if_true]
theorem reverse_ok (h : S[n]? = some (.lst xs)) : reverseL (.ref n) [] S = .ok .non (S.set n (.lst xs.reverse)) := by simp only [reverseL, h]
theorem insert_ok {i : Int} (h : S[n]? = some (.lst xs)) (h0 : 0 ≤ i) (h1 : i < 2 ^ 63) (hl : xs.length < 16777216) : insertL (.ref n) [.int i, v] S = .ok .non (S.set n (.lst (xs.take i.toNat ++ [v] ++ xs.drop i.toNat))) := by
  have hz : (small (xs.length + 1) && decide (0 ≤ i) && decide (i < 2 ^ 63)) = true := by
    simp only [Bool.and_eq_true, decide_eq_true_eq]
    exact ⟨⟨by unfold small; exact decide_eq_true (by omega), h0⟩, h1⟩
  simp only [insertL, h, hz, if_true]
end
end LL


set_option Elab.async false
set_option linter.all false
set_option maxRecDepth 100000
set_option maxHeartbeats 2000000
/-! The logical layer: max(list, default=x). -/
namespace LL
open PySem PySem.Spec PyProof.Rows L2
theorem max_dflt (a v : Value) : argsOk "max" ⟨[a], [(Str.ofString "default", v)]⟩ := by unfold argsOk; kernel_rfl
section
variable {P0 : Program} {w0 : World} {B : Around} {E0 : Value → Shared → Prop} {s : Shared}
theorem maxD_walk {l : Addr} {us : Array Value} {d : Value} {Q : Value → Shared → Prop} {Pr : Nat → Value → Prop} (f : Nat → Nat → Bool) (hh : B.handled = none) (hl : s.heap.IsList l us) (hP : ∀ i v, us[i]? = some v → Pr i v) (hq : CmpKept P0 w0 B.in1 .Gt s.heap Pr f)
    (fin0 : us.size = 0 → ∀ h2 t2, Kept s.heap h2 → Q d { s with heap := h2, toks := t2 })
    (fin' : 0 < us.size → ∀ u h2 t2, us[argBest f (us.size - 1)]? = some u → Kept s.heap h2 → Q u { s with heap := h2, toks := t2 }) : wpAny (model P0 w0) B (call (.builtin "max") [.ref l] [(Str.ofString "default", d)]) Q E0 s := by
  have nm : (toString "max" ++ toString ".loop" : String) = "max.loop" := by decide
  refine kmk_tree F.kind_max F.plain_max F.entry_max (max_dflt _ _) ?_
  show wpAny _ B.in1 (Builtin.Builtins.bindParams "max" ["key", "default"] 0 ⟨[], [(Str.ofString "default", d)]⟩ >>= _) _ _ s
  refine wpAny_bind (wpAny_of_eq (show Builtin.Builtins.bindParams "max" ["key", "default"] 0 ⟨[], [(Str.ofString "default", d)]⟩ = pure [none, some d] from rfl) ?_)
  refine wpAny_bind (wpAny_pure ?_)
  have lt : l < s.heap.objs.size := by obtain ⟨_, e, _⟩ := hl; exact Heap.lt_size e
  refine wpAny_bind (wpAny_pyIter_list hl ?_)
  refine wpAny_bind (wpAny_newObj_type ?_)
  rw [nm]
  have gJ : s.heap.get? s.heap.objs.size = none := by
    cases e : s.heap.get? s.heap.objs.size with
    | none => rfl
    | some o => exact absurd (Heap.lt_size e) (Nat.lt_irrefl _)
  have gZ : s.heap.get? (s.heap.objs.size + 1) = none := by
    cases e : s.heap.get? (s.heap.objs.size + 1) with
    | none => rfl
    | some o => exact absurd (Heap.lt_size e) (Nat.not_lt.mpr (Nat.le_succ _))
  have sz : (s.heap.push { cls := .type "list_iterator", data := .fields #[.ref l, .int 0 0] }).objs.size = s.heap.objs.size + 1 := Heap.size_push _ _
  rw [sz]
  have k0 : Kept s.heap (s.heap.push { cls := .type "list_iterator", data := .fields #[.ref l, .int 0 0] }) := fun c o e => Heap.get?_push_of_some _ e
  have hZf : s.heap.objs.size + 1 ∉ [s.heap.objs.size, l] := fun z => by
    rcases List.mem_cons.mp z with z | z
    · exact Nat.succ_ne_self _ z
    · have e := List.mem_singleton.mp z
      rw [← e] at lt
      exact Nat.not_lt.mpr (Nat.le_succ _) lt
  have gz2 : ((s.heap.push { cls := .type "list_iterator", data := .fields #[.ref l, .int 0 0] }).push { cls := .type "list", dict := none, data := .seq #[] 0, slots := #[] }).get? (s.heap.objs.size + 1) = some { cls := .type "list", dict := none, data := .seq #[] 0, slots := #[] } := by
    rw [← sz]; exact Heap.get?_push_size _ rfl
  have Wk := Walks.list (prog := P0) (w := w0) (A := B.in1) hh s.heap.objs.size l (Nat.ne_of_lt lt) us
  by_cases hN : us.size = 0
  · refine wpAny_pure ⟨plainId_quiet F.plain_max_loop _, ?_⟩
    refine codeAny_builtin F.entry_max_loop ?_
    rw [Around.under_plainId F.plain_max_loop _]
    show wpAny _ B.in1 (seqItems? (.ref _) >>= _) _ _ _
    refine wpAny_bind (wpAny_seqItems gz2 rfl ?_)
    show wpAny _ B.in1 (tryCatch (pyNext (.ref _)) _ >>= _) _ _ _
    have st0 : ((s.heap.push { cls := .type "list_iterator", data := .fields #[.ref l, .int 0 0] }).push { cls := .type "list", dict := none, data := .seq #[] 0, slots := #[] }).IsListIter s.heap.objs.size l us.size ∧ ((s.heap.push { cls := .type "list_iterator", data := .fields #[.ref l, .int 0 0] }).push { cls := .type "list", dict := none, data := .seq #[] 0, slots := #[] }).IsList l us := by
      rw [hN]
      exact ⟨⟨_, Heap.get?_push_of_some _ (Heap.get?_push_size _ rfl), rfl, rfl⟩, (hl.push _).push _⟩
    refine wpAny_bind (wpAny_tryCatch (Wk.done _ _ _ st0 fun h2 t2 kk => ?_))
    refine wpAny_bind (wpAny_rule (wpAny_pure ?_))
    refine fin0 hN h2 t2 fun c o e => kk c o (fun z => ?_) (Heap.get?_push_of_some _ (k0 c o e))
    rw [List.mem_singleton.mp z, gJ] at e
    cases e
  · refine wpAny_pure ⟨plainId_quiet F.plain_max_loop _, maxK_first Wk f (g := s.heap) (cap := 0) (fun i j x y s1 Q1 Q2 kg hx hy q => hq i j x y s1 Q1 Q2 kg (hP i x hx) (hP j y hy) q) (fun c hc => ?_) (s.heap.objs.size + 1) hZf gZ (by omega) ?_ (fun c o e => Heap.get?_push_of_some _ (k0 c o e)) gz2 fun u h2 t2 pu kk => ?_⟩
    · rw [List.mem_singleton.mp hc]; exact gJ
    · exact ⟨⟨_, Heap.get?_push_of_some _ (Heap.get?_push_size _ rfl), rfl, rfl⟩, (hl.push _).push _⟩
    · refine fin' (by omega) u h2 t2 pu fun c o e => kk c o (fun z => ?_) (fun z => ?_) (Heap.get?_push_of_some _ (k0 c o e))
      · rw [List.mem_singleton.mp z, gJ] at e; cases e
      · rw [z, gZ] at e; cases e
end
def rBestD (K : PySem.W.Frag) : List V → List V → Hp → VK → Prop := fun vs zs H Q => ∃ (a : Addr) (bs : List (LV × V)) (d : V), vs = [V.ref a] ∧ zs = [d] ∧ SqL K H a (bs.map (·.2)) ∧ (∀ b ∈ bs, Dp K H b.2 (pd b.1)) ∧ srtOk (bs.map (·.1)) = true ∧
  (bs.length = 0 → Q d H) ∧ ∀ b, 0 < bs.length → bs[bestI gtDat (bs.map (·.1))]? = some b → Q b.2 H
theorem cr_maxD {X : Cx} (hu : X.A.units + 64 < cLine) (hc : X.calm = true) : CallRK X (.builtin "max") [Str.ofString "default"] (rBestD X.K) := by
  intro pins s σ H vs zs us ws Q I r rz h
  obtain ⟨a, bs, d, rfl, rfl, hs, hd, hk, q0, q⟩ := h
  obtain ⟨its, rv, hl, _⟩ := I.list hs
  rw [Vals.ref1 r]
  obtain ⟨w, rfl, rw'⟩ := rz.one
  have len : its.length = bs.length := by rw [← rv.length, List.length_map]
  refine maxD_walk _ (I.ok.hd hc) hl.isList (fun i v e => e) (best_cmp (q := gtDat) PySem.W.rcGt_alike hu I rv hd hk) (fun h0 h2 t2 kk => ⟨d, H, I.kept kk, rw', q0 (by rw [← len]; simpa using h0)⟩) fun h0 u h2 t2 pu kk => ?_
  obtain ⟨b, e1, e2⟩ := best_end (q := gtDat) rv (u := u) (by
    unfold bestI
    rw [List.length_map, ← len]
    simpa using pu)
  exact ⟨b.2, H, I.kept kk, e2, q b (by rw [← len]; simpa using h0) e1⟩
/-- max(xs, default=d) -/
noncomputable def maxDK (v d : LV) (S : Sto) : R := match lsO v S with
  | some xs => if srtOk xs = true then (if xs.length = 0 then .ok d S else .ok (xs.getD (bestI gtDat xs) .non) S) else .no
  | none => .no
noncomputable def lMaxD (fa fd : LE) : LE := fun ds S => (fa ds S).bind fun v S1 => (fd ds S1).bind fun d S2 => maxDK v d S2
section
variable {X : Cx} {T : Env1} {ξ : Xi} {W : WX} {e f : Expr} {p pos kpos : Pos} {fa fd : LE}
theorem pl_maxD (hu : X.A.units + 64 < cLine) (hc : X.calm = true) (hg : Gl X "max") (hm : X.mg "max" = none) (ha : PE X e (tL X.K T ξ W fa)) (hd : PE X f (tL X.K T ξ W fd)) (hs : starEach [e] X.env = (false, eval e X.env) :: starEach [] X.env := by rfl)
    (he : backTo pos (starEach [e] X.env) = (false, eval e X.env) :: backTo pos (starEach [] X.env) := by rfl) (hpl : (backTo pos (starEach [e] X.env)).any (·.1) = false := by rfl)
    (hall : (backToKw pos (keywordEach [⟨some (Str.ofString "default"), f, kpos⟩] X.env)).all (·.1.isSome) = true := by rfl) (hnone : (backToKw pos (keywordEach [⟨some (Str.ofString "default"), f, kpos⟩] X.env)).any (·.1.isNone) = false := by rfl) (hks : (backToKw pos (keywordEach [⟨some (Str.ofString "default"), f, kpos⟩] X.env)).filterMap (·.1) = [Str.ofString "default"] := by rfl) :
    PE X (.Call (.Name "max" p) [e] [⟨some (Str.ofString "default"), f, kpos⟩] pos) (tL X.K T ξ W (lMaxD fa fd)) :=
  pe_imp (pe_callBK (cr_maxD hu hc) hg hm (by decide +kernel) (pa_cons ha pa_nil hs) (pk_cons hd pk_nil) (by decide) (by decide) he hpl hall hnone hks) fun σ H Q ⟨m, S, ds, r, rs, h⟩ =>
    tL.bind r rs h fun v S1 m1 H1 x E r1 rs1 rv h1 => tL.bind r1 rs1 h1 fun d S2 m2 H2 z E2 r2 rs2 rz h2 => by
      unfold maxDK at h2
      split at h2
      · rename_i ys hn
        split at h2
        · rename_i hk
          obtain ⟨a, zs, rfl, ha, hs⟩ := lsO_ok r2 (rv.mono E2) hn
          have hl := hs.len
          have e1 : (ys.zip zs).map (·.1) = ys := List.map_fst_zip (by omega)
          have e2 : (ys.zip zs).map (·.2) = zs := List.map_snd_zip (by omega)
          have hr := zip_rel hs
          obtain ⟨k1, _⟩ := srt_split hk
          refine ⟨a, ys.zip zs, z, rfl, rfl, SqL.of (by rw [ha, e2]), fun b hb => ?_, by rw [e1]; exact hk, fun h0 => ?_, fun b hb hg => ?_⟩
          · have hm : b.1 ∈ ys := by
              have := List.mem_map_of_mem (f := Prod.fst) hb
              rwa [e1] at this
            exact dat_dp r2 60 b.1 (pd b.1) b.2 (dz_pd 60 b.1 (List.all_eq_true.mp k1 _ hm)) (hr b hb)
          · have : ys.length = 0 := by rw [List.length_zip] at h0; omega
            rw [if_pos this] at h2
            exact h2.here r2 rz
          · have : ¬ ys.length = 0 := by rw [List.length_zip] at hb; omega
            rw [if_neg this] at h2
            rw [e1] at hg
            have hbm := List.mem_of_getElem? hg
            have ey : ys[bestI gtDat ys]? = some b.1 := by
              have := congrArg (Option.map Prod.fst) hg
              rw [← List.getElem?_map, e1] at this
              exact this
            have : ys.getD (bestI gtDat ys) .non = b.1 := by rw [List.getD_eq_getElem?_getD, ey]; rfl
            rw [this] at h2
            exact h2.here r2 (hr b hbm)
        · exact h2.elim
      · exact h2.elim
end
noncomputable def maxd1 (fd : LE) (ds : Sl) : R → R
  | .ok v S => (fd ds S).bind fun d S2 => maxDK v d S2
  | .ex c fs S => .ex c fs S
  | .no => .no
noncomputable def maxd2 (v : LV) : R → R
  | .ok d S => maxDK v d S
  | .ex c fs S => .ex c fs S
  | .no => .no
section
variable {fa fd : LE} {ds : Sl} {S : Sto} {v d : LV}
@[simp] theorem e_maxD : lMaxD fa fd ds S = maxd1 fd ds (fa ds S) := by unfold lMaxD; cases fa ds S <;> rfl
@[simp] theorem maxd1_ok : maxd1 fd ds (.ok v S) = maxd2 v (fd ds S) := by
  show (fd ds S).bind _ = _
  cases fd ds S <;> rfl
@[simp] theorem maxd2_ok : maxd2 v (.ok d S) = maxDK v d S := (rfl)
end
/-! ### the best of whole numbers, of texts -/
theorem argBest_max {α : Type} (le : α → α → Prop) (tr : ∀ a b c, le a b → le b c → le a c) (rf : ∀ a, le a a) (v : Nat → α) (f : Nat → Nat → Bool) (h1 : ∀ i j, f i j = true → le (v j) (v i)) (h2 : ∀ i j, f i j = false → le (v i) (v j)) : ∀ k j, j ≤ k → le (v j) (v (argBest f k))
  | 0, j, hj => by
    have : j = 0 := by omega
    subst this
    exact rf _
  | k + 1, j, hj => by
    have ih := argBest_max le tr rf v f h1 h2 k
    unfold argBest
    cases c : f (k + 1) (argBest f k) with
    | true =>
      simp only [if_true]
      rcases Nat.lt_or_ge k j with q | q
      · have : j = k + 1 := by omega
        subst this
        exact rf _
      · exact tr _ _ _ (ih j q) (h1 _ _ c)
    | false =>
      simp only [Bool.false_eq_true, if_false]
      rcases Nat.lt_or_ge k j with q | q
      · have : j = k + 1 := by omega
        subst this
        exact h2 _ _ c
      · exact ih j q
theorem ints_srt {ns : List Int} (h : ns.length ≤ 16777216) : srtOk (ns.map .int) = true := by
  unfold srtOk
  have e1 : (ns.map LV.int).all (dz 60) = true := by simp [dz]
  have e2 : alk (ns.map .int) = true := by
    unfold alk
    simp [pd, PySem.W.alike]
  have e3 : (ns.map LV.int).all isNoT = true := by simp [isNoT]
  rw [e1, e2, e3]
  unfold small
  simpa using h
theorem best_int {ns : List Int} (h0 : ns ≠ []) : ∃ m ∈ ns, (∀ n ∈ ns, n ≤ m) ∧ (ns.map LV.int).getD (bestI gtDat (ns.map .int)) .non = .int m := by
  have hp : 0 < ns.length := by cases ns with | nil => exact absurd rfl h0 | cons _ _ => simp
  have hb : bestI gtDat (ns.map .int) < ns.length := by
    have := argBest_le (fun i j => gtDat (pd ((ns.map LV.int).getD i .non)) (pd ((ns.map LV.int).getD j .non))) ((ns.map LV.int).length - 1)
    unfold bestI
    rw [List.length_map] at this ⊢
    omega
  have at_ : ∀ i, i < ns.length → (ns.map LV.int).getD i .non = .int (ns.getD i 0) := fun i hi => by
    rw [List.getD_eq_getElem?_getD, List.getElem?_map, List.getElem?_eq_getElem hi, List.getD_eq_getElem?_getD, List.getElem?_eq_getElem hi]
    rfl
  have mx : ∀ k, k < ns.length → ∀ j, j ≤ k → ns.getD j 0 ≤ ns.getD (argBest (fun i j => gtDat (pd ((ns.map LV.int).getD i .non)) (pd ((ns.map LV.int).getD j .non))) k) 0 := fun k hk => by
    induction k with
    | zero =>
      intro j hj
      have : j = 0 := by omega
      subst this
      exact Int.le_refl _
    | succ k ih =>
      intro j hj
      have ih := ih (by omega)
      have hl := argBest_le (fun i j => gtDat (pd ((ns.map LV.int).getD i .non)) (pd ((ns.map LV.int).getD j .non))) k
      unfold argBest
      generalize argBest (fun i j => gtDat (pd ((ns.map LV.int).getD i .non)) (pd ((ns.map LV.int).getD j .non))) k = b at *
      have e : gtDat (pd ((ns.map LV.int).getD (k + 1) .non)) (pd ((ns.map LV.int).getD b .non)) = decide (ns.getD b 0 < ns.getD (k + 1) 0) := by
        rw [at_ _ hk, at_ _ (by omega)]
        exact PySem.W.dataLt_int _ _
      rw [e]
      by_cases c : ns.getD b 0 < ns.getD (k + 1) 0
      · rw [decide_eq_true c, if_pos rfl]
        rcases Nat.lt_or_ge k j with q | q
        · have : j = k + 1 := by omega
          subst this
          exact Int.le_refl _
        · have := ih j q
          omega
      · rw [decide_eq_false c, if_neg (by decide)]
        rcases Nat.lt_or_ge k j with q | q
        · have : j = k + 1 := by omega
          subst this
          omega
        · exact ih j q
  refine ⟨ns.getD (bestI gtDat (ns.map .int)) 0, ?_, fun n hn => ?_, at_ _ hb⟩
  · rw [List.getD_eq_getElem?_getD, List.getElem?_eq_getElem hb]
    exact List.getElem_mem hb
  · obtain ⟨j, hj⟩ := List.mem_iff_getElem?.mp hn
    have jl := (List.getElem?_eq_some_iff.mp hj).1
    have := mx (ns.length - 1) (by omega) j (by omega)
    rw [List.getD_eq_getElem?_getD, hj] at this
    unfold bestI
    rw [List.length_map]
    exact this
theorem maxD_ints {S : Sto} {v d : LV} {ns : List Int} (hv : lsO v S = some (ns.map .int)) (hl : ns.length ≤ 16777216) : (ns = [] ∧ maxDK v d S = .ok d S) ∨ ∃ m ∈ ns, (∀ n ∈ ns, n ≤ m) ∧ maxDK v d S = .ok (.int m) S := by
  by_cases h : ns = []
  · refine .inl ⟨h, ?_⟩
    subst h
    simp only [maxDK, hv, ints_srt hl, if_true]
    rfl
  · obtain ⟨m, hm, h1, h2⟩ := best_int h
    refine .inr ⟨m, hm, h1, ?_⟩
    have : ¬ (ns.map LV.int).length = 0 := by rw [List.length_map]; intro e; exact h (List.length_eq_zero_iff.mp e)
    simp only [maxDK, hv, ints_srt hl, if_true, if_neg this]
    rw [h2]
end LL


set_option Elab.async false
set_option linter.all false
set_option maxRecDepth 100000
set_option maxHeartbeats 2000000
/-! The logical layer: min, max of two texts; dicts with tuple keys locked; the least text. -/
namespace LL
open PySem PySem.Spec PyProof.Rows L2
section
variable {prog : Program} {w : World} {A : Around} {E : Value → Shared → Prop} {s : Shared}
theorem two_strs {a b : Str} {t u : Tok} {i : Nat} {v : Value} (h : (#[Value.str a t, .str b u] : Array Value)[i]? = some v) : (i = 0 ∧ v = .str a t) ∨ (i = 1 ∧ v = .str b u) := by
  rcases i with _ | _ | i
  · simp at h; exact .inl ⟨rfl, h.symm⟩
  · simp at h; exact .inr ⟨rfl, h.symm⟩
  · simp at h
theorem max_two_strs {a b : Str} {t u : Tok} {Q : Value → Shared → Prop} (hh : A.handled = none)
    (h : ∀ h' tk, (∀ c o, s.heap.get? c = some o → h'.get? c = some o) → Q (if sLt a b = true then .str b u else .str a t) { s with heap := h', toks := tk }) :
    wpAny (model prog w) A (call (.builtin "max") [.str a t, .str b u]) Q E s := by
  have hT : (s.heap.push { cls := .type "tuple", data := .seq #[.str a t, .str b u] }).IsTuple s.heap.objs.size #[.str a t, .str b u] := ⟨_, Heap.get?_push_size _ rfl, rfl, 0, rfl⟩
  refine call_max_two (wpAny_pyIter_tuple hT ?_)
  have hsz : (s.heap.push { cls := .type "tuple", data := .seq #[.str a t, .str b u] }).objs.size = s.heap.objs.size + 1 := Heap.size_push ..
  have cm : CmpOf prog w A.in1 .Gt (fun i v => (#[Value.str a t, .str b u] : Array Value)[i]? = some v) (fun i j => sLt (if j = 0 then a else b) (if i = 0 then a else b)) := fun i j vi vj s2 Q2 E2 hi hj hq => by
    rcases two_strs hi with ⟨rfl, rfl⟩ | ⟨rfl, rfl⟩ <;> rcases two_strs hj with ⟨rfl, rfl⟩ | ⟨rfl, rfl⟩ <;> exact (PySem.P.gt_str hq : wpAny (model prog w) A.in1 (compareOp .Gt _ _) Q2 E2 s2)
  refine ⟨_, [_, s.heap.objs.size], [_], _, _, _, _, rfl, Walks.tuple (A := A.in1) hh _ s.heap.objs.size (by rw [hsz]; exact Nat.ne_of_lt (Nat.lt_succ_self _)) #[.str a t, .str b u],
    ⟨⟨_, Heap.get?_push_size _ rfl, rfl, rfl⟩, hT.push _⟩, fun c hc => ?_, by simp, cm, fun v h' tk hP hk => ?_⟩
  · show c < ((s.heap.push _).push _).objs.size
    rw [Heap.size_push, hsz]
    rcases List.mem_cons.mp hc with rfl | hc
    · rw [hsz]; exact Nat.lt_succ_self _
    · rcases List.mem_cons.mp hc with rfl | hc
      · exact Nat.lt_succ_of_lt (Nat.lt_succ_self _)
      · cases hc
  · have hold : ∀ c o, s.heap.get? c = some o → h'.get? c = some o := fun c o e => by
      refine hk c o (fun hm => ?_) (Heap.get?_push_of_some _ (Heap.get?_push_of_some _ e))
      rcases List.mem_cons.mp hm with e1 | hm
      · have := Heap.lt_size e; rw [e1, hsz] at this; exact Nat.lt_irrefl _ (Nat.lt_of_succ_lt this)
      · cases hm
    have := h h' tk hold
    have hv : v = if sLt a b = true then .str b u else .str a t := by
      cases hc : sLt a b <;> simp [argBest, hc] at hP <;> simp [hP]
    rw [hv]; exact this
theorem min_two_strs {a b : Str} {t u : Tok} {Q : Value → Shared → Prop} (hh : A.handled = none)
    (h : ∀ h' tk, (∀ c o, s.heap.get? c = some o → h'.get? c = some o) → Q (if sLt b a = true then .str b u else .str a t) { s with heap := h', toks := tk }) :
    wpAny (model prog w) A (call (.builtin "min") [.str a t, .str b u]) Q E s := by
  have hT : (s.heap.push { cls := .type "tuple", data := .seq #[.str a t, .str b u] }).IsTuple s.heap.objs.size #[.str a t, .str b u] := ⟨_, Heap.get?_push_size _ rfl, rfl, 0, rfl⟩
  refine call_min_two (wpAny_pyIter_tuple hT ?_)
  have hsz : (s.heap.push { cls := .type "tuple", data := .seq #[.str a t, .str b u] }).objs.size = s.heap.objs.size + 1 := Heap.size_push ..
  have cm : CmpOf prog w A.in1 .Lt (fun i v => (#[Value.str a t, .str b u] : Array Value)[i]? = some v) (fun i j => sLt (if i = 0 then a else b) (if j = 0 then a else b)) := fun i j vi vj s2 Q2 E2 hi hj hq => by
    rcases two_strs hi with ⟨rfl, rfl⟩ | ⟨rfl, rfl⟩ <;> rcases two_strs hj with ⟨rfl, rfl⟩ | ⟨rfl, rfl⟩ <;> exact (PyProof.Rows.lt_str hq : wpAny (model prog w) A.in1 (compareOp .Lt _ _) Q2 E2 s2)
  refine ⟨_, [_, s.heap.objs.size], [_], _, _, _, _, rfl, Walks.tuple (A := A.in1) hh _ s.heap.objs.size (by rw [hsz]; exact Nat.ne_of_lt (Nat.lt_succ_self _)) #[.str a t, .str b u],
    ⟨⟨_, Heap.get?_push_size _ rfl, rfl, rfl⟩, hT.push _⟩, fun c hc => ?_, by simp, cm, fun v h' tk hP hk => ?_⟩
  · show c < ((s.heap.push _).push _).objs.size
    rw [Heap.size_push, hsz]
    rcases List.mem_cons.mp hc with rfl | hc
    · rw [hsz]; exact Nat.lt_succ_self _
    · rcases List.mem_cons.mp hc with rfl | hc
      · exact Nat.lt_succ_of_lt (Nat.lt_succ_self _)
      · cases hc
  · have hold : ∀ c o, s.heap.get? c = some o → h'.get? c = some o := fun c o e => by
      refine hk c o (fun hm => ?_) (Heap.get?_push_of_some _ (Heap.get?_push_of_some _ e))
      rcases List.mem_cons.mp hm with e1 | hm
      · have := Heap.lt_size e; rw [e1, hsz] at this; exact Nat.lt_irrefl _ (Nat.lt_of_succ_lt this)
      · cases hm
    have := h h' tk hold
    have hv : v = if sLt b a = true then .str b u else .str a t := by
      cases hc : sLt b a <;> simp [argBest, hc] at hP <;> simp [hP]
    rw [hv]; exact this
end
section
variable {X : Cx}
theorem call_maxS (hc : X.calm = true) : CallR X (.builtin "max") (fun xs H Q => ∃ i j, xs = [.str i, .str j] ∧ Q (.str (if sLt i j = true then j else i)) H) := by
  intro pins s σ H xs us Q I r h
  obtain ⟨i, j, rfl, q⟩ := h
  obtain ⟨u, w', rfl, ⟨t, rfl⟩, ⟨t', rfl⟩⟩ := vals2 r
  refine max_two_strs (I.ok.hd hc) fun h' tk k => ⟨_, H, I.kept k, ?_, q⟩
  by_cases hj : sLt i j = true
  · rw [if_pos hj, if_pos hj]; exact ⟨_, rfl⟩
  · rw [if_neg hj, if_neg hj]; exact ⟨_, rfl⟩
theorem call_minS (hc : X.calm = true) : CallR X (.builtin "min") (fun xs H Q => ∃ i j, xs = [.str i, .str j] ∧ Q (.str (if sLt j i = true then j else i)) H) := by
  intro pins s σ H xs us Q I r h
  obtain ⟨i, j, rfl, q⟩ := h
  obtain ⟨u, w', rfl, ⟨t, rfl⟩, ⟨t', rfl⟩⟩ := vals2 r
  refine min_two_strs (I.ok.hd hc) fun h' tk k => ⟨_, H, I.kept k, ?_, q⟩
  by_cases hj : sLt j i = true
  · rw [if_pos hj, if_pos hj]; exact ⟨_, rfl⟩
  · rw [if_neg hj, if_neg hj]; exact ⟨_, rfl⟩
def rMaxU : List V → Hp → VK → Prop := fun xs H Q => (∃ i j, xs = [.int i, .int j] ∧ Q (.int (if j > i then j else i)) H) ∨ ∃ i j, xs = [.str i, .str j] ∧ Q (.str (if sLt i j = true then j else i)) H
def rMinU : List V → Hp → VK → Prop := fun xs H Q => (∃ i j, xs = [.int i, .int j] ∧ Q (.int (if j < i then j else i)) H) ∨ ∃ i j, xs = [.str i, .str j] ∧ Q (.str (if sLt j i = true then j else i)) H
theorem cr_maxU (hc : X.calm = true) : CallR X (.builtin "max") rMaxU := CallR.or (call_max2 hc) (call_maxS hc)
theorem cr_minU (hc : X.calm = true) : CallR X (.builtin "min") rMinU := CallR.or (call_min2 hc) (call_minS hc)
end
def maxU : OpN
  | [.int i, .int j], S => .ok (.int (if j > i then j else i)) S
  | [.str i, .str j], S => .ok (.str (if sLt i j = true then j else i)) S
  | _, _ => .no
def minU : OpN
  | [.int i, .int j], S => .ok (.int (if j < i then j else i)) S
  | [.str i, .str j], S => .ok (.str (if sLt j i = true then j else i)) S
  | _, _ => .no
section
variable {K : PySem.W.Frag} {T : Env1}
theorem cl_maxU : CallL K T rMaxU maxU := fun m S H vs xs Q W r rv h => by
  unfold maxU at h
  split at h
  · obtain ⟨x, y, rfl, rx, ry⟩ := rv.two
    cases (show x = .int _ from rx)
    cases (show y = .int _ from ry)
    exact .inl ⟨_, _, rfl, h.here r rfl⟩
  · obtain ⟨x, y, rfl, rx, ry⟩ := rv.two
    cases (show x = .str _ from rx)
    cases (show y = .str _ from ry)
    exact .inr ⟨_, _, rfl, h.here r rfl⟩
  · exact h.elim
theorem cl_minU : CallL K T rMinU minU := fun m S H vs xs Q W r rv h => by
  unfold minU at h
  split at h
  · obtain ⟨x, y, rfl, rx, ry⟩ := rv.two
    cases (show x = .int _ from rx)
    cases (show y = .int _ from ry)
    exact .inl ⟨_, _, rfl, h.here r rfl⟩
  · obtain ⟨x, y, rfl, rx, ry⟩ := rv.two
    cases (show x = .str _ from rx)
    cases (show y = .str _ from ry)
    exact .inr ⟨_, _, rfl, h.here r rfl⟩
  · exact h.elim
end
section
variable {S : Sto} {i j : Int} {a b : Str}
@[simp] theorem maxU_ii : maxU [.int i, .int j] S = .ok (.int (if j > i then j else i)) S := (rfl)
@[simp] theorem minU_ii : minU [.int i, .int j] S = .ok (.int (if j < i then j else i)) S := (rfl)
@[simp] theorem maxU_ss : maxU [.str a, .str b] S = .ok (.str (if sLt a b = true then b else a)) S := (rfl)
@[simp] theorem minU_ss : minU [.str a, .str b] S = .ok (.str (if sLt b a = true then b else a)) S := (rfl)
end
/-! ### dicts with tuple keys locked -/
theorem dictO_t {S : Sto} {n : Nat} {kvs : List (List Key × LV)} (h : S[n]? = some (.dcl kvs)) : dictO (.ref n) S = .ok (itOf (kvs.map fun kv => keyT kv.1)) S := by
  unfold dictO
  simp only [h]
theorem lockO_t {S : Sto} {n : Nat} {kvs : List (List Key × LV)} (h : S[n]? = some (.dcT kvs)) : lockO S n = some (S.set n (.dcl kvs)) := by
  unfold lockO
  rw [h]
theorem unlO_t {S : Sto} {n : Nat} {kvs : List (List Key × LV)} (h : S[n]? = some (.dcl kvs)) : unlO S n = some (S.set n (.dcT kvs)) := by
  unfold unlO
  rw [h]
theorem lockS_t {fd : LE} {fb : LS} {ds ds' : Sl} {S S0 S' : Sto} {n : Nat} {kvs : List (List Key × LV)} (hs : fd ds S = .ok (.ref n) S0) (hn : S[n]? = some (.dcT kvs)) (hf : fb ds (S.set n (.dcl kvs)) = .nx ds' S') (hn' : S'[n]? = some (.dcl kvs)) :
    lLockS fd fb ds S = .nx ds' (S'.set n (.dcT kvs)) := by
  unfold lLockS selE
  rw [hs]
  simp only
  rw [lockO_t hn]
  simp only
  rw [hf]
  unfold unlS
  simp only
  rw [unlO_t hn']
theorem lockE_t {fd fe : LE} {ds : Sl} {S S0 S' : Sto} {n : Nat} {v : LV} {kvs : List (List Key × LV)} (hs : fd ds S = .ok (.ref n) S0) (hn : S[n]? = some (.dcT kvs)) (hf : fe ds (S.set n (.dcl kvs)) = .ok v S') (hn' : S'[n]? = some (.dcl kvs)) :
    lLock fd fe ds S = .ok v (S'.set n (.dcT kvs)) := by
  unfold lLock selE
  rw [hs]
  simp only
  rw [lockO_t hn]
  simp only
  rw [hf]
  unfold unlR
  simp only
  rw [unlO_t hn']
theorem ix_dcl {S : Sto} {n : Nat} {kvs : List (List Key × LV)} {xs : List LV} {ks : List Key} {u : LV} (h : S[n]? = some (.dcl kvs)) (hk : keysL xs = some ks) (hg : getK kvs ks = some u) : ixL (.ref n) (.tup xs) S = .ok u S := by
  simp [ixL, ixO, h, getOv, dKs, dTs, hk, hg]
/-! ### the least text -/
theorem sLt_iff {a b : Str} : sLt a b = true ↔ tl a < tl b := decide_eq_true_iff
theorem least_str {ys : List Str} (h0 : ys ≠ []) (hl : ys.length ≤ 16777216) : ∃ m ∈ ys, (∀ n ∈ ys, tl m ≤ tl n) ∧ ∀ (S : Sto) (v : LV), lsO v S = some (ys.map .str) → minB [v] S = .ok (.str m) S := by
  have hp : 0 < ys.length := by cases ys with | nil => exact absurd rfl h0 | cons _ _ => simp
  have hb : bestI ltDat (ys.map .str) < ys.length := by
    have := argBest_le (fun i j => ltDat (pd ((ys.map LV.str).getD i .non)) (pd ((ys.map LV.str).getD j .non))) ((ys.map LV.str).length - 1)
    unfold bestI
    rw [List.length_map] at this ⊢
    omega
  have at_ : ∀ i, i < ys.length → (ys.map LV.str).getD i .non = .str (ys.getD i ("" : Str)) := fun i hi => by
    rw [List.getD_eq_getElem?_getD, List.getElem?_map, List.getElem?_eq_getElem hi, List.getD_eq_getElem?_getD, List.getElem?_eq_getElem hi]
    rfl
  have mx : ∀ k, k < ys.length → ∀ j, j ≤ k → tl (ys.getD (argBest (fun i j => ltDat (pd ((ys.map LV.str).getD i .non)) (pd ((ys.map LV.str).getD j .non))) k) ("" : Str)) ≤ tl (ys.getD j ("" : Str)) := fun k hk => by
    induction k with
    | zero =>
      intro j hj
      have : j = 0 := by omega
      subst this
      exact List.le_refl _
    | succ k ih =>
      intro j hj
      have ih := ih (by omega)
      have hl := argBest_le (fun i j => ltDat (pd ((ys.map LV.str).getD i .non)) (pd ((ys.map LV.str).getD j .non))) k
      unfold argBest
      generalize argBest (fun i j => ltDat (pd ((ys.map LV.str).getD i .non)) (pd ((ys.map LV.str).getD j .non))) k = b at *
      have e : ltDat (pd ((ys.map LV.str).getD (k + 1) .non)) (pd ((ys.map LV.str).getD b .non)) = decide (tl (ys.getD (k + 1) ("" : Str)) < tl (ys.getD b ("" : Str))) := by
        rw [at_ _ hk, at_ _ (by omega)]
        exact PySem.W.dataLt_str _ _
      rw [e]
      by_cases c : tl (ys.getD (k + 1) ("" : Str)) < tl (ys.getD b ("" : Str))
      · rw [decide_eq_true c, if_pos rfl]
        rcases Nat.lt_or_ge k j with q | q
        · have : j = k + 1 := by omega
          subst this
          exact List.le_refl _
        · exact List.le_trans (List.le_of_lt c) (ih j q)
      · rw [decide_eq_false c, if_neg (by decide)]
        rcases Nat.lt_or_ge k j with q | q
        · have : j = k + 1 := by omega
          subst this
          exact List.not_lt.mp c
        · exact ih j q
  refine ⟨ys.getD (bestI ltDat (ys.map .str)) ("" : Str), ?_, fun n hn => ?_, ?_⟩
  · rw [List.getD_eq_getElem?_getD, List.getElem?_eq_getElem hb]
    exact List.getElem_mem hb
  · obtain ⟨j, hj⟩ := List.mem_iff_getElem?.mp hn
    have jl := (List.getElem?_eq_some_iff.mp hj).1
    have := mx (ys.length - 1) (by omega) j (by omega)
    rw [List.getD_eq_getElem?_getD (l := ys) (i := j), hj] at this
    unfold bestI
    rw [List.length_map]
    exact this
  · intro S v hv
    unfold minB bestL
    simp only [hv]
    rw [strs_srt hl, decide_eq_true (by rw [List.length_map]; exact hp)]
    rw [Bool.and_self, if_pos rfl, at_ _ hb]
/-! ### d.get(k, v), how to reckon -/
def get2a (fk fx : LE) (ds : Sl) : R → R
  | .ok v S => if isDc v S = true then (fk ds S).bind fun u S2 => (fx ds S2).bind fun z S3 => gotO v u z S3 else .no
  | .ex c fs S => .ex c fs S
  | .no => .no
def get2b (v : LV) (fx : LE) (ds : Sl) : R → R
  | .ok u S => (fx ds S).bind fun z S3 => gotO v u z S3
  | .ex c fs S => .ex c fs S
  | .no => .no
def get2c (v u : LV) : R → R
  | .ok z S => gotO v u z S
  | .ex c fs S => .ex c fs S
  | .no => .no
section
variable {fo fk fx : LE} {ds : Sl} {S : Sto} {v u z : LV}
@[simp] theorem e_get2 : lGet2 fo fk fx ds S = get2a fk fx ds (fo ds S) := by unfold lGet2; cases fo ds S <;> rfl
theorem get2a_ok (h : isDc v S = true) : get2a fk fx ds (.ok v S) = get2b v fx ds (fk ds S) := by
  unfold get2a
  simp only [h, if_true]
  cases fk ds S <;> rfl
@[simp] theorem get2b_ok : get2b v fx ds (.ok u S) = get2c v u (fx ds S) := by
  show (fx ds S).bind _ = _
  cases fx ds S <;> rfl
@[simp] theorem get2c_ok : get2c v u (.ok z S) = gotO v u z S := (rfl)
end
/-! ### keys -/
section
variable {κ : Type} [DecidableEq κ] {kvs : List (κ × LV)} {k j : κ} {v w : LV}
theorem getK_mem (h : getK kvs k = some v) : (k, v) ∈ kvs := by
  unfold getK at h
  obtain ⟨kv, h1, h2⟩ := Option.map_eq_some_iff.mp h
  have h3 : kv.1 = k := of_decide_eq_true (List.find?_some (p := fun kv : κ × LV => decide (kv.1 = k)) h1)
  have h4 := List.mem_of_find?_eq_some h1
  rw [← h3, ← h2]
  exact h4
theorem getK_non : getK kvs k = none ↔ ∀ kv ∈ kvs, kv.1 ≠ k := by
  unfold getK
  rw [Option.map_eq_none_iff, List.find?_eq_none]
  exact ⟨fun h kv hm e => h kv hm (decide_eq_true e), fun h kv hm e => h kv hm (of_decide_eq_true e)⟩
theorem getK_put (kvs : List (κ × LV)) (k j : κ) (v : LV) : getK (putL kvs k v) j = if j = k then some v else getK kvs j := by
  unfold putL
  split
  · rename_i c
    have e : ∀ l : List (κ × LV), (l.map fun kv => if kv.1 = k then (kv.1, v) else kv).find? (fun kv => decide (kv.1 = j)) = (l.find? fun kv => decide (kv.1 = j)).map fun kv => if kv.1 = k then (kv.1, v) else kv := fun l => by
      rw [List.find?_map]
      congr 2
      funext kv
      show decide ((if kv.1 = k then (kv.1, v) else kv).1 = j) = _
      split <;> rfl
    unfold getK
    rw [e]
    cases f : kvs.find? fun kv => decide (kv.1 = j) with
    | none =>
      have : j ≠ k := fun z => by
        subst z
        rw [List.find?_eq_none] at f
        obtain ⟨kv, hm, hk⟩ := List.any_eq_true.mp c
        exact f kv hm hk
      rw [if_neg this]
      rfl
    | some kv =>
      have h3 : kv.1 = j := of_decide_eq_true (List.find?_some (p := fun kv : κ × LV => decide (kv.1 = j)) f)
      by_cases z : j = k
      · rw [if_pos z]
        show some (if kv.1 = k then (kv.1, v) else kv).2 = _
        rw [if_pos (h3.trans z)]
      · rw [if_neg z]
        show some (if kv.1 = k then (kv.1, v) else kv).2 = _
        rw [if_neg fun q => z (h3.symm.trans q)]
        rfl
  · rename_i c
    have c : ∀ kv ∈ kvs, kv.1 ≠ k := fun kv hm e => c (List.any_eq_true.mpr ⟨kv, hm, decide_eq_true e⟩)
    unfold getK
    rw [List.find?_append]
    cases f : kvs.find? fun kv => decide (kv.1 = j) with
    | some kv =>
      have h3 : kv.1 = j := of_decide_eq_true (List.find?_some (p := fun kv : κ × LV => decide (kv.1 = j)) f)
      rw [if_neg fun z => c kv (List.mem_of_find?_eq_some f) (h3.trans z)]
      rfl
    | none =>
      by_cases z : j = k
      · subst z
        simp
      · rw [if_neg z]
        have : ¬ k = j := fun q => z q.symm
        simp [this]
theorem mem_putL {kv : κ × LV} (h : kv ∈ putL kvs k v) : kv = (k, v) ∨ (kv ∈ kvs ∧ kv.1 ≠ k) := by
  unfold putL at h
  split at h
  · obtain ⟨u, hu, rfl⟩ := List.mem_map.mp h
    by_cases q : u.1 = k
    · rw [if_pos q, q]; exact .inl rfl
    · rw [if_neg q]; exact .inr ⟨hu, q⟩
  · rename_i c
    rcases List.mem_append.mp h with h | h
    · exact .inr ⟨h, fun e => c (List.any_eq_true.mpr ⟨kv, h, decide_eq_true e⟩)⟩
    · exact .inl (List.mem_singleton.mp h)
theorem len_putL (kvs : List (κ × LV)) (k : κ) (v : LV) : (putL kvs k v).length ≤ kvs.length + 1 := by
  unfold putL
  split <;> simp
end
theorem ix_dk {S : Sto} {n : Nat} {kvs : List (Key × LV)} {v u : LV} {k : Key} (h : S[n]? = some (.dct kvs)) (hk : keyL v = some k) (hg : getK kvs k = some u) : ixL (.ref n) v S = .ok u S := by
  simp [ixL, ixO, h, getOv, dKs, hk, hg]
/-! ### while, with a store that changes -/
theorem wh_runE {α : Type} {fc : LE} {fb : LS} (D : α → Sl) (T : α → Sto) (c : α → Bool) (P : α → Prop) (μ : α → Nat) (hc : ∀ a, P a → fc (D a) (T a) = .ok (.bl (c a)) (T a))
    (hb : ∀ a, P a → c a = true → ∃ a', fb (D a) (T a) = .nx (D a') (T a') ∧ P a' ∧ μ a' < μ a) : ∀ (n : Nat) (a : α), P a → μ a < n → ∃ b, P b ∧ c b = false ∧ lWh n fc fb (D a) (T a) = .nx (D b) (T b)
  | 0, a, _, h => absurd h (Nat.not_lt_zero _)
  | n + 1, a, p, h => by
    have h1 := hc a p
    cases e : c a with
    | false =>
      refine ⟨a, p, e, ?_⟩
      unfold lWh whK
      rw [h1, e]
      rfl
    | true =>
      obtain ⟨a', h2, p2, m2⟩ := hb a p e
      obtain ⟨b, pb, eb, hb2⟩ := wh_runE D T c P μ hc hb n a' p2 (by omega)
      refine ⟨b, pb, eb, ?_⟩
      rw [← hb2]
      unfold lWh
      conv => lhs; unfold whK
      rw [h1, e]
      show (match fb (D a) (T a) with | .nx ds2 S2 => whK fc fb n ds2 S2 | .ct ds2 S2 => whK fc fb n ds2 S2 | .bk ds2 S2 => .nx ds2 S2 | r => r) = _
      rw [h2]
/-! ### for, by places -/
theorem forL_at {J : Type} {lg : LG} {fb : LS} {xs : List LV} (D : Nat → J → Sl) (T : Nat → Sto) (h : ∀ k v, xs[k]? = some v → ∀ j, ∃ j', turn lg fb v (D k j) (T k) = .nx (D (k + 1) j') (T (k + 1))) :
    ∀ (m k : Nat), k + m = xs.length → ∀ j, ∃ j', forL lg fb (xs.drop k) (D k j) (T k) = .nx (D xs.length j') (T xs.length)
  | 0, k, e, j => by
    have e : k = xs.length := by omega
    subst e
    rw [List.drop_length]
    exact ⟨j, rfl⟩
  | m + 1, k, e, j => by
    have hk : k < xs.length := by omega
    rw [List.drop_eq_getElem_cons hk]
    obtain ⟨j1, h1⟩ := h k xs[k] (List.getElem?_eq_getElem hk) j
    obtain ⟨j2, h2⟩ := forL_at D T h m (k + 1) (by omega) j1
    refine ⟨j2, ?_⟩
    rw [← h2]
    unfold turn at h1
    conv => lhs; unfold forL
    cases q : lg xs[k] (T k) (D k j) with
    | none => rw [q] at h1; cases h1
    | some ds1 =>
      rw [q] at h1
      simp only at h1 ⊢
      cases q2 : fb ds1 (T k) with
      | nx ds2 S2 => rw [q2] at h1; cases h1; rfl
      | ct ds2 S2 => rw [q2] at h1; cases h1; rfl
      | _ => rw [q2] at h1; cases h1
theorem for_at {J : Type} {lg : LG} {fb : LS} {xs : List LV} (D : Nat → J → Sl) (T : Nat → Sto) (h : ∀ k v, xs[k]? = some v → ∀ j, ∃ j', turn lg fb v (D k j) (T k) = .nx (D (k + 1) j') (T (k + 1))) (j : J) :
    ∃ j', forS lg fb (D 0 j) (.ok (itOf xs) (T 0)) = .nx (D xs.length j') (T xs.length) := by
  rw [forS_of]
  exact forL_at D T h xs.length 0 (by omega) j
theorem for_rng {J : Type} {lg : LG} {fb : LS} {lo : Int} {n : Nat} (D : Nat → J → Sl) (T : Nat → Sto) (h : ∀ k : Nat, k < n → ∀ j, ∃ j', turn lg fb (.int (lo + k)) (D k j) (T k) = .nx (D (k + 1) j') (T (k + 1))) (j : J) :
    ∃ j', forS lg fb (D 0 j) (.ok (itOf (rng lo n)) (T 0)) = .nx (D n j') (T n) := by
  have l : (rng lo n).length = n := by unfold rng; rw [List.length_map, List.length_range]
  have := for_at (lg := lg) (fb := fb) (xs := rng lo n) D T (fun k v hv j => by
    unfold rng at hv
    rw [List.getElem?_map, Option.map_eq_some_iff] at hv
    obtain ⟨m, hm, rfl⟩ := hv
    obtain ⟨h1, h2⟩ := List.getElem?_eq_some_iff.mp hm
    rw [List.getElem_range] at h2
    subst h2
    rw [List.length_range] at h1
    exact h k h1 j) j
  rw [l] at this
  exact this
/-! ### while, in many stores at once -/
theorem wh_runF {α ι J : Type} {fc : LE} {fb : LS} (D : ι → α → J → Sl) (T : ι → α → Sto) (c : α → Bool) (P : α → Prop) (μ : α → Nat) (hc : ∀ a, P a → ∀ i j, fc (D i a j) (T i a) = .ok (.bl (c a)) (T i a))
    (hb : ∀ a, P a → c a = true → ∃ a', P a' ∧ μ a' < μ a ∧ ∀ i j, ∃ j', fb (D i a j) (T i a) = .nx (D i a' j') (T i a')) : ∀ (n : Nat) (a : α), P a → μ a < n → ∃ b, P b ∧ c b = false ∧ ∀ i j, ∃ j', lWh n fc fb (D i a j) (T i a) = .nx (D i b j') (T i b)
  | 0, a, _, h => absurd h (Nat.not_lt_zero _)
  | n + 1, a, p, h => by
    cases e : c a with
    | false =>
      refine ⟨a, p, e, fun i j => ⟨j, ?_⟩⟩
      have h1 := hc a p i j
      unfold lWh whK
      rw [h1, e]
      rfl
    | true =>
      obtain ⟨a', p2, m2, h2⟩ := hb a p e
      obtain ⟨b, pb, eb, hb2⟩ := wh_runF D T c P μ hc hb n a' p2 (by omega)
      refine ⟨b, pb, eb, fun i j => ?_⟩
      have h1 := hc a p i j
      obtain ⟨j1, h2⟩ := h2 i j
      obtain ⟨j2, hb2⟩ := hb2 i j1
      refine ⟨j2, ?_⟩
      rw [← hb2]
      unfold lWh
      conv => lhs; unfold whK
      rw [h1, e]
      show (match fb (D i a j) (T i a) with | .nx ds2 S2 => whK fc fb n ds2 S2 | .ct ds2 S2 => whK fc fb n ds2 S2 | .bk ds2 S2 => .nx ds2 S2 | r => r) = _
      rw [h2]
theorem gtp_r {gs : LGs} {n : Nat} {xs : List LV} {ds : Sl} {S : Sto} (h : S[n]? = some (.lst xs)) : asgK (gTp gs) ds (.ref n) S = (match gs xs S ds with | some ds1 => .nx ds1 S | none => .no) := by
  show (match gTp gs (.ref n) S ds with | some ds1 => RS.nx ds1 S | none => .no) = _
  have e : gTp gs (.ref n) S ds = gs xs S ds := by
    unfold gTp
    simp only [h]
  rw [e]
/-! ### great factors; the bits of a script -/
def CMulB (i j : Int) : Prop := Builtin.Int.intBits i ≤ 1048576 ∧ Builtin.Int.intBits j ≤ 1048576
theorem op_mulB {X : Cx} : OpR X (binaryOp .Mult) (rI CMulB fun i j => .int (i * j)) := opI fun _ _ _ _ _ _ _ hc q => mul_int q (IntMulOk.of_bits (Nat.le_trans hc.1 (by decide)) (Nat.le_trans hc.2 (by decide)))
def mulBL : Op2
  | .int i, .int j, S => if (decide (Builtin.Int.intBits i ≤ 1048576) && decide (Builtin.Int.intBits j ≤ 1048576)) = true then .ok (.int (i * j)) S else .no
  | _, _, _ => .no
section
variable {K : PySem.W.Frag} {T : Env1} {X : Cx} {ξ : Xi} {W : WX} {a b : Expr} {fa fb : LE} {pos : Pos}
theorem ol_mulB : OpL K T (rI CMulB fun i j => .int (i * j)) mulBL := fun m S H v w x y Q W r rv rw h => by
  unfold mulBL at h
  split at h
  · split at h
    · rename_i hz
      rw [Bool.and_eq_true, decide_eq_true_eq, decide_eq_true_eq] at hz
      exact ⟨_, _, rv, rw, hz, h.here r rfl⟩
    · exact h.elim
  · exact h.elim
theorem pl_mulB (ha : PE X a (tL X.K T ξ W fa)) (hb : PE X b (tL X.K T ξ W fb)) : PE X (.BinOp a .Mult b pos) (tL X.K T ξ W (lOp mulBL fa fb)) := pl_bin op_mulB ol_mulB ha hb
end
theorem mulB_ii {S : Sto} {i j : Int} (h : Builtin.Int.intBits i ≤ 1048576) (h2 : Builtin.Int.intBits j ≤ 1048576) : mulBL (.int i) (.int j) S = .ok (.int (i * j)) S := by
  have c : (decide (Builtin.Int.intBits i ≤ 1048576) && decide (Builtin.Int.intBits j ≤ 1048576)) = true := by rw [decide_eq_true h, decide_eq_true h2]; rfl
  show (if (decide (Builtin.Int.intBits i ≤ 1048576) && decide (Builtin.Int.intBits j ≤ 1048576)) = true then R.ok (.int (i * j)) S else .no) = _
  rw [if_pos c]
section
variable {K : PySem.W.Frag} {T : Env1} {P : Program} {w : World} {mg : Str → Option Value} {base : Heap}
def spTopB (K : PySem.W.Frag) : Sp := fun vs H Q _ => ∃ a ns, vs = [.ref a] ∧ scrOk K H a ns ∧ ns.length ≤ 63 ∧ (∀ z ∈ ns, Builtin.Int.intBits z ≤ 1048576) ∧ ∀ H', Q (.bl true) H'
theorem top_spB {H : Hp} {a : Addr} {ns : List Int} (hl : ns.length ≤ 63) (hb : ∀ z ∈ ns, Builtin.Int.intBits z ≤ 1048576) (hO : Only H) (hS : SqL K H a (ns.map V.int)) : spTopB K [.ref a] H (fun v _ => v = .bl true) fun _ _ _ => False := by
  obtain ⟨a', ns', h1, h2, _, _⟩ := top_sp (K := K) hl hO hS
  refine ⟨a, ns, rfl, ?_, hl, hb, fun _ => rfl⟩
  rcases hS with (h | ⟨o, h⟩) | h
  · rcases hO a with z | ⟨o, xs, z⟩
    · rw [z] at h; cases h
    · rw [z] at h; cases h
  · exact .inl ⟨o, h⟩
  · exact .inr fun _ => .inr h
theorem top_lawB {f : Addr} {fd : FuncData} {ps : List Str} {k : Nat} {g : Fn} (F : FnOk P w K mg base (L2N.CX P w) k f fd ps (spF K T g)) (hg : ∀ ns : List Int, ns.length ≤ 63 → (∀ z ∈ ns, Builtin.Int.intBits z ≤ 1048576) → ∃ S, g [.scr ns] [] = .ok (.bl true) S) : FnOk P w K mg base (L2N.CX P w) k f fd ps (spTopB K) :=
  F.imp fun vs H Q E ⟨a, ns, ev, hs, hl, hb, q⟩ => by
    subst ev
    obtain ⟨S, e⟩ := hg ns hl hb
    refine ⟨[], [], [.scr ns], RelS.nil, RVs.cons (by unfold RV; exact ⟨a, rfl, hs⟩) RVs.nil, ?_⟩
    rw [e]
    intro m' H' x E' r' rv
    cases (show x = .bl true from rv)
    exact q H'
end
end LL


set_option Elab.async false
set_option linter.all false
set_option maxRecDepth 100000
set_option maxHeartbeats 2000000
/-! The logical layer: sorted of the same things in another order. -/
namespace LL
open PySem PySem.Spec PyProof.Rows L2
theorem dle_iff (a b : LV) : PySem.W.dataLe false pd a b = !PySem.W.dataLt (pd b) (pd a) := rfl
theorem dle_trans (a b c : LV) (h1 : PySem.W.dataLe false pd a b = true) (h2 : PySem.W.dataLe false pd b c = true) : PySem.W.dataLe false pd a c = true := by
  rw [dle_iff, Bool.not_eq_true'] at *
  cases e : PySem.W.dataLt (pd c) (pd a) with
  | false => rfl
  | true =>
    rcases lex_negTrans (O := itemOrd) _ (PySem.W.keyToks (pd b)) _ e with z | z
    · rw [show PyProof.Rows.lexLt itemOrd (PySem.W.keyToks (pd c)) (PySem.W.keyToks (pd b)) = PySem.W.dataLt (pd c) (pd b) from rfl, h2] at z; cases z
    · rw [show PyProof.Rows.lexLt itemOrd (PySem.W.keyToks (pd b)) (PySem.W.keyToks (pd a)) = PySem.W.dataLt (pd b) (pd a) from rfl, h1] at z; cases z
theorem dle_total (a b : LV) : (PySem.W.dataLe false pd a b || PySem.W.dataLe false pd b a) = true := by
  rw [dle_iff, dle_iff]
  cases e : PySem.W.dataLt (pd b) (pd a) with
  | false => rfl
  | true =>
    cases e2 : PySem.W.dataLt (pd a) (pd b) with
    | false => rfl
    | true =>
      have := lex_trans (O := itemOrd) _ _ _ e e2
      rw [lex_irrefl] at this
      cases this
theorem dle_anti {a b : LV} (h1 : PySem.W.dataLe false pd a b = true) (h2 : PySem.W.dataLe false pd b a = true) : PySem.W.keyToks (pd a) = PySem.W.keyToks (pd b) := by
  rw [dle_iff, Bool.not_eq_true'] at *
  exact lex_total (O := itemOrd) _ _ h2 h1
theorem sortV_perm (xs : List LV) : (sortV xs).Perm xs := List.mergeSort_perm xs _
theorem sortV_pw (xs : List LV) : (sortV xs).Pairwise fun a b => PySem.W.dataLe false pd a b = true := List.pairwise_mergeSort dle_trans dle_total xs
/-- sorted of the same things -/
theorem sortV_same {xs ys : List LV} (h : xs.Perm ys) (inj : ∀ x ∈ xs, ∀ y ∈ xs, PySem.W.keyToks (pd x) = PySem.W.keyToks (pd y) → x = y) : sortV xs = sortV ys :=
  (((sortV_perm xs).trans h).trans (sortV_perm ys).symm).eq_of_pairwise (le := fun a b => PySem.W.dataLe false pd a b = true) (fun a b ha hb h1 h2 => inj a ((sortV_perm xs).mem_iff.mp ha) b (h.mem_iff.mpr ((sortV_perm ys).mem_iff.mp hb)) (dle_anti h1 h2)) (sortV_pw xs) (sortV_pw ys)
theorem sorted_ok {t : Bool} {S : Sto} {v : LV} {xs : List LV} (hv : lsO v S = some xs) (h : srtOk xs = true) : sortedG t [v] S = newL t (sortV xs) S := by
  unfold sortedG
  simp only [hv, h, if_true]
/-- tuples of a number, a text, a number, a text, a number -/
theorem keyToks_5 {a c e a' c' e' : Int} {b d b' d' : Str} (h : PySem.W.keyToks (pd (.tup [.int a, .str b, .int c, .str d, .int e])) = PySem.W.keyToks (pd (.tup [.int a', .str b', .int c', .str d', .int e']))) : a = a' ∧ b = b' ∧ c = c' ∧ d = d' ∧ e = e' := by
  simp only [pd, pds, PySem.W.keyToks, PySem.W.keyToksAll] at h
  simp at h
  obtain ⟨h1, h2, h3, h4, h5⟩ := h
  exact ⟨h1, PySem.W.str_of_cps (congrArg Array.toList h2), h3, PySem.W.str_of_cps (congrArg Array.toList h4), h5⟩
def isT5 (x : LV) : Prop := ∃ a b c d e, x = .tup [.int a, .str b, .int c, .str d, .int e]
theorem srt_5 {xs : List LV} (h : ∀ x ∈ xs, isT5 x) (hl : xs.length ≤ 16777216) : srtOk xs = true := by
  have e1 : xs.all (dz 60) = true := List.all_eq_true.mpr fun x hx => by
    obtain ⟨a, b, c, d, e, rfl⟩ := h x hx
    rfl
  have e2 : alk xs = true := by
    unfold alk
    rw [List.all_eq_true]
    intro x hx
    rw [List.all_eq_true]
    intro y hy
    obtain ⟨a, b, c, d, e, rfl⟩ := h x hx
    obtain ⟨a', b', c', d', e', rfl⟩ := h y hy
    rfl
  have e3 : xs.all isNT = true := List.all_eq_true.mpr fun x hx => by
    obtain ⟨a, b, c, d, e, rfl⟩ := h x hx
    rfl
  unfold srtOk
  rw [e1, e2, e3]
  unfold small
  simpa using hl
theorem sort_5 {xs ys : List LV} (h : xs.Perm ys) (h5 : ∀ x ∈ xs, isT5 x) : sortV xs = sortV ys := sortV_same h fun x hx y hy e => by
  obtain ⟨a, b, c, d, e', rfl⟩ := h5 x hx
  obtain ⟨a', b', c', d', e'', rfl⟩ := h5 y hy
  obtain ⟨rfl, rfl, rfl, rfl, rfl⟩ := keyToks_5 e
  rfl
/-! ### for over what is known, by places -/
theorem forK_at {J : Type} {lg : LG} {fb : LS} {l : LIt} {xs : List LV} (D : Nat → J → Sl) (T : Nat → Sto) (hl : ∀ k, ItIs (T k) l xs) (h : ∀ k v, xs[k]? = some v → ∀ j, ∃ j', turn lg fb v (D k j) (T k) = .nx (D (k + 1) j') (T (k + 1))) :
    ∀ (m k : Nat), k + m = xs.length → ∀ j, ∃ j', forK l lg fb m k (D k j) (T k) = .nx (D xs.length j') (T xs.length)
  | 0, k, e, j => by
    have e : k = xs.length := by omega
    subst e
    refine ⟨j, ?_⟩
    unfold forK
    rw [if_pos (hl _).fine]
  | m + 1, k, e, j => by
    have hk : k < xs.length := by omega
    obtain ⟨j1, h1⟩ := h k xs[k] (List.getElem?_eq_getElem hk) j
    obtain ⟨j2, h2⟩ := forK_at D T hl h m (k + 1) (by omega) j1
    refine ⟨j2, ?_⟩
    rw [← h2]
    have it := (hl k).item (List.getElem?_eq_getElem hk)
    unfold turn at h1
    conv => lhs; unfold forK
    rw [it]
    simp only
    cases q : lg xs[k] (T k) (D k j) with
    | none => rw [q] at h1; cases h1
    | some ds1 =>
      rw [q] at h1
      simp only at h1 ⊢
      cases q2 : fb ds1 (T k) with
      | nx ds2 S2 => rw [q2] at h1; cases h1; rfl
      | ct ds2 S2 => rw [q2] at h1; cases h1; rfl
      | _ => rw [q2] at h1; cases h1
theorem for_atI {J : Type} {lg : LG} {fb : LS} {l : LIt} {xs : List LV} (D : Nat → J → Sl) (T : Nat → Sto) (hl : ∀ k, ItIs (T k) l xs) (h : ∀ k v, xs[k]? = some v → ∀ j, ∃ j', turn lg fb v (D k j) (T k) = .nx (D (k + 1) j') (T (k + 1))) (j : J) :
    ∃ j', forS lg fb (D 0 j) (.ok l (T 0)) = .nx (D xs.length j') (T xs.length) := by
  have := forK_at D T hl h xs.length 0 (by omega) j
  have e : forS lg fb (D 0 j) (.ok l (T 0)) = forK l lg fb xs.length 0 (D 0 j) (T 0) := by
    show forK l lg fb l.n 0 _ _ = _
    rw [(hl 0).n]
  rw [e]
  exact this
theorem snoc_ind {α : Type} {p : List α → Prop} (h0 : p []) (h1 : ∀ l x, p l → p (l ++ [x])) (l : List α) : p l := by
  have k : ∀ m : List α, p m.reverse := fun m => by
    induction m with
    | nil => exact h0
    | cons x m ih => rw [List.reverse_cons]; exact h1 _ _ ih
  have := k l.reverse
  rwa [List.reverse_reverse] at this
end LL


set_option Elab.async false
set_option linter.all false
set_option maxRecDepth 100000
set_option maxHeartbeats 4000000
namespace LL
open PySem PySem.Spec PyProof.Rows L2
/-! ### xs[::c] of a list -/
def stpI (n : Nat) (c : Int) : List Nat := sliceRange (sliceBounds none none (some c) n).1 (sliceBounds none none (some c) n).2.1 (sliceBounds none none (some c) n).2.2
def stpL {α : Type} (xs : List α) (c : Int) : List α := (stpI xs.length c).filterMap fun j => xs[j]?
theorem stpI_len (n : Nat) {c : Int} (h : c ≠ 0) : (stpI n c).length ≤ n := by
  unfold stpI sliceBounds
  simp only [Option.getD_some]
  refine sliceRange_length_le _ _ _ n (fun p => ?_) fun p => ?_
  · rw [if_pos p, if_pos p]
    exact ⟨Int.le_refl _, Int.le_refl _⟩
  · rw [if_neg p, if_neg p]
    exact ⟨Int.le_refl _, Int.le_refl _⟩
theorem stpL_len {α : Type} (xs : List α) {c : Int} (h : c ≠ 0) : (stpL xs c).length ≤ xs.length := by
  unfold stpL
  have := List.length_filterMap_le (fun j => xs[j]?) (stpI xs.length c)
  have := stpI_len xs.length h
  omega
theorem valsPick {zs : List V} {us : List Value} (r : Vals zs us) : ∀ js : List Nat, Vals (js.filterMap fun j => zs[j]?) (js.filterMap fun j => us[j]?)
  | [] => .nil
  | j :: js => by
    rw [List.filterMap_cons, List.filterMap_cons]
    have ih := valsPick r js
    cases e : zs[j]? with
    | none =>
      rw [Vals.none_of r e]
      exact ih
    | some x =>
      obtain ⟨u, e2, r2⟩ := r.get e
      rw [e2]
      exact .cons r2 ih
theorem RVs.pick {K : PySem.W.Frag} {m : List Addr} {H : Hp} {vs : List LV} {zs : List V} (r : RVs K m H vs zs) : ∀ js : List Nat, RVs K m H (js.filterMap fun j => vs[j]?) (js.filterMap fun j => zs[j]?)
  | [] => RVs.nil
  | j :: js => by
    rw [List.filterMap_cons, List.filterMap_cons]
    have ih := RVs.pick r js
    cases e : vs[j]? with
    | none =>
      cases e2 : zs[j]? with
      | none => exact ih
      | some x =>
        obtain ⟨v, e3, _⟩ := r.getR e2
        rw [e] at e3
        cases e3
    | some v =>
      obtain ⟨x, e2, r2⟩ := r.get e
      rw [e2]
      exact RVs.cons r2 ih
def tStp (K : PySem.W.Frag) (ta : TE) (tc : TO) : TE := fun D G R => ta D G fun x G1 => tc D G1 fun o G2 => ∃ l zs c, x = .ref l ∧ o = some c ∧ c ≠ 0 ∧ SqL K G2 l zs ∧ ∀ b, G2 b = none → R (.ref b) (upd G2 b (.lst (stpL zs c)))
section
variable {X : Cx}
theorem pe_stp {a c : Expr} {ta : TE} {tc : TO} {q1 q2 : Pos} (ha : PE X a ta) (hc : PO X (some c) tc) : PE X (.Subscript a (.Slice none none (some c) q1) q2) (tStp X.K ta tc) := ⟨fun ps w D G R J k => by
  refine Subscript_ (thn (ha.run ps w D G _ J k) fun v w1 ⟨x, G1, J1, rx, k1⟩ => ?_)
  refine wpAny_Slice (thn (po_none.run ps w1 D G1 (fun o G2 => o = none ∧ G2 = G1) J1 ⟨rfl, rfl⟩) fun vl w2 ⟨l, G2, J2, pl, el, e2⟩ => ?_)
  subst el e2
  refine thn (po_none.run ps w2 D G2 (fun o G3 => o = none ∧ G3 = G2) J2 ⟨rfl, rfl⟩) fun vu w3 ⟨u, G3, J3, pu, eu, e3⟩ => ?_
  subst eu e3
  refine thn (hc.run ps w3 D G3 _ J3 k1) fun vs w4 ⟨o, G4, J4, po, k4⟩ => ?_
  obtain ⟨b, zs, n, rfl, rfl, n0, hz, k5⟩ := k4
  cases rx
  have J5 : Inv X ps D G4 { w4 with heap := w4.heap.push { cls := .type "slice", data := .fields #[vl, vu, vs] } } := J4.kept (t' := w4.toks) fun d od e => Heap.get?_push_of_some _ e
  obtain ⟨us, ru, hl, hs⟩ := J5.list hz
  have len := ru.length
  show wpAny (model X.prog X.w) X.A (subscriptTail a (.Slice none none (some c) q1) (.ref b) (.ref w4.heap.objs.size)) (EP X ps D R) X.xe { w4 with heap := w4.heap.push { cls := .type "slice", data := .fields #[vl, vu, vs] } }
  refine tail_any (ops := [.ref b, .ref w4.heap.objs.size]) hl.isList.typeIs (PySem.slot_list_getitem.lookup) ?_ (by with_unfolding_all rfl)
  refine wpAny_getItem_list_slice hl.isList (Heap.IsSliceOf.new _ vl vu vs) pl pu po (fun z => n0 (Option.some.inj z)) ?_ (by rw [List.size_toArray]; omega)
  have es : slicePick us.toArray none none (some n) = ((stpI zs.length n).filterMap fun j => us[j]?).toArray := by
    unfold slicePick stpI
    rw [List.size_toArray, ← len]
    congr 1
    refine congrArg (fun f => List.filterMap f _) (funext fun j => ?_)
    simp
  rw [es]
  refine ⟨.ref _, _, J5.laid (t' := w4.toks) (o := .lst (stpL zs n)) (fun d od e => Heap.get?_push_of_some _ e) (Nat.le_refl _) ?_, rfl, k5 _ (J5.hok.fresh (Nat.le_refl _))⟩
  exact ⟨Nat.le_trans (stpL_len zs n0) hs, _, 0, valsPick ru _, Heap.get?_push_size _ rfl⟩⟩
end
open Classical in
noncomputable def stpG (t : Bool) (v : LV) (c : Int) (S : Sto) : R := match lsO v S with
  | some xs => if c = 0 then .no else newL t (stpL xs c) S
  | none => .no
noncomputable def lStpG (t : Bool) (fa fc : LE) : LE := fun ds S => (fa ds S).bind fun v S1 => partK (some fc) ds S1 fun o S2 => match o with
  | some c => stpG t v c S2
  | none => .no
noncomputable abbrev lStp := lStpG false
noncomputable abbrev lStpT := lStpG true
section
variable {X : Cx} {T : Env1} {ξ : Xi} {W : WX} {a c : Expr} {pos p2 : Pos} {fa fc : LE}
theorem pl_stp {t : Bool} (ha : PE X a (tL X.K T ξ W fa)) (hc : PE X c (tL X.K T ξ W fc)) : PE X (.Subscript a (.Slice none none (some c) p2) pos) (tL X.K T ξ W (lStpG t fa fc)) :=
  pe_imp (pe_stp ha (pl_po hc)) fun σ H Q ⟨m, S, ds, r0, rs, h⟩ => tL.bind r0 rs h fun v S1 m1 H1 x E r1 rs1 rv h1 => tPO.bind (f := some fc) r1 rs1 h1 fun o S2 m2 H2 E2 r2 rs2 h2 => by
    cases o with
    | none => exact h2.elim
    | some n =>
      simp only [stpG] at h2
      split at h2
      · rename_i xs hx
        split at h2
        · exact h2.elim
        · rename_i n0
          obtain ⟨b, zs, rfl, hb, hs⟩ := lsO_ok r2 (rv.mono E2) hx
          refine ⟨b, zs, n, rfl, rfl, n0, SqL.of hb, fin_new r2 ?_ h2⟩
          unfold stpL
          rw [← hs.len]
          exact RVs.pick hs _
      · exact h2.elim
end
section
variable {S : Sto} {ds : Sl} {fa fc : LE} {v : LV} {xs : List LV} {n : Int}
theorem stp_ls {t : Bool} (h : lsO v S = some xs) (h0 : n ≠ 0) : stpG t v n S = newL t (stpL xs n) S := by
  unfold stpG
  rw [h]
  simp only
  rw [if_neg h0]
noncomputable def stp2 (t : Bool) (v : LV) : R → R
  | .ok (.int n) S => stpG t v n S
  | .ex c fs S => .ex c fs S
  | _ => .no
noncomputable def stp1 (t : Bool) (fc : LE) (ds : Sl) : R → R
  | .ok v S => stp2 t v (fc ds S)
  | .ex c fs S => .ex c fs S
  | .no => .no
@[simp] theorem e_stp {t : Bool} : lStpG t fa fc ds S = stp1 t fc ds (fa ds S) := by
  unfold lStpG
  cases fa ds S with
  | ok v S1 =>
    simp only [R.bind, partK, stp1]
    cases fc ds S1 with
    | ok u S2 => cases u <;> rfl
    | ex c fs S2 => rfl
    | no => rfl
  | ex c fs S1 => rfl
  | no => rfl
@[simp] theorem stp1_ok {t : Bool} : stp1 t fc ds (.ok v S) = stp2 t v (fc ds S) := (rfl)
@[simp] theorem stp2_ok {t : Bool} : stp2 t v (.ok (.int n) S) = stpG t v n S := (rfl)
end
/-! ### x in xs, of any data -/
def inDO (v w : LV) (S : Sto) : Option Bool := match dat S 60 v, dat S 60 w with
  | some d, some (.list ds) => if (SeqAt.shaped d && SeqAt.shaped (.list ds)) = true then some (ds.any fun z => PyData.eqv z d) else none
  | _, _ => none
def inDL : Op2 := fun v w S => match inDO v w S with
  | some b => .ok (.bl b) S
  | none => .no
def ninDL : Op2 := fun v w S => match inDO v w S with
  | some b => .ok (.bl !b) S
  | none => .no
section
variable {K : PySem.W.Frag} {T : Env1}
theorem inDO_ok {m : List Addr} {S : Sto} {H : Hp} {v w : LV} {x y : V} {b : Bool} (r : RelS K T m S H) (rv : RV K m H v x) (rw' : RV K m H w y) (h : inDO v w S = some b) : ∃ d ds, Dp K H x d ∧ Dp K H y (.list ds) ∧ SeqAt.shaped d = true ∧ SeqAt.shaped (.list ds) = true ∧ b = ds.any fun z => PyData.eqv z d := by
  unfold inDO at h
  split at h
  · rename_i d ds hd he
    split at h
    · rename_i hz
      cases h
      rw [Bool.and_eq_true] at hz
      exact ⟨d, ds, dat_dp r 60 v d x hd rv, dat_dp r 60 w (.list ds) y he rw', hz.1, hz.2, rfl⟩
    · cases h
  · cases h
theorem ol_inD : OpL K T (rInD K) inDL := fun m S H v w x y Q W r rv rw' h => by
  unfold inDL at h
  split at h
  · rename_i b hb
    obtain ⟨d, ds, h1, h2, h3, h4, rfl⟩ := inDO_ok r rv rw' hb
    exact ⟨d, ds, h1, h2, h3, h4, h.here r rfl⟩
  · exact h.elim
theorem ol_ninD : OpL K T (rNotInD K) ninDL := fun m S H v w x y Q W r rv rw' h => by
  unfold ninDL at h
  split at h
  · rename_i b hb
    obtain ⟨d, ds, h1, h2, h3, h4, rfl⟩ := inDO_ok r rv rw' hb
    exact ⟨d, ds, h1, h2, h3, h4, h.here r rfl⟩
  · exact h.elim
end
theorem c_inD {X : Cx} {T : Env1} (hr : X.A.units + 65 < cLine) : CmL X T .In (rInD X.K) inDL := ⟨op_inD hr, ol_inD⟩
theorem c_ninD {X : Cx} {T : Env1} (hr : X.A.units + 65 < cLine) : CmL X T .NotIn (rNotInD X.K) ninDL := ⟨op_notInD hr, ol_ninD⟩
theorem pds_any {v : LV} (hv : fz 60 v = true) : ∀ xs : List LV, xs.all (fz 59) = true → ((pds xs).any fun z => PyData.eqv z (pd v)) = xs.any fun y => veq y v
  | [], _ => rfl
  | x :: xs, h => by
    obtain ⟨h1, h2⟩ := all_cons h
    unfold pds
    rw [List.any_cons, List.any_cons, pds_any hv xs h2, eqv_pd 59 x v 60 h1 hv]
theorem inDO_fz {v : LV} {xs : List LV} {S : Sto} (hv : fz 60 v = true) (hx : xs.all (fz 59) = true) : inDO v (.lst xs) S = some (xs.any fun y => veq y v) := by
  have hw : fz 60 (.lst xs) = true := hx
  unfold inDO
  rw [dat_pd 60 v hv, dat_pd 60 (.lst xs) hw]
  show (if (SeqAt.shaped (pd v) && SeqAt.shaped (pd (.lst xs))) = true then some ((pds xs).any fun z => PyData.eqv z (pd v)) else none) = _
  rw [shaped_fz hv, shaped_fz hw, pds_any hv xs hx]
  rfl
theorem inD_fz {v : LV} {xs : List LV} {S : Sto} (hv : fz 60 v = true) (hx : xs.all (fz 59) = true) : inDL v (.lst xs) S = .ok (.bl (xs.any fun y => veq y v)) S := by
  unfold inDL; rw [inDO_fz hv hx]
theorem ninD_fz {v : LV} {xs : List LV} {S : Sto} (hv : fz 60 v = true) (hx : xs.all (fz 59) = true) : ninDL v (.lst xs) S = .ok (.bl !(xs.any fun y => veq y v)) S := by
  unfold ninDL; rw [inDO_fz hv hx]
/-! ### z.rpartition(y) -/
section
variable {X : Cx}
def rRpart : V → List V → Hp → VK → Prop := fun x xs H R => ∃ z y : Str, x = .str z ∧ xs = [.str y] ∧ (y.length == 0) = false ∧ z.length ≤ sizeLine ∧ ∀ b, H b = none → R (.ref b) (upd H b (.tup [.str (Txt.rpartition z y).1, .str (Txt.rpartition z y).2.1, .str (Txt.rpartition z y).2.2]))
theorem mt_rpart : MtR X "str.rpartition" rRpart := by
  intro ps w D G x xs v us R J rx rxs k
  obtain ⟨z, y, rfl, rfl, hy, hz, k⟩ := k
  obtain ⟨t, rfl⟩ := rx
  cases rxs with
  | cons r1 rxs =>
    cases rxs
    obtain ⟨u, rfl⟩ := r1
    refine call_meets PySem.F.slot_str_rpartition (typeIs_str _ _ _) PySem.F.entry_str_rpartition (PySem.F.args_str_rpartition_2 _ _) (meets_str_rpartition z y t u hy hz) ?_
    unfold Txt.rpartition at k
    cases e : Builtin.Str.lastOccurrence z y 0 z.length with
    | none =>
      rw [e] at k
      refine ⟨.ref _, _, J.laid (t' := w.toks + 1) (o := .tup [.str Str.empty, .str Str.empty, .str z]) (fun d od q => Heap.get?_push_of_some _ q) (Nat.le_refl _) ?_, rfl, k _ (J.hok.fresh (Nat.le_refl _))⟩
      exact ⟨by show 3 ≤ sizeLine; decide, _, .cons ⟨_, rfl⟩ (.cons ⟨_, rfl⟩ (.cons ⟨_, rfl⟩ .nil)), IsTup.new _ _⟩
    | some i =>
      rw [e] at k
      refine ⟨.ref _, _, J.laid (t' := w.toks + 1 + 1) (o := .tup [.str (Builtin.Str.strSub z 0 i), .str y, .str (Builtin.Str.strSub z (i + y.length) z.length)]) (fun d od q => Heap.get?_push_of_some _ q) (Nat.le_refl _) ?_, rfl, k _ (J.hok.fresh (Nat.le_refl _))⟩
      exact ⟨by show 3 ≤ sizeLine; decide, _, .cons ⟨_, rfl⟩ (.cons ⟨_, rfl⟩ (.cons ⟨_, rfl⟩ .nil)), IsTup.new _ _⟩
end
def rpartL : OpM := fun v vs S => match v, vs with
  | .str z, [.str y] => if (okStr z && !(y.length == 0)) = true then .ok (.tup [.str (Txt.rpartition z y).1, .str (Txt.rpartition z y).2.1, .str (Txt.rpartition z y).2.2]) S else .no
  | _, _ => .no
theorem ml_rpart {K : PySem.W.Frag} {T : Env1} : MtL K T rRpart rpartL := fun m S H v vs x xs Q W r rv rvs h => by
  unfold rpartL at h
  split at h
  · rename_i z y
    split at h
    · rename_i hz
      rw [Bool.and_eq_true] at hz
      obtain ⟨y', rfl, ry⟩ := rvs.one
      refine ⟨z, y, rv, by rw [show y' = .str y from ry], by simpa using hz.2, small_ok hz.1, fun b hb => fin_tup r ?_ h b hb⟩
      exact RVs.cons rfl (RVs.cons rfl (RVs.cons rfl RVs.nil))
    · exact h.elim
  · exact h.elim
theorem rpart_ok {z y : Str} {S : Sto} (hz : z.length ≤ 16777216) (hy : y.length ≠ 0) : rpartL (.str z) [.str y] S = .ok (.tup [.str (Txt.rpartition z y).1, .str (Txt.rpartition z y).2.1, .str (Txt.rpartition z y).2.2]) S := by
  have h1 : okStr z = true := by simp [okStr, small, hz]
  have h2 : (y.length == 0) = false := by simpa using hy
  simp [rpartL, h1, h2]
end LL


set_option Elab.async false
set_option linter.all false
set_option maxRecDepth 100000
set_option maxHeartbeats 4000000
/-! ### [elt for x in xs if ..] within an except suite, xs a list -/
namespace LL
open PySem PySem.Spec PyProof.Rows L2 HotX
section
variable {prog : Program} {w : World} {A : Around} {E : Value → Shared → Prop} {s : Shared}
theorem next_end_hot {b l x1 : Addr} {i : Nat} {its : Array Value} {Q : Option Value → Shared → Prop} (hot : HotAt A x1 s.heap) (st : s.heap.IsListIter b l i) (hl : s.heap.IsList l its) (hx : its[i]? = none)
    (hQ : ∀ h2, Heap.ExtBut b s.heap h2 → Q none { s with heap := h2 }) : wpAny (model prog w) A (pyNext (.ref b)) Q E s := by
  obtain ⟨ob, gb, cb, db⟩ := id st
  obtain ⟨ol, gl, _, nl, dl⟩ := hl
  obtain ⟨hh, o1, vs1, h1, d1, c1⟩ := hot
  have hne : x1 ≠ b := fun z => by
    rw [z, gb] at h1
    cases h1
    rw [db] at d1
    cases d1
    simp at c1
  unfold pyNext
  refine wpAny_bind (wpAny_attempt (wpAny_callSpecial?_slot (name := Str.ofString "__next__") st.typeIs slot_listiter_next (wpAny_call_entry slot_listiter_next st.typeIs entry_listiter_next ?_ (args_listiter_next _))))
  show wpAny _ _ (field (.ref b) 0 >>= _) _ _ s
  refine wpAny_bind (wpAny_field gb db (x := .ref l) rfl ?_)
  show wpAny _ _ (if (Value.ref l == Value.none) = true then _ else _) _ _ _
  rw [if_neg (show ¬ (Value.ref l == Value.none) = true from Bool.false_ne_true)]
  show wpAny _ _ (field (.ref b) 1 >>= _) _ _ s
  refine wpAny_bind (wpAny_field gb db (x := .int i 0) rfl ?_)
  show wpAny _ _ (seqItems? (.ref l) >>= _) _ _ _
  refine wpAny_bind (wpAny_seqItems gl dl ?_)
  simp only [Int.toNat_natCast, hx]
  refine wpAny_bind (wpAny_rule (wpAny_bind (wpAny_setField gb db (by simp) ?_)))
  refine wpAny_bind ?_
  show wpAny _ _ (newExc (Value.type "StopIteration") [] >>= _) _ _ _
  refine wpAny_bind ?_
  simp only [newExc, newTuple]
  refine wpAny_bind (wpAny_newObj_type ?_ (by (size_fits)))
  refine wpAny_bind (m := firstArgMember _ _) (wpAny_of_eq (a := Value.none) (by first | rfl | (simp only [firstArgMember] <;> rfl)) ?_)
  refine wpAny_newObj_type ?_ (by (size_fits))
  have g1 : (s.heap.update b (Obj.mapFields fun vs => vs.setIfInBounds 0 Value.none)).get? x1 = some o1 := by rw [Heap.get?_update_other _ _ fun z => hne z.symm]; exact h1
  refine wpAny_pure ?_
  refine raiseNew_hot ⟨hh, o1, vs1, Heap.get?_push_of_some _ (Heap.get?_push_of_some _ g1), d1, c1⟩ (Nat.ne_of_lt (Heap.lt_size (Heap.get?_push_of_some _ g1))) (Heap.get?_push_size _ rfl) rfl (by first | (simp; done) | (simp; omega)) ?_
  refine wpAny_bind (wpAny_isInstance (T := "StopIteration") (b := true) ⟨_, Heap.get?_update_self _ (Heap.get?_push_size _ rfl) rfl, rfl⟩ isSubtype_stop ?_)
  refine wpAny_pure (hQ _ ?_)
  intro a o hab ha
  have g2 : (s.heap.update b (Obj.mapFields fun vs => vs.setIfInBounds 0 Value.none)).get? a = some o := by rw [Heap.get?_update_other _ _ fun z => hab z.symm]; exact ha
  rw [Heap.get?_update_other _ _ (Nat.ne_of_gt (Heap.lt_size (Heap.get?_push_of_some _ g2)))]
  exact Heap.get?_push_of_some _ (Heap.get?_push_of_some _ g2)
end
section
variable {X : Cx}
theorem comp_hot {p : Addr × Obj} (hot : L2H.Hot1 X.A p) (hp : p ∈ X.pn) {elt tg l : Expr} {ifs : List Expr} {scope : Scope} {own : List (Str × Nat)} {q1 : Pos} {tw : TE} {g : TG} {tt : TT} {te : TE} (hN : X.N.Nodup) (hl : PE X l tw) (ok : BlkOk X.N X.env.scope scope own)
    (hg : ∀ (z : Shared) (G : Hp) (C : Addr) (cl : List (Str × Addr)) (fp : List Addr), PG (X.blk z G scope (compEnvC scope cl C X.env) fp) tg g) (ht : ∀ (z : Shared) (G : Hp) (C : Addr) (cl : List (Str × Addr)) (fp : List Addr), PTs (X.blk z G scope (compEnvC scope cl C X.env) fp) ifs tt)
    (he : ∀ (z : Shared) (G : Hp) (C : Addr) (cl : List (Str × Addr)) (fp : List Addr), PE (X.blk z G scope (compEnvC scope cl C X.env) fp) elt te) (hs : ∀ x, foldedSetIterable l X.env x = pure x := by intro _; rfl) :
    PE X (.ListComp elt [⟨tg, l, ifs, 0⟩] scope q1) (tLc (iList X.K tw) g tt te (own.map (·.2))) := ⟨fun ps s0 D G R J k => by
  have hfr : ∀ y ∈ scope.names, y.2 = .free → ∃ c, X.env.cells.lookup y.1 = some c := fun y hy e => (ok.free y hy e).elim (fun z => J.ok.has _ (.inl z)) fun z => J.ok.has _ (.inr z)
  rw [eval_ListComp]
  refine wpAny_comprehension_free rfl hs (closure_ok hfr) ok.kind (fun y hy e => by rw [ok.uniq y hy, e]) (thn (hl.run ps s0 D G _ J k) fun v s1 ⟨x, G1, J1, rx, k1⟩ => ?_)
  obtain ⟨a, ex, ⟨zs, hz⟩, k2⟩ := k1
  subst ex
  cases rx
  obtain ⟨us, ru, hls, hlen⟩ := J1.list hz
  refine wpAny_pyIter_list hls.isList ?_
  have P0 := J1.pin p (List.mem_append_left _ hp)
  have pb : p.1 ≠ s1.heap.objs.size := Nat.ne_of_lt (Heap.lt_size P0.1)
  have f2 : FpOk X ps G1 s1.heap.objs.size := J1.fpOk (Nat.le_refl _) (J1.hok.fresh (Nat.le_refl _))
  have J2 : Inv X ps D G1 { s1 with heap := s1.heap.push { cls := .type "list_iterator", data := .fields #[.ref a, .int 0 0] } } := J1.kept (t' := s1.toks) fun c o e => Heap.get?_push_of_some _ e
  have st2 : (s1.heap.push { cls := .type "list_iterator", data := .fields #[.ref a, .int 0 0] }).IsListIter s1.heap.objs.size a 0 := ⟨_, Heap.get?_push_size _ rfl, rfl, rfl⟩
  have lb : s1.heap.objs.size < (s1.heap.push { cls := .type "list_iterator", data := .fields #[.ref a, .int 0 0] }).objs.size := by rw [Heap.size_push]; exact Nat.lt_succ_self _
  generalize hs2 : ({ s1 with heap := s1.heap.push { cls := .type "list_iterator", data := .fields #[.ref a, .int 0 0] } } : Shared) = s2 at J2 ⊢
  have h2 : s2.heap = s1.heap.push { cls := .type "list_iterator", data := .fields #[.ref a, .int 0 0] } := by rw [← hs2]
  rw [← h2] at st2 lb
  generalize s1.heap.objs.size = b at pb f2 st2 lb ⊢
  refine wpAny_newObj_type (newEnv_comp ?_) (by show 0 ≤ sizeLine; decide)
  generalize hn : s2.heap.objs.size = n
  obtain ⟨W, ⟨m0, w0⟩, turn⟩ := k2 n (J2.hok.fresh (Nat.le_of_eq hn))
  generalize hs3 : ({ s2 with heap := s2.heap.push { cls := .type "list", data := .seq ([] : List Value).toArray } } : Shared) = s3
  have h3 : s3.heap = s2.heap.push { cls := .type "list", data := .seq ([] : List Value).toArray } := by rw [← hs3]
  have J3 : Inv X ps D (upd G1 n (.lst [])) s3 := by
    rw [← hs3]
    refine J2.laid (t' := s2.toks) (fun c o e => Heap.get?_push_of_some _ e) (Nat.le_of_eq hn) ⟨Nat.zero_le _, [], 0, .nil, ?_⟩
    rw [← hn]
    exact Heap.get?_push_size _ rfl
  have bn : b ≠ n := by rw [← hn]; exact Nat.ne_of_lt lb
  have f3 : ∀ c ∈ [b], FpOk X ps (upd G1 n (.lst [])) c ∧ c < s3.heap.objs.size := fun c hc => by
    rw [List.mem_singleton.mp hc]
    refine ⟨⟨?_, f2.2⟩, by rw [h3, Heap.size_push]; exact Nat.lt_succ_of_lt lb⟩
    rw [upd_ne bn]
    exact f2.1
  have st3 : s3.heap.IsListIter b a 0 := st2.at fun o e => by rw [h3]; exact Heap.get?_push_of_some _ e
  have J4 := block_start J3 ok hN f3
  have P3 := J3.pin p (List.mem_append_left _ hp)
  have pg := hg s3 (upd G1 n (.lst [])) s3.heap.objs.size (cellsFrom (s3.heap.objs.size + 1) scope.names (cloFrom X.env.cells scope.names [])) [b]
  have pt := ht s3 (upd G1 n (.lst [])) s3.heap.objs.size (cellsFrom (s3.heap.objs.size + 1) scope.names (cloFrom X.env.cells scope.names [])) [b]
  have pe := he s3 (upd G1 n (.lst [])) s3.heap.objs.size (cellsFrom (s3.heap.objs.size + 1) scope.names (cloFrom X.env.cells scope.names [])) [b]
  have bf : (upd G1 n (.lst [])) b = none := (f3 b (List.mem_singleton.mpr rfl)).1.1
  show codeAny _ _ (.compStart (.ListComp elt [⟨tg, l, ifs, 0⟩] scope q1) 0 (.ref b) (.ref n) (compEnvC scope (cellsFrom (s3.heap.objs.size + 1) scope.names (cloFrom X.env.cells scope.names [])) s3.heap.objs.size X.env)) (compPost (model X.prog X.w) X.A X.xe _ _ (.ref n) s3.heap.objs.size) { s3 with heap := pushCells (s3.heap.push { cls := .type "dict", data := .dict #[] }) scope.names }
  generalize hce : compEnvC scope (cellsFrom (s3.heap.objs.size + 1) scope.names (cloFrom X.env.cells scope.names [])) s3.heap.objs.size X.env = ce at J4 pg pt pe ⊢
  have cL : ce.locals = s3.heap.objs.size := by subst hce; rfl
  generalize hG3 : upd G1 n (.lst []) = G3 at J3 J4 pg pt pe w0 bf f3 P3
  generalize hs4 : ({ s3 with heap := pushCells (s3.heap.push { cls := .type "dict", data := .dict #[] }) scope.names } : Shared) = s4 at J4 ⊢
  have kp : ∀ c o, s3.heap.get? c = some o → s4.heap.get? c = some o := fun c o e => by rw [← hs4]; exact pushCells_keeps _ _ _ _ (Heap.get?_push_of_some _ e)
  have st4 : s4.heap.IsListIter b a 0 := st3.at fun o e => kp _ _ e
  -- the exception is pinned in the block, too
  have J4' : Inv (X.blk s3 G3 scope ce [b]) [p] (wipe D (own.map (·.2))) G3 s4 := by
    refine ⟨J4.ok, J4.os, J4.bare, J4.base, J4.loc, J4.cell, J4.free, J4.freeC, fun r hr => ?_, J4.hok, J4.len⟩
    have er : r = p := List.mem_singleton.mp (show r ∈ [p] from hr)
    subst er
    refine ⟨kp _ _ P3.1, P3.2.1, ?_, fun hm => (List.mem_cons.mp (J3.stkSub r.1 hm)).elim P3.2.2.1 P3.2.2.2.1, P3.2.2.2.2⟩
    show r.1 ≠ ce.locals
    rw [cL]
    exact Nat.ne_of_lt (Heap.lt_size P3.1)
  have stat : ∀ {σ2 : L2.St} {G2 : Hp} {z : Shared}, Inv (X.blk s3 G3 scope ce [b]) [p] σ2 G2 z → G2 b = none → FpOk (X.blk s3 G3 scope ce [b]) [p] G2 b := fun {σ2 G2 z} I hb =>
    ⟨hb, (I.ok.exf b (List.mem_singleton.mpr rfl)).1, I.ok.exfs b (List.mem_singleton.mpr rfl), .inl (List.mem_singleton.mpr rfl), fun y c e => (I.ok.exf b (List.mem_singleton.mpr rfl)).2 y c e, fun r hr => by
      rw [List.mem_singleton.mp (show r ∈ [p] from hr)]
      exact pb⟩
  have objb : ∀ {h : Heap} {i : Nat}, h.IsListIter b a i → ∀ c ∈ [b], ∃ o, h.get? c = some o ∧ ∀ v, o.data ≠ .cell v := fun {h i} st c hc => by
    rw [List.mem_singleton.mp hc]
    obtain ⟨o, e, _, d⟩ := st
    exact ⟨o, e, fun v z => by rw [d] at z; cases z⟩
  have loop : codeAny (model X.prog X.w) X.A (.compLoop (.ListComp elt [⟨tg, l, ifs, 0⟩] scope q1) 0 (.ref b) (.ref n) ce) (compPost (model X.prog X.w) X.A X.xe none (EP X ps D R) (.ref n) s3.heap.objs.size) s4 := by
    refine compLoop_any (fun m z => ∃ i G2, Inv (X.blk s3 G3 scope ce [b]) [p] (wipe D (own.map (·.2))) G2 z ∧ z.heap.IsListIter b a i ∧ G2 b = none ∧ W i m G2) ?_ m0 ⟨0, G3, J4', st4, bf, w0⟩
    rintro m s5 ⟨i, G5, J5, st5, b5, w5⟩
    obtain ⟨f0, f1, f2', f3', f4, f5⟩ := stat J5 b5
    rcases turn i m G5 w5 with ⟨⟨xs, hq, hx⟩, qq⟩ | ⟨⟨xs, x, hq, hx⟩, Nx, hNx, step⟩
    · obtain ⟨its, rv, pl, _⟩ := J5.list hq
      obtain ⟨v1, e1, c1⟩ := hot.2
      have hl5 := rv.length
      refine next_end_hot (x1 := p.1) ⟨hot.1, p.2, v1, (J5.pin p (List.mem_singleton.mpr rfl)).1, e1, c1⟩ st5 pl.isList (by simp; omega) fun h' eb => ?_
      have J6 : Inv (X.blk s3 G3 scope ce [b]) [p] (wipe D (own.map (·.2))) G5 { s5 with heap := h' } := J5.turned (t' := s5.toks) (fun c o hb e => eb c o hb e) f0 f1 f3' f4 f5
      have J7 : Inv X ps D G5 { s5 with heap := h' } := J3.call' (ch := [b]) J6.os J6.base J6.hok J6.bare fun c hc => ⟨(f3 c hc).1.2.2.2.1, (f3 c hc).1.2.1, (f3 c hc).1.2.2.2.2.1, (f3 c hc).1.2.2.2.2.2⟩
      have nC : G5 s3.heap.objs.size = none := by
        have z : G5 ce.locals = none := J6.free
        rw [cL] at z
        exact z
      obtain ⟨m', hm, _⟩ := J6.loc
      have hm : ({ s5 with heap := h' } : Shared).heap.Ns ce.locals m' := hm
      rw [cL] at hm
      obtain ⟨u0, u1, u2, u3, u4, u5⟩ := J3.fpOk (Nat.le_refl _) nC
      exact ⟨m', hm, fun h'' sb => ⟨.ref n, G5, J7.turned (t' := s5.toks) (fun c o hb e => (sb.2 c hb).trans e) u0 u1 u3 u4 u5, rfl, qq⟩⟩
    · obtain ⟨its, rv, pl, _⟩ := J5.list hq
      obtain ⟨u, hu, ru'⟩ := rv.get hx
      refine wpAny_pyNext_list_item st5 pl.isList (x := u) (by simpa using hu) fun h' st' sb => ?_
      have J6 : Inv (X.blk s3 G3 scope ce [b]) [p] (wipe D (own.map (·.2))) G5 { s5 with heap := h' } := J5.turned (t' := s5.toks) (fun c o hb e => (sb.2 c hb).trans e) f0 f1 f3' f4 f5
      obtain ⟨o, eo, co, od⟩ := id st'
      refine go_of (s := { s5 with heap := h' }) eo co od (by decide) ?_
      have st' : ({ s5 with heap := h' } : Shared).heap.IsListIter b a (i + 1) := st'
      generalize ({ s5 with heap := h' } : Shared) = s7 at J6 st' ⊢
      have J7 := J6.pinned (fun c hc => by rw [List.mem_singleton.mp hc]; exact stat J6 b5) (objb st')
      refine thnF (pg.run _ s7 _ G5 x u _ J7 ru' (step x G5 ⟨rfl, fun ys hy => by rw [J5.list_inj hy hq]; exact hx⟩)) fun _ s8 ⟨σ8, G8, J8, hw8, q8⟩ => ?_
      refine thnF (pt.run _ s8 σ8 G8 _ J8 q8) fun bb s9 ⟨G9, J9, q9⟩ => ?_
      have fin : ∀ {z : Shared} {G2 : Hp}, Inv (X.blk s3 G3 scope ce [b]) ([p] ++ pinsAt [b] s7.heap) σ8 G2 z → Nx G2 → ∃ m', m' < m ∧ ∃ i G2, Inv (X.blk s3 G3 scope ce [b]) [p] (wipe D (own.map (·.2))) G2 z ∧ z.heap.IsListIter b a i ∧ G2 b = none ∧ W i m' G2 := fun {z G2} I nx => by
        obtain ⟨m', hm, w'⟩ := hNx G2 nx
        obtain ⟨o2, e2, _, _⟩ := id st'
        have pin2 := I.pin (b, o2) (List.mem_append_right _ (List.mem_append_right _ (mem_pinsAt (List.mem_singleton.mpr rfl) e2)))
        have hl' : (wipe D (own.map (·.2))).length = σ8.length := by rw [← hw8, wipe_length]
        refine ⟨m', hm, i + 1, G2, (I.unpinned (pins := [p])).weak hl' (fun j v e => ?_), st'.at fun o3 e3 => ?_, pin2.2.1, w'⟩
        · rw [← hw8] at e
          exact (wipe_some e).1
        · rw [e2] at e3
          cases e3
          exact pin2.1
      cases bb with
      | false =>
        simp only [Bool.false_eq_true, if_false] at q9 ⊢
        exact fin J9 q9
      | true =>
        simp only [if_true] at q9 ⊢
        refine thnF (pe.run _ s9 σ8 G9 _ J9 q9) fun y s10 ⟨yv, G10, J10, r10, acc, hD10, hz10, nx⟩ => ?_
        exact app_ok (X := X.blk s3 G3 scope ce [b]) J10 hD10 hz10 r10 fun s11 J11 => fin J11 nx
  exact codeAny_compStart_list loop (wpAny_pyIter_listiter st4 loop)⟩
end
def iterH (v : LV) (S : Sto) : RI := match v with
  | .lst xs => .ok (itOf xs) S
  | .ref n => match S[n]? with
    | some (.lst xs) => .ok (itRef n xs.length) S
    | _ => .no
  | _ => .no
def lIterH (f : LE) : LI := fun ds S => bindI (f ds S) iterH
section
variable {X : Cx} {T : Env1} {ξ : Xi} {W : WX} {e tg : Expr} {fe fc ft : LE} {lg : LG} {elt : Expr} {ifs : List Expr} {scope : Scope} {own : List (Str × Nat)} {pos : Pos}
theorem iterH_list {σ : L2.St} {H : Hp} {R : It → Hp → Prop} (h : tI X.K T ξ W (lIterH fe) σ H R) : iList X.K (tL X.K T ξ W fe) σ H R := by
  obtain ⟨m, S, ds, r, rs, h⟩ := h
  refine tL.bindI r rs h fun v S1 m1 H1 x e2 E r1 rv h1 => ?_
  unfold iterH at h1
  split at h1
  · rename_i xs
    obtain ⟨a, vs, rfl, na, ha, hs⟩ := rv.lstE
    exact ⟨a, rfl, ⟨vs, SqL.of ha⟩, h1 m1 H1 _ Ext.refl r1 (it_lst (fun m2 H2 E2 => SqL.of (E2.fr a _ na ha)) hs)⟩
  · rename_i n
    split at h1
    · rename_i xs hn
      obtain ⟨a, vs, rfl, hm, ha, hs⟩ := rv.lst r1 hn
      exact ⟨a, rfl, ⟨vs, SqL.of ha⟩, h1 m1 H1 _ Ext.refl r1 (it_list (S0 := S1) hm)⟩
    · exact h1.elim
  · exact h1.elim
theorem pl_lcH {t : Bool} {a : Addr} {oe : Obj} {cls : Value} {d : Option Addr} {pn : List (Addr × Obj)} (hz : L2N.Zn cls d oe) (hv : ∃ vs, oe.data = .fields vs) (hN : X.N.Nodup) (hi : PE (X.suite a ((a, oe) :: pn)) e (tL X.K T ξ W fe)) (ok : BlkOk X.N X.env.scope scope own)
    (hg : ∀ (s : Shared) (H : Hp) (C : Addr) (cl : List (Str × Addr)) (fp : List Addr), PG ((X.suite a ((a, oe) :: pn)).blk s H scope (compEnvC scope cl C X.env) fp) tg (tGC X.K T ξ (own.map (·.2)) lg))
    (ht : ∀ (s : Shared) (H : Hp) (C : Addr) (cl : List (Str × Addr)) (fp : List Addr), PTs ((X.suite a ((a, oe) :: pn)).blk s H scope (compEnvC scope cl C X.env) fp) ifs (tTest (tL X.K T ξ WF ft)))
    (he : ∀ (s : Shared) (H : Hp) (C : Addr) (cl : List (Str × Addr)) (fp : List Addr), PE ((X.suite a ((a, oe) :: pn)).blk s H scope (compEnvC scope cl C X.env) fp) elt (tL X.K T ξ WF fc)) (hs : ∀ x, foldedSetIterable e X.env x = pure x := by intro _; rfl) :
    PE (X.suite a ((a, oe) :: pn)) (.ListComp elt [⟨tg, e, ifs, 0⟩] scope pos) (tL X.K T ξ W (lLcG t (lIterH fe) lg ft fc (own.map (·.2)))) := by
  obtain ⟨fl, hfl⟩ := hv
  refine pe_imp (comp_hot (X := X.suite a ((a, oe) :: pn)) (p := (a, oe)) ⟨rfl, fl, hfl, hz.2.2 fl hfl⟩ List.mem_cons_self hN hi ok hg ht he hs) fun σ H Q h => ?_
  exact iterH_list (lc_read σ H Q h)
end
@[simp] theorem iterH_l {xs : List LV} {S : Sto} : iterH (.lst xs) S = .ok (itOf xs) S := (rfl)
theorem iterH_r {n : Nat} {xs : List LV} {S : Sto} (h : S[n]? = some (.lst xs)) : iterH (.ref n) S = .ok (itRef n xs.length) S := by simp [iterH, h]
def itH1 : R → RI
  | .ok v S => iterH v S
  | .ex c fs S => .ex c fs S
  | .no => .no
@[simp] theorem e_iterH {fa : LE} {ds : Sl} {S : Sto} : lIterH fa ds S = itH1 (fa ds S) := by unfold lIterH; cases fa ds S <;> rfl
@[simp] theorem itH1_ok {v : LV} {S : Sto} : itH1 (.ok v S) = iterH v S := (rfl)
end LL


set_option Elab.async false
set_option linter.all false
set_option maxRecDepth 100000
set_option maxHeartbeats 4000000
/-! ### sorted(d.keys()), d a dict by texts -/
namespace LL
open PySem PySem.Spec PyProof.Rows L2
section
variable {X : Cx}
/-- what sorted tells of the keys as they are seen through a view -/
theorem sort_view (hcalm : X.calm = true) {pins : List (Addr × Obj)} {s : Shared} {σ : L2.St} {H : Hp} {Q : VK} {a : Addr} {kvs : List (Key × V)} {ks : List Str} (I0 : Inv X pins σ H s) (hd : Rd H a (.dK kvs)) (hks : kvs.map (·.1) = ks.map Sum.inr) (h64 : ks.length < 64)
    (q : ∀ ys p, ys.Perm ks → sortedS ys = true → H p = none → Q (.ref p) (upd H p (.lst (ys.map V.str)))) :
    wpAny (model X.prog X.w) X.A (call (.builtin "sorted") [.ref s.heap.objs.size]) (EP X pins σ Q) X.xe { s with heap := s.heap.push { cls := .type "dict_keys", data := .fields #[.ref a] } } := by
  obtain ⟨z, lo, vs, rel, dd⟩ := dk_rd I0.hok hd
  have I : Inv X pins σ H { s with heap := s.heap.push { cls := .type "dict_keys", data := .fields #[.ref a] } } := I0.kept (t' := s.toks) fun b ob e => Heap.get?_push_of_some _ e
  obtain ⟨ep, hat⟩ := (dd.push (o := { cls := .type "dict_keys", data := .fields #[.ref a] })).dictAt
  have view : PySem.W.KdlKeysView (s.heap.push { cls := .type "dict_keys", data := .fields #[.ref a] }) s.heap.objs.size a := ⟨_, Heap.get?_push_size _ rfl, rfl, rfl⟩
  have hkeys : vs.map (·.1) = ks.map Sum.inr := rel.keys.symm.trans hks
  have hl : vs.length = ks.length := by
    have e := congrArg List.length hkeys
    rw [List.length_map, List.length_map] at e
    exact e
  have h16 : vs.length ≤ sizeLine := by rw [hl, sizeLine_eq]; omega
  refine Calls.call_function_entry PyProof.Rows.kind_sorted PyProof.Rows.plain_sorted PyProof.Rows.entry_sorted (PyProof.Rows.args_sorted1 _) ?_
  unfold Builtin.«sorted»
  refine wpAny_bind (m := checkCount "sorted" 1 1 _) (wpAny_pure ?_)
  refine wpAny_bind (PySem.W.kdu_collect (A := X.A.in1) (PySem.W.kdl_keys (knd := mixKind X.prog X.w) (kvs := vs) (ep := ep)) (I.ok.hd hcalm) ⟨view, hat⟩ h16 fun h' tk acc hk hacc => ?_)
  have hal : acc.toList.length = ks.length := by rw [Array.length_toList, hacc.1, hl]
  have hS : StrsAre acc.toList ks := strs_at hal fun j v e => by
    obtain ⟨k, x, e1, e2⟩ := hacc.2 j v (by rw [← Array.getElem?_toList]; exact e)
    have e3 : (vs.map (·.1))[j]? = some k := by rw [List.getElem?_map, e1]; all_goals rfl
    rw [hkeys, List.getElem?_map] at e3
    cases e4 : ks[j]? with
    | none => rw [e4] at e3; cases e3
    | some y =>
      rw [e4] at e3
      have e5 : Sum.inr y = k := Option.some.inj e3
      subst e5
      obtain ⟨t, ev⟩ := Value.isStrOf_shape (x := y) (v := v) e2
      exact ⟨y, t, rfl, ev⟩
  have I1 : Inv X pins σ H { s with heap := h', toks := tk } := I.kept hk
  refine wpAny_bind (wpAny_newList ?_ (by rw [hal, sizeLine_eq]; omega))
  have hoL : (h'.push (seqObj "list" acc.toList.toArray 0)).get? h'.objs.size = some (seqObj "list" acc.toList.toArray 0) := Heap.get?_push_size _ rfl
  show wpAny _ _ _ _ _ { s with heap := h'.push (seqObj "list" acc.toList.toArray 0), toks := tk }
  refine wpAny_bind (wpAny_holding (wpAny_call_entry PyProof.Rows.slot_list_sort ⟨_, hoL, rfl⟩ PyProof.Rows.entry_list_sort
    (list_sort_treeK strKind_oneLt (s := { s with heap := h'.push (seqObj "list" acc.toList.toArray 0), toks := tk }) hoL hS.keysOf (fun v₁ v₂ rest e => keyKind_strs (by rw [← e]; exact hS)) (by rw [hal]; exact h64) fun st' hp hs => ⟨_, rfl, ?_⟩)
    (PyProof.Rows.args_list_sort _)))
  obtain ⟨ys, g1, g2, g3⟩ := sorted_out_str hS hp hs
  obtain ⟨e', he'⟩ := PyProof.Rows.sortedHeap_at (vs := acc.toList) (out := (arrOf st').map (·.2)) hoL
  have hlen : (ys.map V.str).length ≤ sizeLine := by
    rw [List.length_map, g2.length_eq]
    exact Nat.le_trans (Nat.le_of_lt h64) (by decide)
  refine wpAny_pure ⟨_, rfl, .ref h'.objs.size, upd H h'.objs.size (.lst (ys.map V.str)), I1.laid (t' := tk) (fun b u e => ?_) (Nat.le_refl _)
    (show ObjOk X.prog X.w _ _ _ (.lst (ys.map V.str)) from ⟨hlen, ((arrOf st').map (·.2)).toList, e', vals_of_strs g1, by rw [Array.toArray_toList]; exact he'⟩), rfl, q ys _ g2 g3 (I1.hok.fresh (Nat.le_refl _))⟩
  have hb : b < h'.objs.size := Heap.lt_size e
  rw [PyProof.Rows.sortedHeap_old (Nat.ne_of_lt hb) (by rw [size_push']; exact Nat.lt_succ_of_lt hb)]
  exact Heap.get?_push_of_some _ e
end
noncomputable def lSortK (fe : LE) : LE := fun ds S => (fe ds S).bind fun v S1 => sortedDL [v] S1
section
variable {X : Cx} {T : Env1} {W : WX} {e : Expr} {fe : LE} {p pos apos cpos : Pos} {ξ : Xi}
theorem pl_sortK (hc : X.calm = true) (he : PE X e (tL X.K T ξ W fe)) (hg : Gl X "sorted") (hm : X.mg "sorted" = none) (hv : bootBuiltins "sorted" = some (.builtin "sorted"))
    (hbase : attributeBase e "keys" X.env (eval e X.env) = eval e X.env := by rfl) (hline : (apos.endLine == cpos.line) = true := by rfl) :
    PE X (.Call (.Name "sorted" p) [.Call (.Attribute e "keys" apos) [] [] cpos] [] pos) (tL X.K T ξ W (lSortK fe)) := by
  refine ⟨fun pins s σ H Q I h => ?_⟩
  have h2 : tL X.K T ξ W fe σ H (fun x H1 => rSrtS [x] H1 Q) := by
    obtain ⟨m, S, ds, r0, rs, h⟩ := h
    exact tL.bind r0 rs h fun v S1 m1 H1 x E r1 rs1 rv h1 => cl_sortedD _ _ _ _ _ _ _ r1 (RVs.cons rv RVs.nil) h1
  refine wpAny_Call_Name_kw (ld_blt I hg hm hv ?_ (by decide) (by decide))
  refine PyProof.Rows.callWith_builtin1 (e := .Call (.Attribute e "keys" apos) [] [] cpos) (rest := []) ?_ (by rfl) (by rfl)
  show wpAny _ _ (spliced [(false, eval (.Call (.Attribute e "keys" apos) [] [] cpos) X.env)]) _ _ s
  refine Calls.spliced_cons ?_
  refine wpAny_Call_method (T := "dict") (id := "dict.keys") hbase rfl hline F.plainAttrs_dict F.slot_dict_keys F.type_dict_keys (thn (he.run pins s σ H _ I h2) fun u s1 ⟨x, H1, I1, rx, q⟩ => ?_)
  obtain ⟨d, kvs, ks, ex, hd, hks, h64, q⟩ := q
  cases ex
  obtain rfl : u = Value.ref d := rx
  obtain ⟨z, lo, vs, rel, dd⟩ := dk_rd I1.hok hd
  refine ⟨dd.typeIs, dd.mapOf.noDict, ?_⟩
  have fin := sort_view hc I1 hd hks h64 q
  show wpAny _ _ (callWith cpos (.builtin "dict.keys") [.ref d] [] []) _ X.xe s1
  exact method_meetsIn F.slot_dict_keys F.entry_dict_keys rfl (PySem.evalArgs_none ⟨rfl, dd.typeIs, F.args_dict_keys_1 _, _, PySem.W.kdl_meets_keys (mixKind X.prog X.w) d lo, ⟨vs, dd⟩, Calls.spliced_nil fin⟩)
end
@[simp] theorem e_sortK {fe : LE} {ds : Sl} {S : Sto} {v : LV} {S1 : Sto} (h : fe ds S = .ok v S1) : lSortK fe ds S = sortedDL [v] S1 := by
  unfold lSortK
  rw [h]
  rfl
end LL


set_option Elab.async false
set_option linter.all false
set_option maxRecDepth 100000
set_option maxHeartbeats 4000000
/-! ### a def behind which nothing is dropped; z.strip(y) -/
namespace LL
open PySem PySem.Spec PyProof.Rows L2
/-- a def that leaves its store as it stands -/
noncomputable def mkFnN (n N : Nat) (g : LS) : Fn := fun xs S => if xs.length = n then fin (g (xs.map some ++ List.replicate (N - n) none) S) else .no
section
variable {P : Program} {w : World} {K : PySem.W.Frag} {mg : Str → Option Value} {base : Heap} {T : Env1}
theorem fn_okN {x qual : Str} {st : Stmt} {f : Addr} {fd : FuncData} {N ps : List Str} {k : Nat} {g : LS} (F : Fun K x qual st f fd) (S : FnScope N ps (defScope st))
    (hbody : ∀ (cdv : Value) (A : Around) (outer : List Env) (s : Shared) (H : Hp) (E : XK), Room k (A.deeper (envOfC qual (defScope st) s.heap.objs.size f cdv)) →
      PSs (cxOf (L2N.CX P w) P w K mg base N qual (defScope st) f cdv A outer s H E) (defBody st) (tLS K T ξ0 (fun cls d _ H => E cls d H) g)) : FnOk P w K mg base (L2N.CX P w) (k + 1) f fd ps (spF K T (mkFnN ps.length N.length g)) := by
  obtain ⟨oc, od, kV, doc, pm, an, cdv, ct, osl, rfl, lk, hcd⟩ := F.ex
  refine fn_of lk hcd S (fun vs H Q E h => ?_) (fun A outer s H vs Q E hr h => ⟨_, hbody cdv A outer s H E hr, ?_⟩)
  · obtain ⟨m, S', xs, r, rv, h⟩ := h
    unfold mkFnN at h
    split at h
    · rename_i hl
      rw [← rv.len, hl]
    · exact h.elim
  · obtain ⟨m, S', xs, r, rv, h⟩ := h
    refine ⟨m, S', _, r, RSl.start rv, ?_⟩
    unfold mkFnN at h
    split at h
    · rename_i hl
      rw [hl]
      cases e : g (xs.map some ++ List.replicate (N.length - ps.length) none) S' with
      | nx ds S2 =>
        rw [e] at h
        exact fun m' H' σ' E' r' rs' => h m' H' .non E' r' rfl
      | rt v S2 =>
        rw [e] at h
        exact fun m' H' x E' r' rv' => h m' H' x E' r' rv'
      | ex c fs ds S2 =>
        rw [e] at h
        exact fun m' H' σ' cls d E' r' rs' rx => h m' H' cls d E' r' rx
      | bk ds S2 => rw [e] at h; exact h.elim
      | ct ds S2 => rw [e] at h; exact h.elim
      | no => rw [e] at h; exact h.elim
    · exact h.elim
end
theorem e_fnN {vs : List LV} {S : Sto} {n N : Nat} {s : LS} (h : vs.length = n) : mkFnN n N s vs S = fin (s (vs.map some ++ List.replicate (N - n) none) S) := by unfold mkFnN; rw [if_pos h]
def stripL : OpM := fun v vs S => match v, vs with
  | .str z, [.str y] => if okStr z = true then .ok (.str (Txt.stripChars z y)) S else .no
  | _, _ => .no
def rStrip : V → List V → Hp → VK → Prop := fun x xs H Q => ∃ a b, x = .str a ∧ xs = [.str b] ∧ a.length ≤ sizeLine ∧ Q (.str (Txt.stripChars a b)) H
theorem mt_stripL {X : Cx} : MtR X "str.strip" rStrip := mt_stripChars
theorem ml_strip {K : PySem.W.Frag} {T : Env1} : MtL K T rStrip stripL := fun m S H v vs x xs Q W r rv rvs h => by
  unfold stripL at h
  split at h
  · rename_i z y
    split at h
    · rename_i hz
      obtain ⟨y', rfl, ry⟩ := rvs.one
      exact ⟨z, y, rv, by rw [show y' = .str y from ry], small_ok hz, h _ _ _ Ext.refl r rfl⟩
    · exact h.elim
  · exact h.elim
theorem strip_ok {z y : Str} {S : Sto} (hz : z.length ≤ 16777216) : stripL (.str z) [.str y] S = .ok (.str (Txt.stripChars z y)) S := by
  have h1 : okStr z = true := by simp [okStr, small, hz]
  simp [stripL, h1]
end LL


set_option Elab.async false
set_option linter.all false
set_option maxRecDepth 100000
set_option maxHeartbeats 4000000
/-! ### the least of three whole numbers -/
namespace LL
open PySem PySem.Spec PyProof.Rows L2
theorem vals3L {x y z : V} {us : List Value} (r : Vals [x, y, z] us) : ∃ u v w', us = [u, v, w'] ∧ RelV x u ∧ RelV y v ∧ RelV z w' := by
  cases r with
  | cons r1 r2 =>
    cases r2 with
    | cons r3 r4 =>
      cases r4 with
      | cons r5 r6 => cases r6; exact ⟨_, _, _, rfl, r1, r3, r5⟩
def min3I (i j k : Int) : Int := if j < i then (if k < j then k else j) else (if k < i then k else i)
def rMin3 : List V → Hp → VK → Prop := fun xs H Q => ∃ i j k, xs = [.int i, .int j, .int k] ∧ Q (.int (min3I i j k)) H
theorem cr_min3 {X : Cx} (hc : X.calm = true) : CallR X (.builtin "min") rMin3 := by
  intro pins s σ H xs us Q I r h
  obtain ⟨i, j, k, rfl, q⟩ := h
  obtain ⟨u, v, w', rfl, ⟨t, rfl⟩, ⟨t', rfl⟩, ⟨t2, rfl⟩⟩ := vals3L r
  refine min_three_ints (I.ok.hd hc) fun h' tk kk => ⟨_, H, I.kept kk, ?_, q⟩
  unfold min3I
  split <;> split <;> exact ⟨_, rfl⟩
def minU3 : OpN
  | [.int i, .int j, .int k], S => .ok (.int (min3I i j k)) S
  | _, _ => .no
theorem cl_min3 {K : PySem.W.Frag} {T : Env1} : CallL K T rMin3 minU3 := fun m S H vs xs Q W r rv h => by
  unfold minU3 at h
  split at h
  · obtain ⟨x, y, z, rfl, rx, ry, rz⟩ := rv.three
    cases (show x = .int _ from rx)
    cases (show y = .int _ from ry)
    cases (show z = .int _ from rz)
    exact ⟨_, _, _, rfl, h.here r rfl⟩
  · exact h.elim
@[simp] theorem minU3_ii {S : Sto} {i j k : Int} : minU3 [.int i, .int j, .int k] S = .ok (.int (min3I i j k)) S := (rfl)
theorem min3I_e (i j k : Int) : min3I i j k = min (min i j) k := by unfold min3I; split <;> split <;> omega
/-! ### strip -/
theorem drop_tw (p : Nat → Bool) : ∀ l : List Nat, l.drop (l.takeWhile p).length = l.dropWhile p
  | [] => rfl
  | c :: l => by
    cases h : p c with
    | true => rw [List.takeWhile_cons, List.dropWhile_cons, if_pos h, if_pos h, List.length_cons, List.drop_succ_cons, drop_tw p l]
    | false => rw [List.takeWhile_cons, List.dropWhile_cons, if_neg (by rw [h]; simp), if_neg (by rw [h]; simp)]; rfl
theorem dw_head {p : Nat → Bool} : ∀ {l : List Nat} {c : Nat}, (l.dropWhile p).head? = some c → p c = false
  | [], _, h => by simp at h
  | d :: l, c, h => by
    rw [List.dropWhile_cons] at h
    cases q : p d with
    | true => rw [if_pos q] at h; exact dw_head h
    | false =>
      rw [if_neg (by rw [q]; simp)] at h
      have : d = c := by simpa using h
      rw [← this]; exact q
theorem dw_suf (p : Nat → Bool) : ∀ l : List Nat, ∃ t, l = t ++ l.dropWhile p := fun l => ⟨l.takeWhile p, (List.takeWhile_append_dropWhile).symm⟩
theorem take_tw (p : Nat → Bool) (D : List Nat) : D.take (D.length - (D.reverse.takeWhile p).length) = (D.reverse.dropWhile p).reverse := by
  rw [← drop_tw, List.drop_reverse, List.reverse_reverse]
theorem tl_sub (x : Str) (i j : Nat) : tl (Builtin.Str.strSub x i j) = ((tl x).drop i).take (j - i) := by
  unfold Builtin.Str.strSub tl
  rw [Array.toList_extract, List.extract_eq_drop_take]
theorem tl_strip (x y : Str) : tl (Txt.stripChars x y) = ((((tl x).dropWhile y.cps.contains).reverse).dropWhile y.cps.contains).reverse := by
  unfold Txt.stripChars
  generalize y.cps.contains = p
  have e : tl (stripped p true true x) = ((((tl x).dropWhile p).reverse).dropWhile p).reverse := by
    unfold stripped stripHi stripLo
    rw [tl_sub]
    simp only [if_true]
    have h1 : (tl x).drop ((tl x).takeWhile p).length = (tl x).dropWhile p := drop_tw p _
    have h2 := take_tw p ((tl x).dropWhile p)
    have hl : ((tl x).dropWhile p).length = x.length - ((tl x).takeWhile p).length := by rw [← h1, List.length_drop, len_tl]
    rw [hl] at h2
    rw [← h2]
    show (List.take _ (List.drop ((tl x).takeWhile p).length (tl x))) = _
    rw [h1]
    congr 1
    show x.length - (((tl x).drop ((tl x).takeWhile p).length).reverse.takeWhile p).length - ((tl x).takeWhile p).length = _
    rw [h1]
    omega
  unfold Txt.stripBy
  split
  · rename_i h
    rw [← e]
    unfold stripSame at h
    simp only [Bool.and_eq_true, beq_iff_eq] at h
    unfold stripped
    rw [h.1, tl_sub]
    have h2 := h.2
    rw [h.1] at h2
    rw [h2, ← len_tl]
    simp
  · exact e
theorem strip_of (x y : Str) : (∀ c, (tl (Txt.stripChars x y)).head? = some c → y.cps.contains c = false) ∧ (∀ c, (tl (Txt.stripChars x y)).getLast? = some c → y.cps.contains c = false) ∧ (∀ c ∈ tl (Txt.stripChars x y), c ∈ tl x) ∧ (tl (Txt.stripChars x y)).length ≤ (tl x).length := by
  rw [tl_strip]
  generalize y.cps.contains = p
  obtain ⟨t1, h1⟩ := dw_suf p (tl x)
  obtain ⟨t2, h2⟩ := dw_suf p ((tl x).dropWhile p).reverse
  have h3 : (tl x).dropWhile p = (((tl x).dropWhile p).reverse.dropWhile p).reverse ++ t2.reverse := by
    have := congrArg List.reverse h2
    rw [List.reverse_reverse, List.reverse_append] at this
    exact this
  refine ⟨fun c hc => ?_, fun c hc => ?_, fun c hc => ?_, ?_⟩
  · have : ((tl x).dropWhile p).head? = some c := by
      rw [h3]
      cases q : (((tl x).dropWhile p).reverse.dropWhile p).reverse with
      | nil => rw [q] at hc; cases hc
      | cons d l => rw [q] at hc; exact hc
    exact dw_head this
  · rw [List.getLast?_reverse] at hc
    exact dw_head hc
  · rw [h1, h3]
    exact List.mem_append_right _ (List.mem_append_left _ hc)
  · have a := congrArg List.length h1
    have b := congrArg List.length h3
    rw [List.length_append] at a b
    omega
/-! ### a list, tracked or not -/
section
variable {S : Sto} {v : LV} {vs : List LV}
theorem ls_iter (h : lsO v S = some vs) : ∃ l, iterO v S = .ok l S ∧ ItIs S l vs ∧ enumO [v] S = .ok (enumI l) S := by
  rcases ls_cases h with rfl | ⟨n, rfl, hn⟩
  · exact ⟨_, rfl, .of, rfl⟩
  · exact ⟨_, iter_r hn, .ref hn, by simp [enumO, hn]⟩
theorem ls_len (h : lsO v S = some vs) : lenL [v] S = .ok (.int vs.length) S := by
  rcases ls_cases h with rfl | ⟨n, rfl, hn⟩
  · rfl
  · exact len_r hn
theorem ls_isi (h : lsO v S = some vs) : isiL [v, .ty "list"] S = .ok (.bl true) S := by
  rcases ls_cases h with rfl | ⟨n, rfl, hn⟩
  · rfl
  · rw [isi_r hn]; rfl
theorem ls_nx (h : lsO v S = some vs) : isX v = false := by
  rcases ls_cases h with rfl | ⟨n, rfl, hn⟩ <;> rfl
end
/-- a for with a count that may end early -/
theorem for_gi {α β J : Type} {lg : LG} {fb : LS} {l : LIt} {ws : List β} {g : β → LV} (D : α → J → Sl) (T : α → Sto) (step : α → β → Except RS α) (P : Nat → α → Prop) (hl : ∀ i a, P i a → ItIs (T a) l (ws.map g))
    (h : ∀ i b, ws[i]? = some b → ∀ a j, P i a → match step a b with
      | .ok a' => P (i + 1) a' ∧ ∃ j', turn lg fb (g b) (D a j) (T a) = .nx (D a' j') (T a')
      | .error r => turn lg fb (g b) (D a j) (T a) = r ∧ (match r with | .nx _ _ => False | .ct _ _ => False | .bk _ _ => False | _ => True)) (a : α) (j : J) (p : P 0 a) :
    match ws.foldlM step a with
      | .ok a' => P ws.length a' ∧ ∃ j', forS lg fb (D a j) (.ok l (T a)) = .nx (D a' j') (T a')
      | .error r => forS lg fb (D a j) (.ok l (T a)) = r := by
  have := forK_idx (lg := lg) (fb := fb) (l := l) (ws := ws) (g := g) D T step P hl h ws.length 0 a j (by omega) p
  rw [List.drop_zero] at this
  have e : forS lg fb (D a j) (.ok l (T a)) = forK l lg fb ws.length 0 (D a j) (T a) := by
    show forK l lg fb l.n 0 _ _ = _
    rw [(hl 0 a p).n, List.length_map]
  rw [e]
  exact this
/-! ### days of months -/
def dayAt (k p : Int) : Int := monF k + min p (mlen (monY k) (monM k)) - 1
theorem mon_ix (k : Int) : 12 * (monY k - 2000) + monM k - 1 = k := by unfold monY monM; omega
/-- taking while -/
theorem foldlM_while {β : Type} (d : β → Int) (u : Int) (r : List Int → RS) : ∀ (ws : List β) (acc : List Int),
    ws.foldlM (fun (acc : List Int) b => if u < d b then (.error (r acc) : Except RS (List Int)) else .ok (acc ++ [d b])) acc = if (ws.all fun b => decide (d b ≤ u)) = true then .ok (acc ++ ws.map d) else .error (r (acc ++ (ws.map d).takeWhile fun x => decide (x ≤ u)))
  | [], acc => by rw [List.foldlM_nil]; simp; rfl
  | b :: ws, acc => by
    rw [List.foldlM_cons]
    by_cases h : u < d b
    · rw [if_pos h]
      have h2 : ¬ d b ≤ u := by omega
      simp [h2]
      rfl
    · rw [if_neg h]
      have h2 : d b ≤ u := by omega
      show ws.foldlM _ (acc ++ [d b]) = _
      rw [foldlM_while d u r ws (acc ++ [d b])]
      simp [h2]
end LL


set_option Elab.async false
set_option linter.all false
set_option maxRecDepth 100000
set_option maxHeartbeats 4000000
/-! ### an exception with a field: class C: def __init__(self, currency): self.currency = currency -/
namespace LL
open PySem PySem.Spec PyProof.Rows L2
abbrev curF : Str := ("currency" : Str)
/-- the promise of such an __init__ -/
def spXi (K : PySem.W.Frag) : Sp := fun vs H Q _ => ∃ (a C : Addr) (x : V), vs = [.ref a, x] ∧ OexC K C ∧ PySem.W.findIn K (.ref C) curF = some none ∧ H a = some (exo a C none) ∧ ∀ dx, H dx = none → dx ≠ a → Q .non (upd (upd H dx (exd dx [(curF, x)])) a (exo a C (some dx)))
theorem init_okX {P : Program} {w : World} {K : PySem.W.Frag} {mg : Str → Option Value} {base : Heap} {st : Stmt} {q : Str} {fI : Addr} {fd : FuncData} {k : Nat} {p1 p2 p3 p4 : Pos} (F : Fun K "__init__" q st fI fd) (S : FnScope ["self", curF] ["self", curF] (defScope st)) (hb : defBody st = [.Assign [.Attribute (.Name "self" p1) curF p2] (.Name curF p3) p4]) :
    FnOk P w K mg base (L2N.CX P w) (k + 1) fI fd ["self", curF] (spXi K) := by
  obtain ⟨oc, od, kV, doc, pm, an, cdv, ct, osl, rfl, lk, hcd⟩ := F.ex
  refine fn_of lk hcd S (fun vs H Q E h => ?_) (fun A outer s H vs Q E hr h => ?_)
  · obtain ⟨a, C, x, rfl, _⟩ := h
    rfl
  · rw [hb]
    refine ⟨_, pss_one (ps_ost (pe_var (i := 0) rfl ((S.par _ (by simp)).elim Or.inl fun q => Or.inr (Or.inl q))) (pe_var (i := 1) rfl ((S.par _ (by simp)).elim Or.inl fun q => Or.inr (Or.inl q))) rfl), ?_⟩
    obtain ⟨a, C, x, rfl, T, hno, e, h⟩ := h
    exact ⟨x, rfl, .ref a, rfl, a, C, rfl, T, hno, .inl ⟨e, h⟩⟩
/-- made, with its field (calm, among contexts of L2N) -/
theorem mkN_oex {X : Cx} {CX : CXT} {x : Str} {e : Expr} {es : List Expr} {ta : TA} {p pos : Pos} {C fI : Addr} {k : Nat} {fd : FuncData} {ps : List Str} {sp : Sp} (OX : OexC X.K C) (hI : PySem.W.findIn X.K (.ref C) "__init__" = some (some (.ref fI))) (hT : PySem.W.typeIn X.K (.ref fI) = some (.type "function"))
    (G : FnOk X.prog X.w X.K X.mg X.base CX k fI fd ps sp) (room : Room (k + 1) X.A) (hb : Binds X.K fd ps []) (pass : Passes CX X (fun _ _ _ => False)) (hg : Gl X x) (hm : X.mg x = some (.ref C)) (ha : PA X (e :: es) ta)
    (hdb : (x == ("__debug__" : Str)) = false := by decide) (he : starEach (e :: es) X.env = (false, eval e X.env) :: starEach es X.env := by rfl) (hpl : (backTo pos (starEach es X.env)).any (·.1) = false := by rfl) :
    L2N.PMk X (.Call (.Name x p) (e :: es) [] pos) (tMkO C sp [] ta) := fun pins s0 σ H Q I h => by
  have cl := OX.cls
  refine wpAny_Call_Name_kw (ld_glob I hg hm ?_ hdb)
  refine PySem.W.callWith_K (h₀ := X.base) I.ok.mod.kin OX.kC (thn (ha.run pos pins s0 σ H _ I h) fun us s1 ⟨vs, H1, J1, rel, small, q1⟩ => ⟨J1.kIn, ?_⟩) he hpl
  show wpAny _ _ (call (.ref C) us) _ _ _
  have new : s1.heap.objs.size ≤ s1.heap.objs.size + 1 := Nat.le_succ _
  have free : H1 (s1.heap.objs.size + 1) = none := J1.hok.fresh new
  have prom := q1 _ free
  rw [List.append_nil] at prom
  have few : us.length ≤ sizeLine := by have := rel.length; rw [sizeLine_eq]; omega
  have old : ∀ b o, s1.heap.get? b = some o → ((s1.heap.push (PySem.W.kdv_tup us)).push (PySem.HandSPX.excO C s1.heap.objs.size)).get? b = some o := fun b o z => Heap.get?_push_of_some _ (Heap.get?_push_of_some _ z)
  have there : ((s1.heap.push (PySem.W.kdv_tup us)).push (PySem.HandSPX.excO C s1.heap.objs.size)).get? (s1.heap.objs.size + 1) = some (PySem.HandSPX.excO C s1.heap.objs.size) := by heap_get
  have J2 := J1.laid (t' := s1.toks) (a := s1.heap.objs.size + 1) (o := exo (s1.heap.objs.size + 1) C none) (h' := (s1.heap.push (PySem.W.kdv_tup us)).push (PySem.HandSPX.excO C s1.heap.objs.size)) old new (exo_ok there)
  have relS : Vals (V.ref (s1.heap.objs.size + 1) :: vs) (Value.ref (s1.heap.objs.size + 1) :: us) := .cons rfl rel
  have lens : (Value.ref (s1.heap.objs.size + 1) :: us).length = ps.length := by rw [← relS.length]; exact G.len _ _ _ _ prom
  have bind := hb _ (Value.ref (s1.heap.objs.size + 1) :: us) J2.kIn (by rw [List.append_nil]; exact lens)
  rw [List.append_nil] at bind
  obtain ⟨nm, q, N, bs, bm, sn, sub, ab, col, dd, k0, k1, k2, k3, k5, hC, hbm⟩ := cl
  refine wpAny_call (PySem.HandSPX.call_own F.excBase_ValueError (fun Y => PySem.HandSPX.refsVE_contains Y bm hbm) (J1.kIn _ _ hC) (PySem.W.looks_findIn J1.kIn hI) (fun self => PySem.W.bind_fn J1.kIn self hT) few
    (codeAny_mono (G.run _ X.stack _ _ ⟨Value.ref (s1.heap.objs.size + 1) :: us, []⟩ _ _ _ (fun _ _ _ => False) (room.make C us []) (J2.env0.make C us []) bind relS prom) fun r s2 end' => ?_))
  match r, end' with
  | .error er, end' => exact pass pins σ _ _ er s2 J2 end'
  | .ok (.ret u), end' =>
    obtain ⟨v, H2, os2, bare2, un2, hok2, rv, rfl, d, fs, ea, ed, hd1, q2⟩ := end'
    obtain ⟨t0, GG, JJ, kG, ge, hoe, na⟩ := mk_end0 (d2 := s2.drawn) (t2 := s2.toks) J1 new old un2 hok2 os2 bare2 ea ed hd1
    exact ⟨rv, s1.heap.objs.size + 1, _, _, ⟨GG, s2.gens, s2.drawn, s2.toks, s2.os⟩, _, .ref C, some d, rfl, JJ, kG, ge, hoe, ⟨rfl, rfl, fun vs hv => by cases hv; rfl⟩, rfl, rfl, na, rfl, bare2, raises_own OX.exC OX.tyC, q2⟩
  | .ok .next, end' => exact False.elim end'
  | .ok .brk, end' => exact False.elim end'
  | .ok .cont, end' => exact False.elim end'
/-- raise C(v), c the code of C -/
def lRaiseF (c : Nat) (fe : LE) : LS := fun ds S => bindS (fe ds S) ds fun v S1 => .ex c [v] ds S1
theorem sl_raiseF {X : Cx} {T : Env1} {W : WX} {x : Str} {C fI : Addr} {k c : Nat} {fd : FuncData} {e : Expr} {fe : LE} {p pos pos2 : Pos} (hc : X.calm = true) (tk : L2N.Takes X W) (hC : T.ca c = C) (OX : OexC X.K C) (hno : PySem.W.findIn X.K (.ref C) curF = some none)
    (hI : PySem.W.findIn X.K (.ref C) "__init__" = some (some (.ref fI))) (hT : PySem.W.typeIn X.K (.ref fI) = some (.type "function")) (G : FnOk X.prog X.w X.K X.mg X.base (L2N.CX X.prog X.w) k fI fd ["self", curF] (spXi X.K)) (hr : Room (k + 1) X.A) (hb : Binds X.K fd ["self", curF] [])
    (hg : Gl X x) (hm : X.mg x = some (.ref C)) (he : PE X e (tL X.K T ξ0 W fe)) (hdb : (x == ("__debug__" : Str)) = false := by decide) (hs : starEach [e] X.env = (false, eval e X.env) :: starEach [] X.env := by rfl) (hpl : (backTo pos (starEach [] X.env)).any (·.1) = false := by rfl) :
    PS X (.Raise (some (.Call (.Name x p) [e] [] pos)) none pos2) (tLS X.K T ξ0 W (lRaiseF c fe)) :=
  ps_imp (L2N.ps_raise hc tk (mkN_oex OX hI hT G hr hb pass_no hg hm (pa_cons he pa_nil hs) hdb hs hpl)) fun D σ H ⟨m, S, ds, r, rs, h⟩ => by
    refine tL.bindS r rs h fun v S1 m1 H1 y E r1 rs1 rv h1 => ?_
    refine ⟨by simp, fun a ha => ⟨a, C, y, rfl, OX, hno, upd_same, fun dx hdx ne => ⟨rfl, dx, [(curF, y)], ?_⟩⟩⟩
    have hd1 : H1 dx = none := by rwa [upd_ne ne] at hdx
    refine ⟨upd_same, by rw [upd_ne ne, upd_same], hd1, ?_⟩
    have e : upd (del (upd (upd (upd H1 a (exo a C none)) dx (exd dx [(curF, y)])) a (exo a C (some dx))) a) dx (.xd [(curF, y)]) = upd H1 dx (.xd [(curF, y)]) := by
      funext b
      by_cases h1 : b = dx
      · subst h1
        rw [upd_same, upd_same]
      · rw [upd_ne h1, upd_ne h1]
        by_cases h2 : b = a
        · subst h2
          rw [del_same, ha]
        · rw [del_ne h2, upd_ne h2, upd_ne h1, upd_ne h2]
    rw [e]
    have E1 : Ext m1 H1 m1 (upd H1 dx (.xd [(curF, y)])) := Ext.side hd1
    exact h1 m1 _ σ (.ref C) (some dx) E1 (r1.side hd1) (rs1.mono E1) ⟨by rw [hC], .inr ⟨v, y, dx, rfl, rfl, r1.out hd1, upd_same, rv.mono E1⟩⟩
/-- e.currency, e the exception that was caught, in the slot i, of the class of the code k -/
def lXf (i k : Nat) : LE := fun ds S => match ds[i]? with
  | some (some (.exc c [v])) => if c = k then .ok v S else .no
  | _ => .no
theorem pl_xf {X : Cx} {T : Env1} {W : WX} {a C : Addr} {oe : Obj} {cls : Value} {d : Option Addr} {pn : List (Addr × Obj)} {i k : Nat} {y : Str} {pe pos : Pos} (TF : XfC X.K C) (hC : T.ca k = C) (hno : PySem.W.findIn X.K (.ref C) curF = some none)
    (hz : L2N.Zn cls d oe) (hv : ∃ vs, oe.data = .fields vs) (hN : X.N[i]? = some y := by rfl) (hvv : Vis X.env.scope y := by first | exact Or.inl rfl | exact Or.inr (Or.inl rfl) | exact Or.inr (Or.inr rfl)) (hd : (y == ("__debug__" : Str)) = false := by decide)
    (hcd : (y == ("__classdict__" : Str)) = false := by decide) (hb : attributeBase (.Name y pe) curF X.env (eval (.Name y pe) X.env) = eval (.Name y pe) X.env := by rfl) :
    PE (X.suite a ((a, oe) :: pn)) (.Attribute (.Name y pe) curF pos) (tL X.K T (ξE T a cls d) W (lXf i k)) := by
  refine ⟨fun pins s σ H Q I h => ?_⟩
  obtain ⟨m, S, ds, r, rs, h⟩ := h
  unfold lXf at h
  split at h
  · rename_i c v hi
    split at h
    · rename_i ck
      obtain ⟨xx, h1, a', d', rfl, ⟨ea, ec, ed⟩, xd⟩ := rs.at_ i _ hi
      subst ea ec ed
      rcases xd with ⟨e, _⟩ | ⟨v', x, dd, e, e1, nm, hH, rv⟩
      · cases e
      · cases e
        subst e1
        refine (pe_xf (X := X) (a := a') (C := C) TF hno hz.zc hv (pe_var (i := i) hN hvv hd hcd) hb).run pins s σ H Q I ?_
        exact ⟨.ref a', h1, rfl, by rw [ck, hC], dd, _, x, rfl, hH, rfl, h m H x Ext.refl r rv⟩
    · exact h.elim
  · exact h.elim
@[simp] theorem xf_S {i k : Nat} {x : Option LV} {ds : Sl} {S : Sto} : lXf (i + 1) k (x :: ds) S = lXf i k ds S := by simp [lXf]
@[simp] theorem xf_0 {k : Nat} {v : LV} {ds : Sl} {S : Sto} : lXf 0 k (some (.exc k [v]) :: ds) S = .ok v S := by simp [lXf]
section
variable {c : Nat} {fe : LE} {ds : Sl} {S : Sto} {v : LV} {fs : List LV}
def raise1 (c : Nat) (ds : Sl) : R → RS
  | .ok v S => .ex c [v] ds S
  | .ex d fs S => .ex d fs ds S
  | .no => .no
theorem e_raiseF : lRaiseF c fe ds S = raise1 c ds (fe ds S) := by unfold lRaiseF; cases fe ds S <;> rfl
@[simp] theorem raise1_ok : raise1 c ds (.ok v S) = .ex c [v] ds S := (rfl)
end
end LL


set_option Elab.async false
set_option linter.all false
set_option maxRecDepth 100000
set_option maxHeartbeats 4000000
/-! ### sets of texts: made of a list, told by sorted -/
namespace LL
open PySem PySem.Spec PyProof.Rows L2
/-- a text more, where it isn't there -/
def addZ (zs : List Str) (z : Str) : List Str := if z ∈ zs then zs else zs ++ [z]
theorem addZ_mem {zs : List Str} {z c : Str} : c ∈ addZ zs z ↔ c ∈ zs ∨ c = z := by
  unfold addZ
  split
  · rename_i m
    exact ⟨.inl, fun q => q.elim id fun e => e ▸ m⟩
  · rw [List.mem_append, List.mem_singleton]
theorem addZ_nd {zs : List Str} {z : Str} (d : zs.Nodup) : (addZ zs z).Nodup := by
  unfold addZ
  split
  · exact d
  · rename_i m
    exact List.nodup_append.mpr ⟨d, by simp, fun x hx y hy e => m (by rw [List.mem_singleton.mp hy] at e; exact e ▸ hx)⟩
theorem addZ_len {zs : List Str} {z : Str} : (addZ zs z).length ≤ zs.length + 1 := by
  unfold addZ
  split
  · omega
  · simp
def vTx (en : Int × Value) : Str := match en.2 with
  | .str z _ => z
  | _ => ⟨#[]⟩
/-- an object that is a set of just these texts, its table one that can be walked -/
structure TxO (P : Program) (w : World) (o : Obj) (zs : List Str) (en : Array (Int × Value)) (ep : Nat) (tb : SetTable) : Prop where
  ex : o.ExactSet
  da : o.data = .set en ep tb
  el : ElemsOf (strKind P w) en.toList
  pm : (en.toList.map vTx).Perm zs
  nd : zs.Nodup
  sm : zs.length < scanBound
  ft : tb.fits en.size = true
  rs : Ris tb.place.toList
  ld : w.params.followText "set-order" = true ∨ tb.led = true
def TxS (P : Program) (w : World) (h : Heap) (a : Addr) (zs : List Str) : Prop := ∃ o en ep tb, h.get? a = some o ∧ TxO P w o zs en ep tb
section
variable {P : Program} {w : World} {A : Around} {E : Value → Shared → Prop} {s : Shared} {a : Addr} {zs : List Str} {o : Obj} {en : Array (Int × Value)} {ep : Nat} {tb : SetTable}
theorem TxO.size (T : TxO P w o zs en ep tb) : en.size = zs.length := by
  have q := T.pm.length_eq
  rwa [List.length_map, Array.length_toList] at q
theorem TxS.keep {h h' : Heap} (T : TxS P w h a zs) (k : ∀ o, h.get? a = some o → h'.get? a = some o) : TxS P w h' a zs := by
  obtain ⟨o, en, ep, tb, g, r⟩ := T
  exact ⟨o, en, ep, tb, k o g, r⟩
theorem vTx_is {l : List (Int × Value)} (el : ElemsOf (strKind P w) l) {x : Int × Value} (m : x ∈ l) (z : Str) : (strKind P w).is z x.2 = true ↔ vTx x = z := by
  obtain ⟨⟨k, hk, _⟩, _⟩ := el x m
  obtain ⟨t, e⟩ := Value.isStrOf_shape (x := k) (v := x.2) hk
  unfold vTx
  rw [e]
  show (k == z) = true ↔ k = z
  exact beq_iff_eq
/-- where a text is found -/
theorem find_tx (T : TxO P w o zs en ep tb) (z : Str) : (en.toList.findIdx? fun x => (strKind P w).is z x.2).isSome = decide (z ∈ zs) := by
  rw [Bool.eq_iff_iff, decide_eq_true_eq, ← T.pm.mem_iff, List.mem_map, List.findIdx?_isSome, List.any_eq_true]
  exact ⟨fun ⟨x, m, q⟩ => ⟨x, m, (vTx_is T.el m z).1 q⟩, fun ⟨x, m, q⟩ => ⟨x, m, (vTx_is T.el m z).2 q⟩⟩
/-- the store behind -/
theorem put_set {h : Heap} {en' : Array (Int × Value)} {tb' : SetTable} (g : h.get? a = some o) (d : o.data = .set en ep tb) : (h.update a (Obj.putSet en' tb')).get? a = some { o with data := .set en' (ep + 1) tb' } := by
  have e := putSet_of en' tb' d
  exact (Heap.get?_update_self _ g (by rw [e]; rfl)).trans (congrArg some e)
theorem tx_tail {f : Bool → Sem Unit} (hf : ∀ (b : Bool) (s1 : Shared) (R : Unit → Shared → Prop), R () s1 → wpAny (model P w) A (f b) R E s1) (ga : s.heap.get? a = some o) (ex : o.ExactSet) (d : o.data = .set en ep tb)
    {l : Array (Int × Value)} {t : SetTable} (T : TxO P w { o with data := .set l (ep + 1) t } zs l (ep + 1) t) {old : Bool} {R : Option Bool → Shared → Prop}
    (hR : ∀ h1, Heap.SameBut a s.heap h1 → TxS P w h1 a zs → R (some true) { s with heap := h1 }) :
    wpAny (model P w) A (do
        storeSet a l t
        if (!old && t.tooFull) = true then do
            f (relayAll t l (SetTable.grown l.size)).2.2
            storeSet a (relayAll t l (SetTable.grown l.size)).1 (relayAll t l (SetTable.grown l.size)).2.1
            pure (some true)
          else pure (some true)) R E s := by
  have sm := fits_of_scanBound (show l.size < scanBound by rw [T.size]; exact T.sm)
  refine wpAny_bind (wpAny_storeSet_of ga d ?_ sm)
  have g1 := put_set (en' := l) (tb' := t) ga d
  have sb := Heap.SameBut.update s.heap a (Obj.putSet l t)
  by_cases c : (!old && t.tooFull) = true
  · rw [if_pos c]
    have p2 := relayAll_perm t l (SetTable.grown l.size)
    have z2 : (relayAll t l (SetTable.grown l.size)).1.size = l.size := by
      rw [← Array.length_toList, p2.length_eq, Array.length_toList]
    refine wpAny_bind (hf _ _ _ (wpAny_bind (wpAny_storeSet_of g1 rfl ?_ (by rw [z2]; exact sm))))
    have T2 : TxO P w { o with data := .set (relayAll t l (SetTable.grown l.size)).1 (ep + 1 + 1) (relayAll t l (SetTable.grown l.size)).2.1 } zs (relayAll t l (SetTable.grown l.size)).1 (ep + 1 + 1) (relayAll t l (SetTable.grown l.size)).2.1 :=
      { ex := ex, da := rfl, el := T.el.perm p2, pm := (p2.map vTx).trans T.pm, nd := T.nd, sm := T.sm, ft := relayAll_fits t l _, rs := relayAll_ris t l _, ld := T.ld.imp id fun q => (relayAll_led t l _).trans q }
    exact wpAny_pure (hR _ (sb.trans (Heap.SameBut.update _ a _)) ⟨_, _, _, _, put_set g1 rfl, T2⟩)
  · rw [if_neg c]
    exact wpAny_pure (hR _ sb ⟨_, _, _, _, g1, T⟩)
/-- set.add of a text whose hash is known -/
theorem tx_add {z : Str} {tk : Tok} {R : Bool → Shared → Prop} (T : TxS P w s.heap a zs) (room : zs.length + 1 < scanBound) (hR : ∀ h1 b, Heap.SameBut a s.heap h1 → TxS P w h1 a (addZ zs z) → R b { s with heap := h1 }) :
    wpAny (model P w) A (setAddHashed a (.str z tk) ((strKind P w).hash z)) R E s := by
  obtain ⟨o, en, ep, tb, ga, T⟩ := T
  have hk : (strKind P w).is z (.str z tk) = true := strKind_is P w z tk
  have fnd := find_tx T z
  unfold setAddHashed setAddHashedIn
  refine wpAny_holding (wpAny_bind (wpAny_setState_of ga T.da T.ft ?_))
  dsimp only
  rw [byScan_of rfl (show en.size < scanBound by rw [T.size]; exact T.sm) T.el]
  simp only [↓reduceIte]
  unfold setAddByScan
  refine wpAny_bind (wpAny_bind (wpAny_rule (wpAny_bind (wpAny_setScan_of hk ga T.da T.ft T.el ?_))))
  cases hf : List.findIdx? (fun x => (strKind P w).is z x.2) en.toList with
  | some j =>
    rw [hf] at fnd
    have m : z ∈ zs := of_decide_eq_true fnd.symm
    dsimp only
    refine wpAny_pure (wpAny_pure (hR s.heap _ (Heap.SameBut.refl a s.heap) ?_))
    unfold addZ
    rw [if_pos m]
    exact ⟨o, en, ep, tb, ga, T⟩
  | none =>
    rw [hf] at fnd
    have m : z ∉ zs := of_decide_eq_false fnd.symm
    dsimp only
    have give : ∀ (b : Bool) {s1 : Shared} {R1 : Unit → Shared → Prop}, R1 () s1 → wpAny (model P w) A (match b with | true => rule "set.scan.the-table-gave-way" | false => pure ()) R1 E s1 := fun b s1 R1 q => by
      cases b
      · exact wpAny_pure q
      · exact wpAny_rule q
    have p1 := layNew_perm tb en ((strKind P w).hash z) (.str z tk)
    have f1 := layNew_fits tb en ((strKind P w).hash z) (.str z tk)
    have r1 := layNew_ris tb en ((strKind P w).hash z) (.str z tk) T.rs
    have l1 := layNew_led tb en ((strKind P w).hash z) (.str z tk)
    generalize layNew tb en ((strKind P w).hash z) (.str z tk) = L at p1 f1 r1 l1 ⊢
    obtain ⟨l, t, old, gave⟩ := L
    dsimp only at p1 f1 r1 l1 ⊢
    rw [Array.toList_push] at p1
    have pz : (l.toList.map vTx).Perm (addZ zs z) := by
      unfold addZ
      rw [if_neg m]
      refine (p1.map vTx).trans ?_
      rw [List.map_append]
      exact List.Perm.append T.pm (List.Perm.refl _)
    have base : ∀ t2 : SetTable, t2.fits l.size = true → Ris t2.place.toList → (w.params.followText "set-order" = true ∨ t2.led = true) → TxO P w { o with data := .set l (ep + 1) t2 } (addZ zs z) l (ep + 1) t2 := fun t2 f2 r2 l2 =>
      { ex := T.ex, da := rfl, el := (T.el.push hk rfl).perm p1, pm := pz, nd := addZ_nd T.nd, sm := Nat.lt_of_le_of_lt addZ_len room, ft := f2, rs := r2, ld := l2 }
    have ld1 : w.params.followText "set-order" = true ∨ t.led = true := T.ld.imp id fun q => l1.trans q
    refine wpAny_bind (give _ ?_)
    by_cases c : t.plain = true
    · rw [if_pos c]
      refine wpAny_bind ?_
      rw [hashByValue_scannable 8 (x := .str z tk) rfl]
      refine wpAny_pure ?_
      refine tx_tail (fun b s1 R1 q => by cases b <;> first | exact wpAny_pure q | exact wpAny_rule q) ga T.ex T.da (zs := addZ zs z) ?_ fun h1 sb q => wpAny_pure (hR h1 _ sb q)
      first
        | (split <;> exact base _ (by first | exact f1 | exact SetTable.fits_plain_off f1) r1 ld1)
        | exact base _ f1 r1 ld1
    · rw [if_neg c]
      refine wpAny_bind (wpAny_pure ?_)
      simp only [↓reduceIte]
      exact tx_tail (fun b s1 R1 q => by cases b <;> first | exact wpAny_pure q | exact wpAny_rule q) ga T.ex T.da (zs := addZ zs z) (base _ f1 r1 ld1) fun h1 sb q => wpAny_pure (hR h1 _ sb q)
/-- the loop of set(..): texts that come one by one -/
theorem tx_loop {J : Addr} {fp wr : List Addr} {G : Array GenState → Array GenState → Prop} {n : Nat} {Pv : Nat → Value → Prop} {St : Nat → Shared → Prop} {R : Result → Shared → Prop} (W : WalksS P w A.in1 J fp wr G n Pv St)
    (af : a ∉ fp) (zs : List Str) (hn : n = zs.length) (room : zs.length + 1 < scanBound) (val : ∀ i v, Pv i v → ∃ z t, zs[i]? = some z ∧ v = .str z t) :
    ∀ (m i : Nat) (s : Shared), n - i = m → i ≤ n → St i s → TxS P w s.heap a ((zs.take i).foldl addZ []) →
      (∀ s1, Moved (a :: wr) G s s1 → TxS P w s1.heap a (zs.foldl addZ []) → R (.ok (.ret .none)) s1) → codeAny (model P w) A (.builtin "set.update.loop" ⟨[.ref a, .ref J], []⟩) R s := by
  have aw : a ∉ wr := fun q => af (W.sub _ q)
  have up : ∀ b ∈ wr, b ∈ a :: wr := fun b q => List.mem_cons_of_mem _ q
  intro m
  induction m with
  | zero =>
    intro i s em le st T fin
    obtain rfl : i = n := by omega
    refine codeAny_builtin F.entry_set_update_loop ?_
    rw [Around.under_plainId F.plain_set_update_loop _]
    show wpAny _ A.in1 (pyNext (.ref J) >>= _) _ _ s
    refine wpAny_bind (W.done s _ _ st fun s1 mv => ?_)
    show wpAny _ A.in1 (ret Value.none) _ _ s1
    rw [List.take_of_length_le (Nat.le_of_eq hn.symm)] at T
    exact wpAny_pure (fin s1 (mv.mono up) (T.keep fun ob e => mv.heap a ob aw e))
  | succ m ih =>
    intro i s em le st T fin
    have lt : i < n := by omega
    refine codeAny_builtin F.entry_set_update_loop ?_
    rw [Around.under_plainId F.plain_set_update_loop _]
    show wpAny _ A.in1 (pyNext (.ref J) >>= _) _ _ s
    refine wpAny_bind (W.item i s _ _ lt st fun v s1 pv st1 mv => ?_)
    obtain ⟨z, tk, gz, rfl⟩ := val i v pv
    have T1 := T.keep (h' := s1.heap) fun ob e => mv.heap a ob aw e
    have few : ((zs.take i).foldl addZ []).length ≤ i := by
      have q : ∀ (l ys : List Str), (l.foldl addZ ys).length ≤ ys.length + l.length := by
        intro l
        induction l with
        | nil => intro ys; exact Nat.le_refl _
        | cons x l il =>
          intro ys
          have q1 := il (addZ ys x)
          have q2 := addZ_len (zs := ys) (z := x)
          rw [List.foldl_cons, List.length_cons]
          omega
      have q3 := q (zs.take i) []
      rw [List.length_take, List.length_nil] at q3
      omega
    have ez : (zs.take (i + 1)).foldl addZ [] = addZ ((zs.take i).foldl addZ []) z := by
      rw [List.take_add_one, gz, List.foldl_append]
      rfl
    show wpAny _ A.in1 (holding [Value.str z tk] (setAdd a (.str z tk)) >>= _) _ _ s1
    refine wpAny_bind (wpAny_holding ?_)
    unfold setAdd
    refine wpAny_holding (wpAny_bind ((strKind P w).pyHash (k := z) (strKind_is P w z tk) ?_))
    refine tx_add (s := { s1 with toks := s1.toks + 1 }) T1 (by omega) fun h1 bb sb T2 => ?_
    rw [← ez] at T2
    refine wpAny_pure ⟨plainId_quiet F.plain_set_update_loop _, ih (i + 1) _ (by omega) lt (W.frame _ s1 _ _ st1 (Nat.le_succ _) fun b hb ob e => ?_) T2 fun s2 mv2 T3 => fin s2 (Moved.trans W.gtrans ((mv.mono up).then_heap (Nat.le_succ _) fun b ob hb e => ?_) mv2) T3⟩
    · exact (sb.2 b fun q : b = a => af (q ▸ hb)).trans e
    · exact (sb.2 b fun q : b = a => hb (q ▸ List.mem_cons_self)).trans e
/-- the object that set() makes -/
def set0 (w : World) : Obj := { cls := .type "set", dict := none, data := .set #[] 0 (.fresh 0 0 (!w.params.followText "set-order")) }
theorem led0 (w : World) : w.params.followText "set-order" = true ∨ (SetTable.fresh 0 0 (!w.params.followText "set-order")).led = true := by
  by_cases c : w.params.followText "set-order" = true
  · exact .inl c
  · rw [Bool.not_eq_true] at c
    rw [c]
    exact .inr rfl
theorem tx_nil {h : Heap} (g : h.get? a = some (set0 w)) : TxS P w h a [] :=
  ⟨_, #[], 0, _, g, { ex := ⟨rfl, rfl, rfl⟩, da := rfl, el := (fun x m => by simp at m), pm := List.Perm.refl _, nd := List.nodup_nil, sm := by decide, ft := by rfl, rs := List.Pairwise.nil, ld := led0 w }⟩
/-- set(xs), xs a list of texts -/
theorem tx_make {l : Addr} {its : Array Value} {zs : List Str} {R : Value → Shared → Prop} (hh : A.handled = none) (hl : s.heap.IsList l its) (ht : StrsAre its.toList zs) (room : zs.length + 1 < scanBound)
    (fin : ∀ (h1 : Heap) (tk : Nat), TxS P w h1 s.heap.objs.size (zs.foldl addZ []) → (∀ b ob, s.heap.get? b = some ob → h1.get? b = some ob) → s.heap.objs.size < h1.objs.size → R (.ref s.heap.objs.size) { s with heap := h1, toks := tk }) :
    wpAny (model P w) A (call (.type "set") [.ref l]) R E s := by
  have esz : its.size = zs.length := by
    have q := StrsAre.length ht
    rwa [Array.length_toList] at q
  obtain ⟨c, tl, hmro⟩ := F.called_set.mro
  have hmade := F.called_set.made
  have hsub := F.called_set.sub
  refine wpAny_call (codeAny_of_tree (show wpAny _ _ (callAny (.type "set") _) _ _ _ from wpAny_pure ⟨Code.quiet_builtin _ (by decide +kernel), codeAny_builtin F.entry_type_call ?_⟩))
  rw [Around.under_plain (weight_type_call_type "set" [.ref l] []) rfl]
  have q1 := F.called_set.notType
  have q2 := F.called_set.canCreate
  have q3 := F.typeCall_set_1 (.ref l)
  repeat (any_goals (first | assumption | wp_step))
  refine codeAny_mono (code_set_led1 (.ref l) (E := E) (Q₁ := fun ob s1 => ob = .ref s.heap.objs.size ∧ s1 = { s with heap := s.heap.push (set0 w) }) ⟨rfl, rfl⟩) fun r s1 hr => ?_
  rcases r with _ | (_ | _)
  any_goals (first | exact hr | exact hr.elim)
  rename_i ob
  obtain ⟨rfl, rfl⟩ := hr
  · have gS : (s.heap.push (set0 w)).get? s.heap.objs.size = some (set0 w) := Heap.get?_push_size _ rfl
    have hT : Shared.TypeIs { s with heap := s.heap.push (set0 w) } (.ref s.heap.objs.size) "set" := ⟨_, gS, rfl⟩
    have q4 := F.called_set.init.lookup
    have q5 := F.called_set.init.bind (.ref s.heap.objs.size)
    repeat (any_goals (first | assumption | wp_step))
    refine codeAny_mono (codeAny_call_builtin (R := wants (fun r s2 => r = .none ∧ ∃ h1 tk, s2 = { s with heap := h1, toks := tk } ∧ TxS P w h1 s.heap.objs.size (zs.foldl addZ []) ∧ (∀ b ob, s.heap.get? b = some ob → h1.get? b = some ob)) E)
      F.called_set.init.plain F.entry_set_init (check_set_init_1 hT ?_)) fun r2 s2 hr2 => ?_
    · obtain ⟨ol, gl, cl, nl, dl⟩ := hl
      obtain ⟨ocls, odict, odata, oslots⟩ := ol
      simp only at cl dl
      subst cl; subst dl
      have gl1 : (s.heap.push (set0 w)).get? l = some { cls := .type "list", dict := odict, data := .seq its nl, slots := oslots } := Heap.get?_push_of_some _ gl
      have hsls := F.sub_list_set
      have hslf := F.sub_list_frozenset
      have hne : (Value.type "list" == Value.type "dict") = false := by decide
      have il : (s.heap.push (set0 w)).IsList l its := ⟨_, gl1, rfl, nl, rfl⟩
      unfold Builtin.«set.__init__» noKeywords Builtin.Frozenset.updateFrom
      generalize hPI : pyIter = PI
      wp_walk
      subst hPI
      refine wpAny_pyIter_list il (wpAny_bind (wpAny_runValue ?_))
      have lt : l < s.heap.objs.size := Heap.lt_size gl
      have z1 : (s.heap.push (set0 w)).objs.size = s.heap.objs.size + 1 := Heap.size_push ..
      have ni : l ≠ (s.heap.push (set0 w)).objs.size := by rw [z1]; exact Nat.ne_of_lt (Nat.lt_succ_of_lt lt)
      have nf : s.heap.objs.size ∉ [(s.heap.push (set0 w)).objs.size, l] := by
        rw [z1]
        intro q
        rcases List.mem_cons.mp q with q | q
        · exact Nat.ne_of_lt (Nat.lt_succ_self _) q
        · exact Nat.ne_of_gt lt (List.mem_singleton.mp q)
      have val : ∀ (i : Nat) (v : Value), its[i]? = some v → ∃ z t, zs[i]? = some z ∧ v = .str z t := fun i v gv => (fun ⟨y, t, e1, e2⟩ => ⟨y, t, e2, e1⟩) (StrsAre.item ht i v (by rw [Array.getElem?_toList]; exact gv))
      refine tx_loop ((Walks.list (by simp [hh]) _ l ni its).toS) nf zs esz room val (its.size - 0) 0 _ (by omega) (Nat.zero_le _) ⟨⟨_, Heap.get?_push_size _ rfl, rfl, rfl⟩, (il.push _)⟩ (tx_nil (Heap.get?_push_of_some _ gS)) ?_
      intro s3 mv T
      obtain ⟨h3, g3, d3, t3, o3⟩ := s3
      obtain rfl : g3 = s.gens := mv.gens
      obtain rfl : d3 = s.drawn := mv.drawn
      obtain rfl : o3 = s.os := mv.os
      refine wpAny_pure (show wpAny _ _ (ret Value.none) _ _ _ from wpAny_pure ⟨rfl, h3, t3, rfl, T, fun b ob e => ?_⟩)
      have lb : b < s.heap.objs.size := Heap.lt_size e
      refine mv.heap b ob (fun q => ?_) (Heap.get?_push_of_some _ (Heap.get?_push_of_some _ e))
      rw [z1] at q
      rcases List.mem_cons.mp q with q | q
      · exact Nat.ne_of_lt lb q
      · exact Nat.ne_of_lt (Nat.lt_succ_of_lt lb) (List.mem_singleton.mp q)
    · rcases r2 with _ | (_ | _)
      any_goals (first | exact hr2 | exact hr2.elim)
      rename_i ob
      obtain ⟨rfl, h1, tk, rfl, T, kp⟩ := hr2
      · have lz : s.heap.objs.size < h1.objs.size := by
          obtain ⟨o1, _, _, _, g1, _⟩ := T
          exact Heap.lt_size g1
        have fin1 := fin h1 tk T kp lz
        repeat (any_goals (first | assumption | wp_step))
end
end LL


set_option Elab.async false
set_option linter.all false
set_option maxRecDepth 100000
set_option maxHeartbeats 4000000
/-! ### sorted(set(xs)), xs a list of texts -/
namespace LL
open PySem PySem.Spec PyProof.Rows L2
section
variable {X : Cx}
/-- the values of a set of texts, whatever their order -/
theorem tx_vals {P : Program} {w : World} {o : Obj} {zs : List Str} {en : Array (Int × Value)} {ep : Nat} {tb : SetTable} (T : TxO P w o zs en ep tb) {vs : List Value} (pm : vs.Perm (en.toList.map (·.2))) :
    ∃ ks, StrsAre vs ks ∧ ks.Perm zs := by
  let g : Value → Str := fun v => vTx (0, v)
  refine ⟨vs.map g, strs_at (List.length_map _).symm fun j v e => ?_, ?_⟩
  · have m : v ∈ en.toList.map (·.2) := pm.mem_iff.mp (List.mem_of_getElem? e)
    obtain ⟨x, mx, rfl⟩ := List.mem_map.mp m
    obtain ⟨⟨k, hk, _⟩, _⟩ := T.el x mx
    obtain ⟨t, ev⟩ := Value.isStrOf_shape (x := k) (v := x.2) hk
    refine ⟨k, t, ?_, ev⟩
    rw [List.getElem?_map, e]
    show some (vTx (0, x.2)) = some k
    unfold vTx
    rw [ev]
  · refine (pm.map g).trans ?_
    rw [List.map_map]
    exact T.pm
theorem sort_tx (hcalm : X.calm = true) {pins : List (Addr × Obj)} {s : Shared} {σ : L2.St} {H : Hp} {Q : VK} {a : Addr} {zs : List Str} (I0 : Inv X pins σ H s) (T : TxS X.prog X.w s.heap a zs) (h64 : zs.length < 64)
    (q : ∀ ys p, ys.Perm zs → sortedS ys = true → H p = none → Q (.ref p) (upd H p (.lst (ys.map V.str)))) :
    wpAny (model X.prog X.w) X.A (call (.builtin "sorted") [.ref a]) (EP X pins σ Q) X.xe s := by
  obtain ⟨o, en, ep, tb, ga, T⟩ := T
  refine Calls.call_function_entry PyProof.Rows.kind_sorted PyProof.Rows.plain_sorted PyProof.Rows.entry_sorted (PyProof.Rows.args_sorted1 _) ?_
  unfold Builtin.«sorted»
  refine wpAny_bind (m := checkCount "sorted" 1 1 _) (wpAny_pure (wpAny_bind ?_))
  refine collect_set (A := X.A.in1) (I0.ok.hd hcalm) ⟨o, ga, T.ex.1, T.da⟩ T.ft (by rw [T.size]; exact T.sm) T.rs T.ld fun s1 vs kp sz g1 o1 pm => ?_
  obtain ⟨ks, hS, pk⟩ := tx_vals T pm
  have hvl : vs.length = zs.length := (StrsAre.length hS).trans pk.length_eq
  have I1 : Inv X pins σ H s1 := I0.call' (ch := []) o1 (Un.kept kp) (I0.hok.kept kp) (by rw [g1]; exact I0.bare) (fun _ z => nomatch z)
  refine wpAny_bind (wpAny_newList ?_ (by rw [hvl, sizeLine_eq]; omega))
  have hL : (s1.heap.push (seqObj "list" vs.toArray 0)).get? s1.heap.objs.size = some (seqObj "list" vs.toArray 0) := Heap.get?_push_size _ rfl
  refine wpAny_bind (wpAny_holding (wpAny_call_entry PyProof.Rows.slot_list_sort ⟨_, hL, rfl⟩ PyProof.Rows.entry_list_sort
    (list_sort_treeK strKind_oneLt hL hS.keysOf (fun v₁ v₂ rest e => keyKind_strs (by rw [← e]; exact hS)) (by rw [hvl]; exact h64) fun st' hp hs => ⟨_, rfl, ?_⟩)
    (PyProof.Rows.args_list_sort _)))
  obtain ⟨ys, g1, g2, g3⟩ := sorted_out_str hS hp hs
  obtain ⟨e', he'⟩ := PyProof.Rows.sortedHeap_at (vs := vs) (out := (arrOf st').map (·.2)) hL
  have hlen : (ys.map V.str).length ≤ sizeLine := by
    rw [List.length_map, g2.length_eq, pk.length_eq]
    exact Nat.le_trans (Nat.le_of_lt h64) (by decide)
  refine wpAny_pure ⟨_, rfl, .ref s1.heap.objs.size, upd H s1.heap.objs.size (.lst (ys.map V.str)), I1.laid (t' := s1.toks) (fun b u e => ?_) (Nat.le_refl _)
    (show ObjOk X.prog X.w _ _ _ (.lst (ys.map V.str)) from ⟨hlen, ((arrOf st').map (·.2)).toList, e', vals_of_strs g1, by rw [Array.toArray_toList]; exact he'⟩), rfl, q ys _ (g2.trans pk) g3 (I1.hok.fresh (Nat.le_refl _))⟩
  have lb : b < s1.heap.objs.size := Heap.lt_size e
  exact (PyProof.Rows.sortedHeap_old (Nat.ne_of_lt lb) (by rw [size_push']; exact Nat.lt_succ_of_lt lb)).trans (Heap.get?_push_of_some _ e)
end
def rSrtSet (K : PySem.W.Frag) : List V → Hp → VK → Prop := fun vs H Q => ∃ (a : Addr) (zs : List Str), vs = [.ref a] ∧ SqL K H a (zs.map V.str) ∧ zs.length + 1 < scanBound ∧ (zs.foldl addZ []).length < 64 ∧
  ∀ ys p, ys.Perm (zs.foldl addZ []) → sortedS ys = true → H p = none → Q (.ref p) (upd H p (.lst (ys.map V.str)))
/-- the texts, where all are texts -/
def strsOf : List LV → Option (List Str)
  | [] => some []
  | .str z :: r => match strsOf r with
    | some l => some (z :: l)
    | none => none
  | _ => none
theorem strsOf_ok : ∀ {xs : List LV} {zs : List Str}, strsOf xs = some zs → xs = zs.map .str
  | [], zs, h => by cases h; rfl
  | .str z :: r, zs, h => by
    unfold strsOf at h
    split at h
    · rename_i l hl
      cases h
      rw [List.map_cons, strsOf_ok hl]
    · cases h
@[simp] theorem strsOf_map (zs : List Str) : strsOf (zs.map .str) = some zs := by
  induction zs with
  | nil => rfl
  | cons z r ih =>
    rw [List.map_cons]
    unfold strsOf
    rw [ih]
noncomputable def srtSetG (t : Bool) : OpN
  | [v], S => match lsO v S with
    | some xs => match strsOf xs with
      | some zs => if zs.length < 4000 then if (zs.foldl addZ []).length < 64 then newL t ((sortS (zs.foldl addZ [])).map .str) S else .no else .no
      | none => .no
    | none => .no
  | _, _ => .no
noncomputable abbrev srtSetL := srtSetG false
noncomputable abbrev srtSetT := srtSetG true
section
variable {K : PySem.W.Frag} {T : Env1}
theorem rvs_strs {m : List Addr} {H : Hp} : ∀ {zs : List Str} {ys : List V}, RVs K m H (zs.map .str) ys → ys = zs.map V.str
  | [], ys, h => by
    cases ys with
    | nil => rfl
    | cons y r => unfold RVs at h; cases h
  | z :: zs, ys, h => by
    rw [List.map_cons] at h
    unfold RVs at h
    obtain ⟨y, r, rfl, h1, h2⟩ := h
    rw [rvs_strs h2]
    unfold RV at h1
    rw [h1]
    rfl
theorem cl_srtSet {t : Bool} : CallL K T (rSrtSet K) (srtSetG t) := fun m S H vs xs Q W r rv h => by
  unfold srtSetG at h
  split at h
  · obtain ⟨x, rfl, rx⟩ := rv.one
    split at h
    · rename_i ys hn
      split at h
      · rename_i zs hz
        split at h
        · rename_i h4
          split at h
          · rename_i h64
            obtain ⟨a, ws, rfl, ha, hs⟩ := lsO_ok r rx hn
            rw [strsOf_ok hz] at hs
            have ew := rvs_strs hs
            subst ew
            refine ⟨a, zs, rfl, SqL.of ha, by unfold scanBound; omega, h64, fun ys p hp hso hf => ?_⟩
            rw [sortS_uniq hp (sortedS_pw hso)]
            exact fin_new r (RVs.strs' _) h p hf
          · exact h.elim
        · exact h.elim
      · exact h.elim
    · exact h.elim
  · exact h.elim
end
theorem srtSet_ok {t : Bool} {v : LV} {S : Sto} {zs : List Str} (hv : lsO v S = some (zs.map .str)) (h : zs.length < 4000) (h64 : (zs.foldl addZ []).length < 64) : srtSetG t [v] S = newL t ((sortS (zs.foldl addZ [])).map .str) S := by
  show (match lsO v S with
    | some xs => _
    | none => _) = _
  rw [hv]
  simp only [strsOf_map, if_pos h, if_pos h64]
section
variable {X : Cx} {T : Env1} {W : WX} {e : Expr} {ga : LA} {p p2 pos pos2 : Pos} {ξ : Xi}
theorem pl_srtSet {t : Bool} (hc : X.calm = true) (ha : PA X [e] (tLA X.K T ξ W ga)) (hg : Gl X "sorted") (hm : X.mg "sorted" = none) (hv : bootBuiltins "sorted" = some (.builtin "sorted")) (hg2 : Gl X "set") (hm2 : X.mg "set" = none)
    (hs : starEach [e] X.env = [(false, eval e X.env)] := by rfl) : PE X (.Call (.Name "sorted" p) [.Call (.Name "set" p2) [e] [] pos2] [] pos) (tL X.K T ξ W (lBi (srtSetG t) ga)) := by
  refine ⟨fun pins s σ H Q I h => ?_⟩
  have h2 := tCB_of (W := W) (ξ := ξ) (T := T) cl_srtSet σ H Q h
  refine wpAny_Call_Name_kw (ld_blt I hg hm hv ?_ (by decide) (by decide))
  refine PyProof.Rows.callWith_builtin1 (e := .Call (.Name "set" p2) [e] [] pos2) (rest := []) ?_ (by rfl) (by rfl)
  show wpAny _ _ (spliced [(false, eval (.Call (.Name "set" p2) [e] [] pos2) X.env)]) _ _ s
  refine Calls.spliced_cons (Call_ (ld_blt I hg2 hm2 PyProof.Rows.boot_set (PyProof.Rows.callWith_type1 (thn (ha.run pos2 pins s σ H _ I h2) fun us s1 ⟨vs, H1, I1, r1, q⟩ => ?_) hs rfl)))
  obtain ⟨a, zs, e1, hl, room, h64, q⟩ := q
  subst e1
  cases r1 with
  | cons r rr =>
    cases rr
    cases r
    obtain ⟨its, rv, il, sz⟩ := I1.list hl
    refine tx_make (I1.ok.hd hc) il.isList (strs_of_vals rv) room fun h1 tk T kp lz => ?_
    have I2 : Inv X pins σ H1 { s1 with heap := h1, toks := tk } := I1.kept kp
    exact Calls.spliced_nil (sort_tx hc I2 T h64 q)
end
end LL


set_option Elab.async false
set_option linter.all false
set_option maxRecDepth 100000
set_option maxHeartbeats 4000000

namespace K16
open PySem PySem.Spec PyProof.Rows L2 LL
noncomputable def g_has_leap_day : LS := (lRet (lAnd (lOp eqL (lOp modL (lVar 0) (lC (.int 4))) (lC (.int 0))) (lOr (lOp neL (lOp modL (lVar 0) (lC (.int 100))) (lC (.int 0))) (lOp eqL (lOp modL (lVar 0) (lC (.int 400))) (lC (.int 0))))))
noncomputable def f_has_leap_day : Fn := mkFn 1 1 g_has_leap_day
noncomputable def g_days_ahead : LS := (lSeq (lAsg (lOp subL (lVar 0) (lC (.int 2000))) (gNm 1))
  (lSeq (lAsg (lOp addL (lOp subL (lOp divL (lOp addL (lVar 1) (lC (.int 3))) (lC (.int 4))) (lOp divL (lOp addL (lVar 1) (lC (.int 99))) (lC (.int 100)))) (lOp divL (lOp addL (lVar 1) (lC (.int 399))) (lC (.int 400)))) (gNm 2))
  (lRet (lOp addL (lOp mulL (lC (.int 365)) (lVar 1)) (lVar 2)))))
noncomputable def f_days_ahead : Fn := mkFn 1 3 g_days_ahead
noncomputable def g_days_in : LS := (lSeq (lIf (lAnd (lOp eqL (lVar 1) (lC (.int 2))) (lCall f_has_leap_day (lCons (lVar 0) lNil)))
  (lRet (lC (.int 29)))
  lNx)
  (lRet (lOp ixL (lC (.ktp [.int 31, .int 28, .int 31, .int 30, .int 31, .int 30, .int 31, .int 31, .int 30, .int 31, .int 30, .int 31])) (lOp subL (lVar 1) (lC (.int 1))))))
noncomputable def f_days_in : Fn := mkFn 2 2 g_days_in
noncomputable def t_parts_of_2 : LE := (lOp geL (lVar 3) (lCall f_days_in (lCons (lVar 1) (lCons (lVar 2) lNil))))
noncomputable def b_parts_of_2 : LS := (lSeq (lAsg (lOp subL (lVar 3) (lCall f_days_in (lCons (lVar 1) (lCons (lVar 2) lNil)))) (gNm 3))
  (lAsg (lOp addL (lVar 2) (lC (.int 1))) (gNm 2)))
noncomputable def t_parts_of_1 : LE := (lOp leL (lCall f_days_ahead (lCons (lOp addL (lVar 1) (lC (.int 1))) lNil)) (lVar 0))
noncomputable def b_parts_of_1 : LS := (lAsg (lOp addL (lVar 1) (lC (.int 1))) (gNm 1))
noncomputable def g_parts_of : LS := (lSeq (lAsg (lOp addL (lC (.int 2000)) (lOp divL (lVar 0) (lC (.int 366)))) (gNm 1))
  (lSeq (lWh 1000 t_parts_of_1 b_parts_of_1)
  (lSeq (lAsg (lC (.int 1)) (gNm 2))
  (lSeq (lAsg (lOp subL (lVar 0) (lCall f_days_ahead (lCons (lVar 1) lNil))) (gNm 3))
  (lSeq (lWh 1000 t_parts_of_2 b_parts_of_2)
  (lRet (lTup (lCons (lVar 1) (lCons (lVar 2) (lCons (lOp addL (lVar 3) (lC (.int 1))) lNil))))))))))
noncomputable def f_parts_of : Fn := mkFn 1 4 g_parts_of
noncomputable def g_month_of : LS := (lSeq (lAsg (lCall f_parts_of (lCons (lVar 0) lNil)) (gTp (gsCons (gNm 1) (gsCons (gNm 2) (gsCons (gNm 3) gsNil)))))
  (lRet (lOp subL (lOp addL (lOp mulL (lC (.int 12)) (lOp subL (lVar 1) (lC (.int 2000)))) (lVar 2)) (lC (.int 1)))))
noncomputable def f_month_of : Fn := mkFn 1 4 g_month_of
noncomputable def g_Sums___init__ : LS := (lSfl 100 0 lDnewT (lVar 0))
noncomputable def f_Sums___init__ : Fn := mkFn 1 1 g_Sums___init__
noncomputable def b_Sums_put_1 : LS := (lSeq (lAsg (lSetd (lUn (fldL 100 0) (lVar 0)) (lTup (lCons (lVar 3) (lCons (lVar 4) lNil))) lDnew) (gNm 6))
  (lSub (lOp addL (lGet2 (lVar 6) (lVar 2) (lC (.int 0))) (lVar 5)) (lVar 6) (lVar 2)))
noncomputable def g_Sums_put : LS := (lSeq (lAsg (lCall f_month_of (lCons (lOp ixL (lVar 1) (lC (.int 1))) lNil)) (gNm 2))
  (lFor (lIter (lOp ixL (lVar 1) (lC (.int 3)))) (gTp (gsCons (gNm 3) (gsCons (gNm 4) (gsCons (gNm 5) gsNil)))) b_Sums_put_1))
noncomputable def f_Sums_put : Fn := mkFnN 2 7 g_Sums_put
noncomputable def t_Sums_own_T_1 : LE := (lChain leL leL (lVar 3) (lVar 6) (lVar 4))
noncomputable def e_Sums_own_T_1 : LE := (lOp ixL (lVar 5) (lVar 6))
noncomputable def c_Sums_own_T_1 : LE := (lLc (lIterD (lVar 5)) (gNm 6) t_Sums_own_T_1 e_Sums_own_T_1 [6])
noncomputable def g_Sums_own_T : LS := (lSeq (lAsg (lGet2 (lUn (fldL 100 0) (lVar 0)) (lTup (lCons (lVar 1) (lCons (lVar 2) lNil))) lDnew) (gNm 5))
  (lRet (lBi sumL (lCons (lLock (lVar 5) c_Sums_own_T_1) lNil))))
noncomputable def f_Sums_own_T : Fn := mkFnT 5 7 g_Sums_own_T
noncomputable def t_Sums_standing_T_1 : LE := (lOp leL (lVar 5) (lVar 3))
noncomputable def e_Sums_standing_T_1 : LE := (lOp ixL (lVar 4) (lVar 5))
noncomputable def c_Sums_standing_T_1 : LE := (lLc (lIterD (lVar 4)) (gNm 5) t_Sums_standing_T_1 e_Sums_standing_T_1 [5])
noncomputable def g_Sums_standing_T : LS := (lSeq (lAsg (lGet2 (lUn (fldL 100 0) (lVar 0)) (lTup (lCons (lVar 1) (lCons (lVar 2) lNil))) lDnew) (gNm 4))
  (lRet (lBi sumL (lCons (lLock (lVar 4) c_Sums_standing_T_1) lNil))))
noncomputable def f_Sums_standing_T : Fn := mkFnT 4 6 g_Sums_standing_T
noncomputable def t_Sums_currencies_1 : LE := (lOp eqL (lOp ixL (lVar 2) (lC (.int 0))) (lVar 1))
noncomputable def e_Sums_currencies_1 : LE := (lOp ixL (lVar 2) (lC (.int 1)))
noncomputable def c_Sums_currencies_1 : LE := (lLc (lIterD (lUn (fldL 100 0) (lVar 0))) (gNm 2) t_Sums_currencies_1 e_Sums_currencies_1 [2])
noncomputable def g_Sums_currencies : LS := (lRet (lBi sortedL (lCons (lLock (lUn (fldL 100 0) (lVar 0)) c_Sums_currencies_1) lNil)))
noncomputable def f_Sums_currencies : Fn := mkFn 2 3 g_Sums_currencies
noncomputable def t_Sums_currencies_T_1 : LE := (lOp eqL (lOp ixL (lVar 2) (lC (.int 0))) (lVar 1))
noncomputable def e_Sums_currencies_T_1 : LE := (lOp ixL (lVar 2) (lC (.int 1)))
noncomputable def c_Sums_currencies_T_1 : LE := (lLc (lIterD (lUn (fldL 100 0) (lVar 0))) (gNm 2) t_Sums_currencies_T_1 e_Sums_currencies_T_1 [2])
noncomputable def g_Sums_currencies_T : LS := (lRet (lBi sortedT (lCons (lLock (lUn (fldL 100 0) (lVar 0)) c_Sums_currencies_T_1) lNil)))
noncomputable def f_Sums_currencies_T : Fn := mkFnT 2 3 g_Sums_currencies_T
noncomputable def g__law_cell_at : LS := (lSeq (lIf (lOp ltL (lVar 1) (lBi lenL (lCons (lVar 0) lNil)))
  (lRet (lOp ixL (lVar 0) (lVar 1)))
  lNx)
  (lRet (lC (.int 0))))
noncomputable def f__law_cell_at : Fn := mkFn 2 2 g__law_cell_at
noncomputable def g__law_mixed : LS := (lRet (lOp modL (lOp addL (lOp addL (lOp addL (lOp mulL (lVar 0) (lC (.int 48271))) (lOp mulL (lOp mulL (lC (.int 7919)) (lVar 1)) (lVar 1))) (lOp mulL (lC (.int 104729)) (lVar 1))) (lC (.int 12345))) (lC (.int 2147483647))))
noncomputable def f__law_mixed : Fn := mkFn 2 2 g__law_mixed
noncomputable def g__law_whole : LS := (lRet (lAnd (lBi isiL (lCons (lVar 0) (lCons (lC (.ty "int")) lNil))) (lNot (lBi isiL (lCons (lVar 0) (lCons (lC (.ty "bool")) lNil))))))
noncomputable def f__law_whole : Fn := mkFn 1 1 g__law_whole
noncomputable def b__law_names_2 : LS := (lSeq (lAsg (lOp ixL (lVar 1) (lOp modL (lOp addL (lOp divL (lVar 0) (lC (.int 71500))) (lOp mulL (lC (.int 3)) (lVar 7))) (lC (.int 26)))) (gNm 8))
  (lDrop (lBm "list" appendL (lVar 6) (lCons (lOp addL (lOp addL (lSl (lVar 4) none (some (lVar 5))) (lVar 8)) (lSl (lVar 4) (some (lVar 5)) none)) lNil))))
noncomputable def e__law_names_1 : LE := (lOp ixL (lVar 1) (lOp modL (lOp addL (lOp divL (lVar 0) (lC (.int 250))) (lOp mulL (lVar 3) (lVar 7))) (lC (.int 26))))
noncomputable def c__law_names_1 : LE := (lLc (lRng1 (lCons (lVar 2) lNil)) (gNm 7) lYes e__law_names_1 [7])
@[simp] noncomputable def r__law_names_7 : LS := (lRet (lOp addL (lVar 6) (lLst (lCons (lVar 4) lNil))))
@[simp] noncomputable def r__law_names_6 : LS := (lSeq (lFor (lRng1 (lCons (lC (.int 6)) lNil)) (gNm 7) b__law_names_2) r__law_names_7)
@[simp] noncomputable def r__law_names_5 : LS := (lSeq (lAsg (lLsT lNil) (gNm 6)) r__law_names_6)
@[simp] noncomputable def r__law_names_4 : LS := (lSeq (lAsg (lOp modL (lOp divL (lVar 0) (lC (.int 6500))) (lOp addL (lVar 2) (lC (.int 1)))) (gNm 5)) r__law_names_5)
@[simp] noncomputable def r__law_names_3 : LS := (lSeq (lAsg (lBm "str" joinL2 (lC (.str "")) (lCons c__law_names_1 lNil)) (gNm 4)) r__law_names_4)
@[simp] noncomputable def r__law_names_2 : LS := (lSeq (lAsg (lOp addL (lC (.int 1)) (lOp modL (lOp divL (lVar 0) (lC (.int 10))) (lC (.int 25)))) (gNm 3)) r__law_names_3)
@[simp] noncomputable def r__law_names_1 : LS := (lSeq (lAsg (lOp addL (lC (.int 1)) (lOp modL (lVar 0) (lC (.int 10)))) (gNm 2)) r__law_names_2)
noncomputable def g__law_names : LS := (lSeq (lAsg (lC (.str "abcdefghijklmnopqrstuvwxyz")) (gNm 1)) r__law_names_1)
noncomputable def f__law_names : Fn := mkFn 1 9 g__law_names
@[simp] noncomputable def rb__law_paths_1_3 : LS := (lIf (lAnd (lOp notinL (lVar 7) (lVar 3)) (lOp ltL (lBm "str" countL (lVar 6) (lCons (lC (.str ":")) lNil)) (lC (.int 5))))
  (lDrop (lBm "list" appendL (lVar 3) (lCons (lVar 7) lNil)))
  lNx)
@[simp] noncomputable def rb__law_paths_1_2 : LS := (lSeq (lAsg (lOp addL (lOp addL (lVar 6) (lC (.str ":"))) (lOp ixL (lVar 2) (lOp modL (lOp divL (lVar 5) (lC (.int 13))) (lC (.int 7))))) (gNm 7)) rb__law_paths_1_3)
@[simp] noncomputable def rb__law_paths_1_1 : LS := (lSeq (lAsg (lOp ixL (lVar 3) (lOp modL (lVar 5) (lBi lenL (lCons (lVar 3) lNil)))) (gNm 6)) rb__law_paths_1_2)
noncomputable def b__law_paths_1 : LS := (lSeq (lAsg (lCall f__law_mixed (lCons (lCall f__law_cell_at (lCons (lVar 0) (lCons (lC (.int 2)) lNil))) (lCons (lVar 4) lNil))) (gNm 5)) rb__law_paths_1_1)
noncomputable def g__law_paths : LS := (lSeq (lAsg (lCall f__law_names (lCons (lCall f__law_cell_at (lCons (lVar 0) (lCons (lC (.int 1)) lNil))) lNil)) (gNm 2))
  (lSeq (lAsg (lLsT (lCons (lOp ixL (lVar 2) (lC (.int 0))) (lCons (lOp ixL (lVar 2) (lC (.int 6))) lNil))) (gNm 3))
  (lSeq (lFor (lRng1 (lCons (lVar 1) lNil)) (gNm 4) b__law_paths_1)
  (lRet (lVar 3)))))
noncomputable def f__law_paths : Fn := mkFn 2 8 g__law_paths
noncomputable def e__law_currencies_1 : LE := (lOp addL (lOp addL (lSl (lVar 2) none (some (lVar 3))) (lOp ixL (lVar 1) (lOp modL (lOp addL (lOp divL (lVar 0) (lC (.int 2028))) (lOp mulL (lC (.int 3)) (lVar 4))) (lC (.int 26))))) (lSl (lVar 2) (some (lVar 3)) none))
noncomputable def c__law_currencies_1 : LE := (lLc (lRng1 (lCons (lC (.int 3)) lNil)) (gNm 4) lYes e__law_currencies_1 [4])
noncomputable def g__law_currencies : LS := (lSeq (lAsg (lC (.str "ABCDEFGHIJKLMNOPQRSTUVWXYZ")) (gNm 1))
  (lSeq (lAsg (lOp addL (lOp ixL (lVar 1) (lOp modL (lOp divL (lVar 0) (lC (.int 3))) (lC (.int 26)))) (lOp ixL (lVar 1) (lOp modL (lOp divL (lVar 0) (lC (.int 78))) (lC (.int 26))))) (gNm 2))
  (lSeq (lAsg (lOp modL (lVar 0) (lC (.int 3))) (gNm 3))
  (lRet c__law_currencies_1))))
noncomputable def f__law_currencies : Fn := mkFn 1 5 g__law_currencies
noncomputable def b__law_first_1 : LS := (lAsg (lOp addL (lOp addL (lVar 2) (lOp ixL (lLst (lCons (lC (.int 31)) (lCons (lC (.int 28)) (lCons (lC (.int 31)) (lCons (lC (.int 30)) (lCons (lC (.int 31)) (lCons (lC (.int 30)) (lCons (lC (.int 31)) (lCons (lC (.int 31)) (lCons (lC (.int 30)) (lCons (lC (.int 31)) (lCons (lC (.int 30)) lNil)))))))))))) (lVar 4))) (lBi intL (lCons (lAnd (lOp eqL (lVar 4) (lC (.int 1))) (lVar 3)) lNil))) (gNm 2))
@[simp] noncomputable def r__law_first_4 : LS := (lRet (lVar 2))
@[simp] noncomputable def r__law_first_3 : LS := (lSeq (lFor (lRng1 (lCons (lOp modL (lVar 0) (lC (.int 12))) lNil)) (gNm 4) b__law_first_1) r__law_first_4)
@[simp] noncomputable def r__law_first_2 : LS := (lSeq (lAsg (lAnd (lOp eqL (lOp modL (lVar 1) (lC (.int 4))) (lC (.int 0))) (lOr (lOp neL (lOp modL (lVar 1) (lC (.int 100))) (lC (.int 0))) (lOp eqL (lOp modL (lVar 1) (lC (.int 400))) (lC (.int 0))))) (gNm 3)) r__law_first_3)
@[simp] noncomputable def r__law_first_1 : LS := (lSeq (lAsg (lOp addL (lOp subL (lOp addL (lOp mulL (lC (.int 365)) (lVar 1)) (lOp divL (lOp addL (lVar 1) (lC (.int 3))) (lC (.int 4)))) (lOp divL (lOp addL (lVar 1) (lC (.int 99))) (lC (.int 100)))) (lOp divL (lOp addL (lVar 1) (lC (.int 399))) (lC (.int 400)))) (gNm 2)) r__law_first_2)
noncomputable def g__law_first : LS := (lSeq (lAsg (lOp divL (lVar 0) (lC (.int 12))) (gNm 1)) r__law_first_1)
noncomputable def f__law_first : Fn := mkFn 1 5 g__law_first
noncomputable def g__law_day : LS := (lSeq (lIf (lOp eqL (lOp modL (lVar 0) (lC (.int 4))) (lC (.int 0)))
  (lRet (lCall f__law_first (lCons (lVar 1) lNil)))
  lNx)
  (lSeq (lIf (lOp eqL (lOp modL (lVar 0) (lC (.int 4))) (lC (.int 1)))
  (lRet (lOp subL (lCall f__law_first (lCons (lOp addL (lVar 1) (lC (.int 1))) lNil)) (lC (.int 1))))
  lNx)
  (lRet (lOp addL (lCall f__law_first (lCons (lVar 1) lNil)) (lOp modL (lOp divL (lVar 0) (lC (.int 4))) (lC (.int 28)))))))
noncomputable def f__law_day : Fn := mkFn 2 2 g__law_day
@[simp] noncomputable def r__law_amount_3 : LS := (lRet (lOp mulL (lVar 1) (lOp subL (lC (.int 1)) (lOp mulL (lC (.int 2)) (lOp modL (lOp divL (lVar 0) (lC (.int 3))) (lC (.int 2)))))))
@[simp] noncomputable def r__law_amount_2 : LS := (lSeq (lIf (lOp eqL (lOp modL (lVar 0) (lC (.int 9))) (lC (.int 2)))
  (lAsg (lOp subL (lOp powL (lC (.int 10)) (lC (.int 15))) (lOp modL (lOp divL (lVar 0) (lC (.int 9))) (lC (.int 2)))) (gNm 1))
  lNx) r__law_amount_3)
@[simp] noncomputable def r__law_amount_1 : LS := (lSeq (lIf (lOp eqL (lOp modL (lVar 0) (lC (.int 3))) (lC (.int 1)))
  (lAsg (lOp addL (lC (.int 1)) (lOp modL (lOp mulL (lVar 0) (lVar 0)) (lOp powL (lC (.int 10)) (lC (.int 15))))) (gNm 1))
  lNx) r__law_amount_2)
noncomputable def g__law_amount : LS := (lSeq (lAsg (lOp addL (lC (.int 1)) (lOp modL (lOp divL (lVar 0) (lC (.int 6))) (lC (.int 4)))) (gNm 1)) r__law_amount_1)
noncomputable def f__law_amount : Fn := mkFn 1 2 g__law_amount
@[simp] noncomputable def rb__law_rows_1_2 : LS := (lDrop (lBm "list" appendL (lVar 3) (lCons (lTup (lCons (lVar 5) (lCons (lVar 6) (lCons (lCall f__law_amount (lCons (lCall f__law_mixed (lCons (lVar 0) (lCons (lOp addL (lOp mulL (lC (.int 3)) (lVar 4)) (lC (.int 3))) lNil))) lNil)) lNil)))) lNil)))
@[simp] noncomputable def rb__law_rows_1_1 : LS := (lSeq (lAsg (lOp ixL (lVar 2) (lOp modL (lOp divL (lCall f__law_mixed (lCons (lVar 0) (lCons (lOp addL (lOp mulL (lC (.int 3)) (lVar 4)) (lC (.int 2))) lNil))) (lC (.int 7))) (lC (.int 3)))) (gNm 6)) rb__law_rows_1_2)
noncomputable def b__law_rows_1 : LS := (lSeq (lAsg (lOp ixL (lVar 1) (lOp modL (lCall f__law_mixed (lCons (lVar 0) (lCons (lOp addL (lOp mulL (lC (.int 3)) (lVar 4)) (lC (.int 1))) lNil))) (lBi lenL (lCons (lVar 1) lNil)))) (gNm 5)) rb__law_rows_1_1)
noncomputable def g__law_rows : LS := (lSeq (lAsg (lLsT lNil) (gNm 3))
  (lSeq (lFor (lRng1 (lCons (lOp addL (lC (.int 2)) (lOp modL (lVar 0) (lC (.int 5)))) lNil)) (gNm 4) b__law_rows_1)
  (lRet (lBi tupleL (lCons (lVar 3) lNil)))))
noncomputable def f__law_rows : Fn := mkFn 3 7 g__law_rows
@[simp] noncomputable def r__law_stretch_4 : LS := (lRet (lTup (lCons (lVar 2) (lCons (lVar 3) lNil))))
@[simp] noncomputable def r__law_stretch_3 : LS := (lSeq (lIf (lOp eqL (lOp modL (lOp divL (lVar 0) (lC (.int 36))) (lC (.int 6))) (lC (.int 2)))
  (lAsg (lOp addL (lC (.int 4799)) (lOp modL (lOp divL (lVar 0) (lC (.int 216))) (lOp powL (lC (.int 10)) (lC (.int 20))))) (gNm 3))
  lNx) r__law_stretch_4)
@[simp] noncomputable def r__law_stretch_2 : LS := (lSeq (lIf (lOp eqL (lOp modL (lOp divL (lVar 0) (lC (.int 36))) (lC (.int 6))) (lC (.int 1)))
  (lAsg (lOp subL (lC (.int 0)) (lOp modL (lOp divL (lVar 0) (lC (.int 216))) (lOp powL (lC (.int 10)) (lC (.int 20))))) (gNm 2))
  lNx) r__law_stretch_3)
@[simp] noncomputable def r__law_stretch_1 : LS := (lSeq (lAsg (lOp subL (lOp addL (lVar 1) (lOp modL (lOp divL (lVar 0) (lC (.int 6))) (lC (.int 6)))) (lC (.int 1))) (gNm 3)) r__law_stretch_2)
noncomputable def g__law_stretch : LS := (lSeq (lAsg (lOp subL (lOp addL (lVar 1) (lOp modL (lVar 0) (lC (.int 6)))) (lC (.int 1))) (gNm 2)) r__law_stretch_1)
noncomputable def f__law_stretch : Fn := mkFn 2 4 g__law_stretch
noncomputable def b__law_answers_T_1 : LS := (lIf (lOp eqL (lVar 6) (lC (.int 0)))
  (lSub (lMeth (tabA [(100, f_Sums_own_T)]) (lVar 0) (lCons (lVar 1) (lCons (lVar 2) (lCons (lOp ixL (lVar 3) (lC (.int 0))) (lCons (lOp ixL (lVar 3) (lC (.int 1))) lNil))))) (lVar 5) (lC (.int 0)))
  (lIf (lOp eqL (lVar 6) (lC (.int 1)))
  (lSub (lMeth (tabA [(100, f_Sums_standing_T)]) (lVar 0) (lCons (lVar 1) (lCons (lVar 2) (lCons (lOp ixL (lVar 3) (lC (.int 1))) lNil)))) (lVar 5) (lC (.int 1)))
  (lSub (lMeth (tabA [(100, f_Sums_currencies_T)]) (lVar 0) (lCons (lVar 1) lNil)) (lVar 5) (lC (.int 2)))))
@[simp] noncomputable def r__law_answers_T_2 : LS := (lRet (lVar 5))
@[simp] noncomputable def r__law_answers_T_1 : LS := (lSeq (lFor (lIter (lOp ixL (lLst (lCons (lLst (lCons (lC (.int 0)) (lCons (lC (.int 1)) (lCons (lC (.int 2)) lNil)))) (lCons (lLst (lCons (lC (.int 1)) (lCons (lC (.int 0)) (lCons (lC (.int 2)) lNil)))) (lCons (lLst (lCons (lC (.int 2)) (lCons (lC (.int 1)) (lCons (lC (.int 0)) lNil)))) (lCons (lLst (lCons (lC (.int 1)) (lCons (lC (.int 2)) (lCons (lC (.int 0)) lNil)))) (lCons (lLst (lCons (lC (.int 0)) (lCons (lC (.int 2)) (lCons (lC (.int 1)) lNil)))) (lCons (lLst (lCons (lC (.int 2)) (lCons (lC (.int 0)) (lCons (lC (.int 1)) lNil)))) lNil))))))) (lOp modL (lVar 4) (lC (.int 6))))) (gNm 6) b__law_answers_T_1) r__law_answers_T_2)
noncomputable def g__law_answers_T : LS := (lSeq (lAsg (lLsT (lCons (lC .non) (lCons (lC .non) (lCons (lC .non) lNil)))) (gNm 5)) r__law_answers_T_1)
noncomputable def f__law_answers_T : Fn := mkFnN 5 7 g__law_answers_T
noncomputable def e__law_told_5 : LE := (lOp ixL (lVar 15) (lC (.int 2)))
noncomputable def c__law_told_5 : LE := (lLc (lIter (lVar 9)) (gNm 15) lYes e__law_told_5 [15])
noncomputable def t__law_told_4 : LE := (lOp leL (lOp ixL (lVar 15) (lC (.int 0))) (lVar 8))
noncomputable def e__law_told_4 : LE := (lOp ixL (lVar 15) (lC (.int 3)))
noncomputable def c__law_told_4 : LE := (lLc (lIter (lVar 10)) (gNm 15) t__law_told_4 e__law_told_4 [15])
noncomputable def t__law_told_3 : LE := (lChain leL leL (lVar 7) (lOp ixL (lVar 15) (lC (.int 0))) (lVar 8))
noncomputable def e__law_told_3 : LE := (lOp ixL (lVar 15) (lC (.int 3)))
noncomputable def c__law_told_3 : LE := (lLc (lIter (lVar 10)) (gNm 15) t__law_told_3 e__law_told_3 [15])
noncomputable def t__law_told_2 : LE := (lOp eqL (lOp ixL (lVar 15) (lC (.int 2))) (lVar 3))
noncomputable def e__law_told_2 : LE := (lVar 15)
noncomputable def c__law_told_2 : LE := (lLc (lIter (lVar 9)) (gNm 15) t__law_told_2 e__law_told_2 [15])
noncomputable def t__law_told_1 : LE := (lOp eqL (lOp ixL (lVar 15) (lC (.int 1))) (lVar 2))
noncomputable def e__law_told_1 : LE := (lVar 15)
noncomputable def c__law_told_1 : LE := (lLc (lIter (lVar 1)) (gNm 15) t__law_told_1 e__law_told_1 [15])
@[simp] noncomputable def r__law_told_10 : LS := (lRet (lOr (lOp eqL (lOp modL (lOp divL (lVar 6) (lC (.int 6))) (lC (.int 2))) (lC (.int 0))) (lOp eqL (lMeth (tabA [(100, f_Sums_currencies)]) (lVar 0) (lCons (lVar 2) lNil)) (lVar 14))))
@[simp] noncomputable def r__law_told_9 : LS := (lSeq (lDrop (lBm "list" appendL (lVar 5) (lCons (lLst (lCons (lVar 13) (lCons (lOp addL (lVar 14) (lLst (lCons (lC (.str "more")) lNil))) lNil))) lNil))) r__law_told_10)
@[simp] noncomputable def r__law_told_8 : LS := (lSeq (lDrop (lBm "list" appendL (lVar 13) (lCons (lC (.str "more")) lNil))) r__law_told_9)
@[simp] noncomputable def r__law_told_7 : LS := (lSeq (lIf (lOr (lNot (lBi isiL (lCons (lVar 13) (lCons (lC (.ty "list")) lNil)))) (lOp neL (lVar 13) (lVar 14)))
  (lRet (lC (.bl false)))
  lNx) r__law_told_8)
@[simp] noncomputable def r__law_told_6 : LS := (lSeq (lAsg (lBi srtSetL (lCons c__law_told_5 lNil)) (gNm 14)) r__law_told_7)
@[simp] noncomputable def r__law_told_5 : LS := (lSeq (lIf (lOr (lNot (lCall f__law_whole (lCons (lVar 12) lNil))) (lOp neL (lVar 12) (lBi sumL (lCons c__law_told_4 lNil))))
  (lRet (lC (.bl false)))
  lNx) r__law_told_6)
@[simp] noncomputable def r__law_told_4 : LS := (lSeq (lIf (lOr (lNot (lCall f__law_whole (lCons (lVar 11) lNil))) (lOp neL (lVar 11) (lBi sumL (lCons c__law_told_3 lNil))))
  (lRet (lC (.bl false)))
  lNx) r__law_told_5)
@[simp] noncomputable def r__law_told_3 : LS := (lSeq (lAsg (lCall f__law_answers_T (lCons (lVar 0) (lCons (lVar 2) (lCons (lVar 3) (lCons (lVar 4) (lCons (lVar 6) lNil)))))) (gTp (gsCons (gNm 11) (gsCons (gNm 12) (gsCons (gNm 13) gsNil))))) r__law_told_4)
@[simp] noncomputable def r__law_told_2 : LS := (lSeq (lAsg c__law_told_2 (gNm 10)) r__law_told_3)
@[simp] noncomputable def r__law_told_1 : LS := (lSeq (lAsg c__law_told_1 (gNm 9)) r__law_told_2)
noncomputable def g__law_told : LS := (lSeq (lAsg (lVar 4) (gTp (gsCons (gNm 7) (gsCons (gNm 8) gsNil)))) r__law_told_1)
noncomputable def f__law_told : Fn := mkFn 7 16 g__law_told
noncomputable def e_law_5 : LE := (lOp eqL (lOp ixL (lVar 17) (lC (.int 0))) (lOp ixL (lVar 17) (lC (.int 1))))
noncomputable def c_law_5 : LE := (lLc (lIter (lVar 6)) (gNm 17) lYes e_law_5 [17])
noncomputable def b_law_4 : LS := (lIf (lNot (lCall f__law_told (lCons (lOp ixL (lVar 4) (lVar 9)) (lCons (lOp ixL (lVar 5) (lVar 9)) (lCons (lVar 10) (lCons (lOp ixL (lVar 3) (lVar 9)) (lCons (lTup (lCons (lVar 1) (lCons (lOp addL (lVar 1) (lC (.int 3))) lNil))) (lCons (lVar 6) (lCons (lOp addL (lVar 1) (lBi lenL (lCons (lOp ixL (lVar 5) (lVar 9)) lNil))) lNil)))))))))
  (lRet (lC (.bl false)))
  lNx)
noncomputable def b_law_3 : LS := (lFor (lIter (lOp addL (lSl (lVar 2) none (some (lC (.int 4)))) (lLst (lCons (lC (.str "nobody")) lNil)))) (gNm 10) b_law_4)
noncomputable def e_law_2 : LE := (lOp addL (lTup (lCons (lVar 14) lNil)) (lVar 16))
noncomputable def c_law_2 : LE := (lLc (lIter (lVar 15)) (gNm 16) lYes e_law_2 [16])
@[simp] noncomputable def rb_law_1_12 : LS := (lIf (lNot (lCall f__law_told (lCons (lOp ixL (lVar 4) (lVar 9)) (lCons (lOp ixL (lVar 5) (lVar 9)) (lCons (lOp ixL (lOp ixL (lVar 15) (lC (.int 0))) (lC (.int 0))) (lCons (lOp ixL (lOp ixL (lVar 15) (lC (.int 0))) (lC (.int 1))) (lCons (lTup (lCons (lVar 14) (lCons (lVar 14) lNil))) (lCons (lVar 6) (lCons (lOp divL (lVar 13) (lC (.int 36))) lNil)))))))))
  (lRet (lC (.bl false)))
  lNx)
@[simp] noncomputable def rb_law_1_11 : LS := (lSeq (lIf (lNot (lCall f__law_told (lCons (lOp ixL (lVar 4) (lVar 9)) (lCons (lOp ixL (lVar 5) (lVar 9)) (lCons (lVar 10) (lCons (lVar 11) (lCons (lVar 12) (lCons (lVar 6) (lCons (lOp divL (lVar 13) (lC (.int 6))) lNil)))))))))
  (lRet (lC (.bl false)))
  lNx) rb_law_1_12)
@[simp] noncomputable def rb_law_1_10 : LS := (lSeq (lSub (lOp addL (lOp ixL (lVar 5) (lVar 9)) c_law_2) (lVar 5) (lVar 9)) rb_law_1_11)
@[simp] noncomputable def rb_law_1_9 : LS := (lSeq (lIf (lOp isnotL (lMeth (tabA [(100, f_Sums_put)]) (lOp ixL (lVar 4) (lVar 9)) (lCons (lTup (lCons (lVar 7) (lCons (lCall f__law_day (lCons (lOp divL (lCall f__law_mixed (lCons (lVar 8) (lCons (lC (.int 22)) lNil))) (lC (.int 9))) (lCons (lVar 14) lNil))) (lCons (lC (.str "")) (lCons (lVar 15) (lCons (lC .non) lNil)))))) lNil)) (lC .non))
  (lRet (lC (.bl false)))
  lNx) rb_law_1_10)
@[simp] noncomputable def rb_law_1_8 : LS := (lSeq (lAsg (lCall f__law_rows (lCons (lOp divL (lCall f__law_mixed (lCons (lVar 8) (lCons (lC (.int 21)) lNil))) (lC (.int 4))) (lCons (lVar 2) (lCons (lVar 3) lNil)))) (gNm 15)) rb_law_1_9)
@[simp] noncomputable def rb_law_1_7 : LS := (lSeq (lAsg (lOp addL (lVar 1) (lOp modL (lOp divL (lCall f__law_mixed (lCons (lVar 8) (lCons (lC (.int 20)) lNil))) (lC (.int 3))) (lC (.int 4)))) (gNm 14)) rb_law_1_8)
@[simp] noncomputable def rb_law_1_6 : LS := (lSeq (lIf (lNot (lCall f__law_told (lCons (lOp ixL (lVar 4) (lVar 9)) (lCons (lOp ixL (lVar 5) (lVar 9)) (lCons (lVar 10) (lCons (lVar 11) (lCons (lVar 12) (lCons (lVar 6) (lCons (lVar 13) lNil)))))))))
  (lRet (lC (.bl false)))
  lNx) rb_law_1_7)
@[simp] noncomputable def rb_law_1_5 : LS := (lSeq (lAsg (lOp divL (lCall f__law_mixed (lCons (lVar 8) (lCons (lC (.int 23)) lNil))) (lC (.int 7))) (gNm 13)) rb_law_1_6)
@[simp] noncomputable def rb_law_1_4 : LS := (lSeq (lAsg (lCall f__law_stretch (lCons (lOp divL (lCall f__law_mixed (lCons (lVar 8) (lCons (lC (.int 0)) lNil))) (lC (.int 5))) (lCons (lVar 1) lNil))) (gNm 12)) rb_law_1_5)
@[simp] noncomputable def rb_law_1_3 : LS := (lSeq (lAsg (lOp ixL (lVar 3) (lOp modL (lOp divL (lVar 8) (lC (.int 33))) (lC (.int 3)))) (gNm 11)) rb_law_1_4)
@[simp] noncomputable def rb_law_1_2 : LS := (lSeq (lAsg (lOp ixL (lVar 2) (lOp modL (lOp divL (lVar 8) (lC (.int 3))) (lBi lenL (lCons (lVar 2) lNil)))) (gNm 10)) rb_law_1_3)
@[simp] noncomputable def rb_law_1_1 : LS := (lSeq (lAsg (lOp divL (lOp modL (lVar 8) (lC (.int 3))) (lC (.int 2))) (gNm 9)) rb_law_1_2)
noncomputable def b_law_1 : LS := (lSeq (lAsg (lOp ixL (lVar 0) (lVar 7)) (gNm 8)) rb_law_1_1)
@[simp] noncomputable def r_law_8 : LS := (lRet (lBi allL (lCons c_law_5 lNil)))
@[simp] noncomputable def r_law_7 : LS := (lSeq (lFor (lRng1 (lCons (lC (.int 2)) lNil)) (gNm 9) b_law_3) r_law_8)
@[simp] noncomputable def r_law_6 : LS := (lSeq (lFor (lRng2 (lCons (lC (.int 4)) (lCons (lBi minU (lCons (lBi lenL (lCons (lVar 0) lNil)) (lCons (lC (.int 18)) lNil))) lNil))) (gNm 7) b_law_1) r_law_7)
@[simp] noncomputable def r_law_5 : LS := (lSeq (lAsg (lLsT lNil) (gNm 6)) r_law_6)
@[simp] noncomputable def r_law_4 : LS := (lSeq (lAsg (lLsT (lCons (lLst lNil) (lCons (lLst lNil) lNil))) (gNm 5)) r_law_5)
@[simp] noncomputable def r_law_3 : LS := (lSeq (lAsg (lLst (lCons (lMake 100 f_Sums___init__ lNil) (lCons (lMake 100 f_Sums___init__ lNil) lNil))) (gNm 4)) r_law_4)
@[simp] noncomputable def r_law_2 : LS := (lSeq (lAsg (lCall f__law_currencies (lCons (lCall f__law_cell_at (lCons (lVar 0) (lCons (lC (.int 3)) lNil))) lNil)) (gNm 3)) r_law_3)
@[simp] noncomputable def r_law_1 : LS := (lSeq (lAsg (lCall f__law_paths (lCons (lVar 0) (lCons (lOp addL (lC (.int 2)) (lOp modL (lOp divL (lCall f__law_cell_at (lCons (lVar 0) (lCons (lC (.int 0)) lNil))) (lC (.int 4797))) (lC (.int 8)))) lNil))) (gNm 2)) r_law_2)
noncomputable def g_law : LS := (lSeq (lAsg (lOp modL (lCall f__law_cell_at (lCons (lVar 0) (lCons (lC (.int 0)) lNil))) (lC (.int 4797))) (gNm 1)) r_law_1)
noncomputable def f_law : Fn := mkFn 1 18 g_law
-- CLASSES Sums=100
-- CODES 
end K16


set_option Elab.async false
set_option linter.all false
set_option maxRecDepth 100000
set_option maxHeartbeats 4000000

namespace K16
open PySem PySem.Spec PyProof.Rows L2 LL
def topS (i : Nat) : Stmt := PySem.Challenge.pw_evenhall_k16_sums_by_months.main.body.getD i (.Pass ⟨0, 0, 0, 0⟩)
abbrev s_has_leap_day : Stmt := topS 3
theorem sc_has_leap_day : FnScope ["year"] ["year"] (defScope s_has_leap_day) := ⟨rfl, rfl, rfl, by decide +kernel, rfl, by decide +kernel, by decide +kernel⟩
abbrev s_days_ahead : Stmt := topS 4
theorem sc_days_ahead : FnScope ["year", "gone", "leaps"] ["year"] (defScope s_days_ahead) := ⟨rfl, rfl, rfl, by decide +kernel, rfl, by decide +kernel, by decide +kernel⟩
abbrev s_days_in : Stmt := topS 5
theorem sc_days_in : FnScope ["year", "month"] ["year", "month"] (defScope s_days_in) := ⟨rfl, rfl, rfl, by decide +kernel, rfl, by decide +kernel, by decide +kernel⟩
abbrev s_parts_of : Stmt := topS 6
theorem sc_parts_of : FnScope ["day", "year", "month", "left"] ["day"] (defScope s_parts_of) := ⟨rfl, rfl, rfl, by decide +kernel, rfl, by decide +kernel, by decide +kernel⟩
abbrev s_month_of : Stmt := topS 7
theorem sc_month_of : FnScope ["day", "year", "month", "place"] ["day"] (defScope s_month_of) := ⟨rfl, rfl, rfl, by decide +kernel, rfl, by decide +kernel, by decide +kernel⟩
abbrev s_Sums___init__ : Stmt := inClass (topS 9) 0
theorem sc_Sums___init__ : FnScope ["self"] ["self"] (defScope s_Sums___init__) := ⟨rfl, rfl, rfl, by decide +kernel, rfl, by decide +kernel, by decide +kernel⟩
abbrev s_Sums_put : Stmt := inClass (topS 9) 1
theorem sc_Sums_put : FnScope ["self", "booking", "month", "path", "currency", "amount", "months"] ["self", "booking"] (defScope s_Sums_put) := ⟨rfl, rfl, rfl, by decide +kernel, rfl, by decide +kernel, by decide +kernel⟩
abbrev s_Sums_own : Stmt := inClass (topS 9) 2
theorem sc_Sums_own : FnScope ["self", "path", "currency", "first", "last", "months", "month"] ["self", "path", "currency", "first", "last"] (defScope s_Sums_own) := ⟨rfl, rfl, rfl, by decide +kernel, rfl, by decide +kernel, by decide +kernel⟩
abbrev s_Sums_standing : Stmt := inClass (topS 9) 3
theorem sc_Sums_standing : FnScope ["self", "path", "currency", "month", "months", "one"] ["self", "path", "currency", "month"] (defScope s_Sums_standing) := ⟨rfl, rfl, rfl, by decide +kernel, rfl, by decide +kernel, by decide +kernel⟩
abbrev s_Sums_currencies : Stmt := inClass (topS 9) 4
theorem sc_Sums_currencies : FnScope ["self", "path", "pair"] ["self", "path"] (defScope s_Sums_currencies) := ⟨rfl, rfl, rfl, by decide +kernel, rfl, by decide +kernel, by decide +kernel⟩
abbrev s__law_cell_at : Stmt := topS 11
theorem sc__law_cell_at : FnScope ["_law_script", "_law_k"] ["_law_script", "_law_k"] (defScope s__law_cell_at) := ⟨rfl, rfl, rfl, by decide +kernel, rfl, by decide +kernel, by decide +kernel⟩
abbrev s__law_mixed : Stmt := topS 12
theorem sc__law_mixed : FnScope ["_law_cell", "_law_k"] ["_law_cell", "_law_k"] (defScope s__law_mixed) := ⟨rfl, rfl, rfl, by decide +kernel, rfl, by decide +kernel, by decide +kernel⟩
abbrev s__law_whole : Stmt := topS 13
theorem sc__law_whole : FnScope ["_law_found"] ["_law_found"] (defScope s__law_whole) := ⟨rfl, rfl, rfl, by decide +kernel, rfl, by decide +kernel, by decide +kernel⟩
abbrev s__law_names : Stmt := topS 14
theorem sc__law_names : FnScope ["_law_cell", "_law_letters", "_law_size", "_law_step", "_law_word", "_law_at", "_law_names_here", "_law_k", "_law_sign"] ["_law_cell"] (defScope s__law_names) := ⟨rfl, rfl, rfl, by decide +kernel, rfl, by decide +kernel, by decide +kernel⟩
abbrev s__law_paths : Stmt := topS 15
theorem sc__law_paths : FnScope ["_law_script", "_law_many", "_law_names_here", "_law_paths_here", "_law_k", "_law_cell", "_law_ahead", "_law_path"] ["_law_script", "_law_many"] (defScope s__law_paths) := ⟨rfl, rfl, rfl, by decide +kernel, rfl, by decide +kernel, by decide +kernel⟩
abbrev s__law_currencies : Stmt := topS 16
theorem sc__law_currencies : FnScope ["_law_cell", "_law_letters", "_law_word", "_law_at", "_law_k"] ["_law_cell"] (defScope s__law_currencies) := ⟨rfl, rfl, rfl, by decide +kernel, rfl, by decide +kernel, by decide +kernel⟩
abbrev s__law_first : Stmt := topS 17
theorem sc__law_first : FnScope ["_law_month", "_law_year", "_law_day_here", "_law_long_year", "_law_place"] ["_law_month"] (defScope s__law_first) := ⟨rfl, rfl, rfl, by decide +kernel, rfl, by decide +kernel, by decide +kernel⟩
abbrev s__law_day : Stmt := topS 18
theorem sc__law_day : FnScope ["_law_cell", "_law_month"] ["_law_cell", "_law_month"] (defScope s__law_day) := ⟨rfl, rfl, rfl, by decide +kernel, rfl, by decide +kernel, by decide +kernel⟩
abbrev s__law_amount : Stmt := topS 19
theorem sc__law_amount : FnScope ["_law_cell", "_law_some"] ["_law_cell"] (defScope s__law_amount) := ⟨rfl, rfl, rfl, by decide +kernel, rfl, by decide +kernel, by decide +kernel⟩
abbrev s__law_rows : Stmt := topS 20
theorem sc__law_rows : FnScope ["_law_cell", "_law_paths_here", "_law_currencies_here", "_law_rows_here", "_law_k", "_law_path", "_law_currency"] ["_law_cell", "_law_paths_here", "_law_currencies_here"] (defScope s__law_rows) := ⟨rfl, rfl, rfl, by decide +kernel, rfl, by decide +kernel, by decide +kernel⟩
abbrev s__law_stretch : Stmt := topS 21
theorem sc__law_stretch : FnScope ["_law_cell", "_law_base", "_law_first_here", "_law_last"] ["_law_cell", "_law_base"] (defScope s__law_stretch) := ⟨rfl, rfl, rfl, by decide +kernel, rfl, by decide +kernel, by decide +kernel⟩
abbrev s__law_answers : Stmt := topS 22
theorem sc__law_answers : FnScope ["_law_found", "_law_path", "_law_currency", "_law_stretch_here", "_law_turn", "_law_answers_here", "_law_way"] ["_law_found", "_law_path", "_law_currency", "_law_stretch_here", "_law_turn"] (defScope s__law_answers) := ⟨rfl, rfl, rfl, by decide +kernel, rfl, by decide +kernel, by decide +kernel⟩
abbrev s__law_told : Stmt := topS 23
theorem sc__law_told : FnScope ["_law_found", "_law_rows_here", "_law_path", "_law_currency", "_law_stretch_here", "_law_held", "_law_turn", "_law_first_here", "_law_last", "_law_mine", "_law_here", "_law_own", "_law_standing", "_law_told_here", "_law_due", "_law_row"] ["_law_found", "_law_rows_here", "_law_path", "_law_currency", "_law_stretch_here", "_law_held", "_law_turn"] (defScope s__law_told) := ⟨rfl, rfl, rfl, by decide +kernel, rfl, by decide +kernel, by decide +kernel⟩
abbrev s_law : Stmt := topS 24
theorem sc_law : FnScope ["_law_script", "_law_base", "_law_paths_here", "_law_currencies_here", "_law_both", "_law_rows_here", "_law_held", "_law_k", "_law_cell", "_law_at", "_law_path", "_law_currency", "_law_stretch_here", "_law_turn", "_law_month", "_law_some_rows", "_law_part", "_law_pair"] ["_law_script"] (defScope s_law) := ⟨rfl, rfl, rfl, by decide +kernel, rfl, by decide +kernel, by decide +kernel⟩
abbrev nm_Sums : List Str := ["kept"]
theorem ix_Sums_kept : idxF nm_Sums "kept" = some 0 := by decide +kernel
theorem no_Sums_put : idxF nm_Sums "put" = none := by decide +kernel
theorem no_Sums_own : idxF nm_Sums "own" = none := by decide +kernel
theorem no_Sums_standing : idxF nm_Sums "standing" = none := by decide +kernel
theorem no_Sums_currencies : idxF nm_Sums "currencies" = none := by decide +kernel
structure Txt (K : PySem.W.Frag) (mg : Str → Option Value) where
  a_has_leap_day : Addr
  d_has_leap_day : FuncData
  F_has_leap_day : Fun K "has_leap_day" "has_leap_day" s_has_leap_day a_has_leap_day d_has_leap_day
  b_has_leap_day : Binds K d_has_leap_day ["year"] []
  m_has_leap_day : mg "has_leap_day" = some (.ref a_has_leap_day)
  a_days_ahead : Addr
  d_days_ahead : FuncData
  F_days_ahead : Fun K "days_ahead" "days_ahead" s_days_ahead a_days_ahead d_days_ahead
  b_days_ahead : Binds K d_days_ahead ["year"] []
  m_days_ahead : mg "days_ahead" = some (.ref a_days_ahead)
  a_days_in : Addr
  d_days_in : FuncData
  F_days_in : Fun K "days_in" "days_in" s_days_in a_days_in d_days_in
  b_days_in : Binds K d_days_in ["year", "month"] []
  m_days_in : mg "days_in" = some (.ref a_days_in)
  a_parts_of : Addr
  d_parts_of : FuncData
  F_parts_of : Fun K "parts_of" "parts_of" s_parts_of a_parts_of d_parts_of
  b_parts_of : Binds K d_parts_of ["day"] []
  m_parts_of : mg "parts_of" = some (.ref a_parts_of)
  a_month_of : Addr
  d_month_of : FuncData
  F_month_of : Fun K "month_of" "month_of" s_month_of a_month_of d_month_of
  b_month_of : Binds K d_month_of ["day"] []
  m_month_of : mg "month_of" = some (.ref a_month_of)
  a_Sums___init__ : Addr
  d_Sums___init__ : FuncData
  F_Sums___init__ : Fun K "__init__" "Sums.__init__" s_Sums___init__ a_Sums___init__ d_Sums___init__
  b_Sums___init__ : Binds K d_Sums___init__ ["self"] []
  a_Sums_put : Addr
  d_Sums_put : FuncData
  F_Sums_put : Fun K "put" "Sums.put" s_Sums_put a_Sums_put d_Sums_put
  b_Sums_put : Binds K d_Sums_put ["self", "booking"] []
  a_Sums_own : Addr
  d_Sums_own : FuncData
  F_Sums_own : Fun K "own" "Sums.own" s_Sums_own a_Sums_own d_Sums_own
  b_Sums_own : Binds K d_Sums_own ["self", "path", "currency", "first", "last"] []
  a_Sums_standing : Addr
  d_Sums_standing : FuncData
  F_Sums_standing : Fun K "standing" "Sums.standing" s_Sums_standing a_Sums_standing d_Sums_standing
  b_Sums_standing : Binds K d_Sums_standing ["self", "path", "currency", "month"] []
  a_Sums_currencies : Addr
  d_Sums_currencies : FuncData
  F_Sums_currencies : Fun K "currencies" "Sums.currencies" s_Sums_currencies a_Sums_currencies d_Sums_currencies
  b_Sums_currencies : Binds K d_Sums_currencies ["self", "path"] []
  a__law_cell_at : Addr
  d__law_cell_at : FuncData
  F__law_cell_at : Fun K "_law_cell_at" "_law_cell_at" s__law_cell_at a__law_cell_at d__law_cell_at
  b__law_cell_at : Binds K d__law_cell_at ["_law_script", "_law_k"] []
  m__law_cell_at : mg "_law_cell_at" = some (.ref a__law_cell_at)
  a__law_mixed : Addr
  d__law_mixed : FuncData
  F__law_mixed : Fun K "_law_mixed" "_law_mixed" s__law_mixed a__law_mixed d__law_mixed
  b__law_mixed : Binds K d__law_mixed ["_law_cell", "_law_k"] []
  m__law_mixed : mg "_law_mixed" = some (.ref a__law_mixed)
  a__law_whole : Addr
  d__law_whole : FuncData
  F__law_whole : Fun K "_law_whole" "_law_whole" s__law_whole a__law_whole d__law_whole
  b__law_whole : Binds K d__law_whole ["_law_found"] []
  m__law_whole : mg "_law_whole" = some (.ref a__law_whole)
  a__law_names : Addr
  d__law_names : FuncData
  F__law_names : Fun K "_law_names" "_law_names" s__law_names a__law_names d__law_names
  b__law_names : Binds K d__law_names ["_law_cell"] []
  m__law_names : mg "_law_names" = some (.ref a__law_names)
  a__law_paths : Addr
  d__law_paths : FuncData
  F__law_paths : Fun K "_law_paths" "_law_paths" s__law_paths a__law_paths d__law_paths
  b__law_paths : Binds K d__law_paths ["_law_script", "_law_many"] []
  m__law_paths : mg "_law_paths" = some (.ref a__law_paths)
  a__law_currencies : Addr
  d__law_currencies : FuncData
  F__law_currencies : Fun K "_law_currencies" "_law_currencies" s__law_currencies a__law_currencies d__law_currencies
  b__law_currencies : Binds K d__law_currencies ["_law_cell"] []
  m__law_currencies : mg "_law_currencies" = some (.ref a__law_currencies)
  a__law_first : Addr
  d__law_first : FuncData
  F__law_first : Fun K "_law_first" "_law_first" s__law_first a__law_first d__law_first
  b__law_first : Binds K d__law_first ["_law_month"] []
  m__law_first : mg "_law_first" = some (.ref a__law_first)
  a__law_day : Addr
  d__law_day : FuncData
  F__law_day : Fun K "_law_day" "_law_day" s__law_day a__law_day d__law_day
  b__law_day : Binds K d__law_day ["_law_cell", "_law_month"] []
  m__law_day : mg "_law_day" = some (.ref a__law_day)
  a__law_amount : Addr
  d__law_amount : FuncData
  F__law_amount : Fun K "_law_amount" "_law_amount" s__law_amount a__law_amount d__law_amount
  b__law_amount : Binds K d__law_amount ["_law_cell"] []
  m__law_amount : mg "_law_amount" = some (.ref a__law_amount)
  a__law_rows : Addr
  d__law_rows : FuncData
  F__law_rows : Fun K "_law_rows" "_law_rows" s__law_rows a__law_rows d__law_rows
  b__law_rows : Binds K d__law_rows ["_law_cell", "_law_paths_here", "_law_currencies_here"] []
  m__law_rows : mg "_law_rows" = some (.ref a__law_rows)
  a__law_stretch : Addr
  d__law_stretch : FuncData
  F__law_stretch : Fun K "_law_stretch" "_law_stretch" s__law_stretch a__law_stretch d__law_stretch
  b__law_stretch : Binds K d__law_stretch ["_law_cell", "_law_base"] []
  m__law_stretch : mg "_law_stretch" = some (.ref a__law_stretch)
  a__law_answers : Addr
  d__law_answers : FuncData
  F__law_answers : Fun K "_law_answers" "_law_answers" s__law_answers a__law_answers d__law_answers
  b__law_answers : Binds K d__law_answers ["_law_found", "_law_path", "_law_currency", "_law_stretch_here", "_law_turn"] []
  m__law_answers : mg "_law_answers" = some (.ref a__law_answers)
  a__law_told : Addr
  d__law_told : FuncData
  F__law_told : Fun K "_law_told" "_law_told" s__law_told a__law_told d__law_told
  b__law_told : Binds K d__law_told ["_law_found", "_law_rows_here", "_law_path", "_law_currency", "_law_stretch_here", "_law_held", "_law_turn"] []
  m__law_told : mg "_law_told" = some (.ref a__law_told)
  a_law : Addr
  d_law : FuncData
  F_law : Fun K "law" "law" s_law a_law d_law
  b_law : Binds K d_law ["_law_script"] []
  m_law : mg "law" = some (.ref a_law)
  C_Sums : Addr
  L_Sums : Cls K C_Sums
  G_Sums : mg "Sums" = some (.ref C_Sums)
  A_Sums_kept : NoAttr K C_Sums "kept"
  Mk_Sums : Mk K C_Sums a_Sums___init__
  E_Sums_put : Meth K C_Sums "put" a_Sums_put
  E_Sums_own : Meth K C_Sums "own" a_Sums_own
  E_Sums_standing : Meth K C_Sums "standing" a_Sums_standing
  E_Sums_currencies : Meth K C_Sums "currencies" a_Sums_currencies
  z_all : mg "all" = none
  z_bool : mg "bool" = none
  z_int : mg "int" = none
  z_isinstance : mg "isinstance" = none
  z_len : mg "len" = none
  z_list : mg "list" = none
  z_min : mg "min" = none
  z_range : mg "range" = none
  z_set : mg "set" = none
  z_sorted : mg "sorted" = none
  z_sum : mg "sum" = none
  z_tuple : mg "tuple" = none
  c_FIRST_YEAR : ∃ u, mg "FIRST_YEAR" = some u ∧ RelV (.int 2000) u
  c_LONG : ∃ a, mg "LONG" = some (.ref a) ∧ ∀ H, SqT K H a [.int 31, .int 28, .int 31, .int 30, .int 31, .int 30, .int 31, .int 31, .int 30, .int 31, .int 30, .int 31]
section
variable {P : Program} {w : World} {K : PySem.W.Frag} {mg : Str → Option Value} {base : Heap}
def TT (t : Txt K mg) : Env1 := ⟨fun n => match n with | 100 => t.C_Sums | _ => 0, fun n => match n with | 100 => nm_Sums | _ => []⟩
theorem ok_has_leap_day (t : Txt K mg) : FnOk P w K mg base (L2N.CX P w) 2 t.a_has_leap_day t.d_has_leap_day ["year"] (spF K (TT t) f_has_leap_day) := by
  refine fn_ok (N := ["year"]) (g := g_has_leap_day) (t := false) t.F_has_leap_day sc_has_leap_day (fun cdv A outer s H E hr => ?_)
  have tk := L2N.takes_of (X := cxOf (L2N.CX P w) P w K mg base ["year"] "has_leap_day" (defScope s_has_leap_day) t.a_has_leap_day cdv A outer s H E) (E := E) rfl rfl rfl rfl
  have po := passes_of (X := cxOf (L2N.CX P w) P w K mg base ["year"] "has_leap_day" (defScope s_has_leap_day) t.a_has_leap_day cdv A outer s H E) rfl
  exact (sl_one (sl_ret (pl_and (pl_cp (c_eq hr.units) (pl_mod (pl_var 0) pl_int) pl_int) (pl_one (pl_or (pl_cp (c_ne hr.units) (pl_mod (pl_var 0) pl_int) pl_int) (pl_one (pl_cp (c_eq hr.units) (pl_mod (pl_var 0) pl_int) pl_int)))))))
theorem ok_days_ahead (t : Txt K mg) : FnOk P w K mg base (L2N.CX P w) 2 t.a_days_ahead t.d_days_ahead ["year"] (spF K (TT t) f_days_ahead) := by
  refine fn_ok (N := ["year", "gone", "leaps"]) (g := g_days_ahead) (t := false) t.F_days_ahead sc_days_ahead (fun cdv A outer s H E hr => ?_)
  have tk := L2N.takes_of (X := cxOf (L2N.CX P w) P w K mg base ["year", "gone", "leaps"] "days_ahead" (defScope s_days_ahead) t.a_days_ahead cdv A outer s H E) (E := E) rfl rfl rfl rfl
  have po := passes_of (X := cxOf (L2N.CX P w) P w K mg base ["year", "gone", "leaps"] "days_ahead" (defScope s_days_ahead) t.a_days_ahead cdv A outer s H E) rfl
  exact (sl_cons (sl_set 1 sc_days_ahead.nd (pl_sub (pl_var 0) (pl_glob (v := .int 2000) (y := .int 2000) (by rfl) t.c_FIRST_YEAR.choose_spec.1 t.c_FIRST_YEAR.choose_spec.2 (fun _ _ => rfl))))
  (sl_cons (sl_set 2 sc_days_ahead.nd (pl_add (pl_sub (pl_fdiv (pl_add (pl_var 1) pl_int) pl_int) (pl_fdiv (pl_add (pl_var 1) pl_int) pl_int)) (pl_fdiv (pl_add (pl_var 1) pl_int) pl_int)))
  (sl_one (sl_ret (pl_add (pl_mul pl_int (pl_var 1)) (pl_var 2))))))
theorem ok_days_in (t : Txt K mg) : FnOk P w K mg base (L2N.CX P w) 4 t.a_days_in t.d_days_in ["year", "month"] (spF K (TT t) f_days_in) := by
  refine fn_ok (N := ["year", "month"]) (g := g_days_in) (t := false) t.F_days_in sc_days_in (fun cdv A outer s H E hr => ?_)
  have tk := L2N.takes_of (X := cxOf (L2N.CX P w) P w K mg base ["year", "month"] "days_in" (defScope s_days_in) t.a_days_in cdv A outer s H E) (E := E) rfl rfl rfl rfl
  have po := passes_of (X := cxOf (L2N.CX P w) P w K mg base ["year", "month"] "days_in" (defScope s_days_in) t.a_days_in cdv A outer s H E) rfl
  exact (sl_cons (sl_if (tt_w (tw_and (tt_cp (c_eq hr.units) (pl_var 1) pl_int) (tw_and1 (tt_val (pl_call (ok_has_leap_day t) tk (hr.mono (by decide)) (by rfl) t.m_has_leap_day t.F_has_leap_day.kp t.b_has_leap_day (pl_cons (pl_var 0) pl_nil))))))
  (sl_one (sl_ret pl_int))
  sl_nil)
  (sl_one (sl_ret (pl_ix hr.units (pl_globT (vs := [.int 31, .int 28, .int 31, .int 30, .int 31, .int 30, .int 31, .int 31, .int 30, .int 31, .int 30, .int 31]) (xs := [.int 31, .int 28, .int 31, .int 30, .int 31, .int 30, .int 31, .int 31, .int 30, .int 31, .int 30, .int 31]) t.c_LONG (by rfl) (fun _ _ => RVs.cons rfl (RVs.cons rfl (RVs.cons rfl (RVs.cons rfl (RVs.cons rfl (RVs.cons rfl (RVs.cons rfl (RVs.cons rfl (RVs.cons rfl (RVs.cons rfl (RVs.cons rfl (RVs.cons rfl (RVs.nil)))))))))))))) (pl_sub (pl_var 1) pl_int)))))
theorem ok_parts_of (t : Txt K mg) : FnOk P w K mg base (L2N.CX P w) 6 t.a_parts_of t.d_parts_of ["day"] (spF K (TT t) f_parts_of) := by
  refine fn_ok (N := ["day", "year", "month", "left"]) (g := g_parts_of) (t := false) t.F_parts_of sc_parts_of (fun cdv A outer s H E hr => ?_)
  have tk := L2N.takes_of (X := cxOf (L2N.CX P w) P w K mg base ["day", "year", "month", "left"] "parts_of" (defScope s_parts_of) t.a_parts_of cdv A outer s H E) (E := E) rfl rfl rfl rfl
  have po := passes_of (X := cxOf (L2N.CX P w) P w K mg base ["day", "year", "month", "left"] "parts_of" (defScope s_parts_of) t.a_parts_of cdv A outer s H E) rfl
  exact (sl_cons (sl_set 1 sc_parts_of.nd (pl_add (pl_glob (v := .int 2000) (y := .int 2000) (by rfl) t.c_FIRST_YEAR.choose_spec.1 t.c_FIRST_YEAR.choose_spec.2 (fun _ _ => rfl)) (pl_fdiv (pl_var 0) pl_int)))
  (sl_cons (sl_while 1000 po (tt_cp c_le (pl_call (ok_days_ahead t) tk (hr.mono (by decide)) (by rfl) t.m_days_ahead t.F_days_ahead.kp t.b_days_ahead (pl_cons (pl_add (pl_var 1) pl_int) pl_nil)) (pl_var 0))
  (sl_one (sl_set 1 sc_parts_of.nd (pl_add (pl_var 1) pl_int))))
  (sl_cons (sl_set 2 sc_parts_of.nd pl_int)
  (sl_cons (sl_set 3 sc_parts_of.nd (pl_sub (pl_var 0) (pl_call (ok_days_ahead t) tk (hr.mono (by decide)) (by rfl) t.m_days_ahead t.F_days_ahead.kp t.b_days_ahead (pl_cons (pl_var 1) pl_nil))))
  (sl_cons (sl_while 1000 po (tt_cp c_ge (pl_var 3) (pl_call (ok_days_in t) tk (hr.mono (by decide)) (by rfl) t.m_days_in t.F_days_in.kp t.b_days_in (pl_cons (pl_var 1) (pl_cons (pl_var 2) pl_nil))))
  (sl_cons (sl_set 3 sc_parts_of.nd (pl_sub (pl_var 3) (pl_call (ok_days_in t) tk (hr.mono (by decide)) (by rfl) t.m_days_in t.F_days_in.kp t.b_days_in (pl_cons (pl_var 1) (pl_cons (pl_var 2) pl_nil)))))
  (sl_one (sl_set 2 sc_parts_of.nd (pl_add (pl_var 2) pl_int)))))
  (sl_one (sl_ret (pl_tup (pl_cons (pl_var 1) (pl_cons (pl_var 2) (pl_cons (pl_add (pl_var 3) pl_int) pl_nil)))))))))))
theorem ok_month_of (t : Txt K mg) : FnOk P w K mg base (L2N.CX P w) 8 t.a_month_of t.d_month_of ["day"] (spF K (TT t) f_month_of) := by
  refine fn_ok (N := ["day", "year", "month", "place"]) (g := g_month_of) (t := false) t.F_month_of sc_month_of (fun cdv A outer s H E hr => ?_)
  have tk := L2N.takes_of (X := cxOf (L2N.CX P w) P w K mg base ["day", "year", "month", "place"] "month_of" (defScope s_month_of) t.a_month_of cdv A outer s H E) (E := E) rfl rfl rfl rfl
  have po := passes_of (X := cxOf (L2N.CX P w) P w K mg base ["day", "year", "month", "place"] "month_of" (defScope s_month_of) t.a_month_of cdv A outer s H E) rfl
  exact (sl_cons (sl_asg (pl_call (ok_parts_of t) tk (hr.mono (by decide)) (by rfl) t.m_parts_of t.F_parts_of.kp t.b_parts_of (pl_cons (pl_var 0) pl_nil)) (gl_tup 3 rfl (gsl_cons (gl_name 1 sc_month_of.nd) (gsl_cons (gl_name 2 sc_month_of.nd) (gsl_cons (gl_name 3 sc_month_of.nd) gsl_nil))) (gs_len1 (gs_len1 (gs_len1 gs_len0)))))
  (sl_one (sl_ret (pl_sub (pl_add (pl_mul pl_int (pl_sub (pl_var 1) (pl_glob (v := .int 2000) (y := .int 2000) (by rfl) t.c_FIRST_YEAR.choose_spec.1 t.c_FIRST_YEAR.choose_spec.2 (fun _ _ => rfl)))) (pl_var 2)) pl_int))))
theorem ok_Sums___init__ (t : Txt K mg) : FnOk P w K mg base (L2N.CX P w) 2 t.a_Sums___init__ t.d_Sums___init__ ["self"] (spF K (TT t) f_Sums___init__) := by
  refine fn_ok (N := ["self"]) (g := g_Sums___init__) (t := false) t.F_Sums___init__ sc_Sums___init__ (fun cdv A outer s H E hr => ?_)
  have tk := L2N.takes_of (X := cxOf (L2N.CX P w) P w K mg base ["self"] "Sums.__init__" (defScope s_Sums___init__) t.a_Sums___init__ cdv A outer s H E) (E := E) rfl rfl rfl rfl
  have po := passes_of (X := cxOf (L2N.CX P w) P w K mg base ["self"] "Sums.__init__" (defScope s_Sums___init__) t.a_Sums___init__ cdv A outer s H E) rfl
  exact (sl_one (sl_fld (c := 100) (i := 0) (nm := nm_Sums) rfl rfl ix_Sums_kept t.L_Sums t.A_Sums_kept pl_dnewT (pl_var 0)))
theorem ok_Sums_put (t : Txt K mg) : FnOk P w K mg base (L2N.CX P w) 10 t.a_Sums_put t.d_Sums_put ["self", "booking"] (spF K (TT t) f_Sums_put) := by
  refine fn_okN (N := ["self", "booking", "month", "path", "currency", "amount", "months"]) (g := g_Sums_put) t.F_Sums_put sc_Sums_put (fun cdv A outer s H E hr => ?_)
  have tk := L2N.takes_of (X := cxOf (L2N.CX P w) P w K mg base ["self", "booking", "month", "path", "currency", "amount", "months"] "Sums.put" (defScope s_Sums_put) t.a_Sums_put cdv A outer s H E) (E := E) rfl rfl rfl rfl
  have po := passes_of (X := cxOf (L2N.CX P w) P w K mg base ["self", "booking", "month", "path", "currency", "amount", "months"] "Sums.put" (defScope s_Sums_put) t.a_Sums_put cdv A outer s H E) rfl
  exact (sl_cons (sl_set 2 sc_Sums_put.nd (pl_call (ok_month_of t) tk (hr.mono (by decide)) (by rfl) t.m_month_of t.F_month_of.kp t.b_month_of (pl_cons (pl_ix hr.units (pl_var 1) pl_int) pl_nil)))
  (sl_one (sl_for po rfl (il_val (pl_ix hr.units (pl_var 1) pl_int)) (gl_tup 3 rfl (gsl_cons (gl_name 3 sc_Sums_put.nd) (gsl_cons (gl_name 4 sc_Sums_put.nd) (gsl_cons (gl_name 5 sc_Sums_put.nd) gsl_nil))) (gs_len1 (gs_len1 (gs_len1 gs_len0))))
  (sl_cons (sl_set 6 sc_Sums_put.nd (pl_setd hr (pl_fld (c := 100) (i := 0) (nm := nm_Sums) rfl rfl ix_Sums_kept t.L_Sums t.A_Sums_kept (pl_var 0)) (pl_tup (pl_cons (pl_var 3) (pl_cons (pl_var 4) pl_nil))) pl_dnew))
  (sl_one (sl_sub hr (pl_add (pl_get2 hr (pl_var 6) (pl_var 2) pl_int) (pl_var 5)) (pl_var 6) (pl_var 2)))))))
theorem ok_Sums_own_T (t : Txt K mg) : FnOk P w K mg base (L2N.CX P w) 2 t.a_Sums_own t.d_Sums_own ["self", "path", "currency", "first", "last"] (spF K (TT t) f_Sums_own_T) := by
  refine fn_ok (N := ["self", "path", "currency", "first", "last", "months", "month"]) (g := g_Sums_own_T) (t := true) t.F_Sums_own sc_Sums_own (fun cdv A outer s H E hr => ?_)
  have tk := L2N.takes_of (X := cxOf (L2N.CX P w) P w K mg base ["self", "path", "currency", "first", "last", "months", "month"] "Sums.own" (defScope s_Sums_own) t.a_Sums_own cdv A outer s H E) (E := E) rfl rfl rfl rfl
  have po := passes_of (X := cxOf (L2N.CX P w) P w K mg base ["self", "path", "currency", "first", "last", "months", "month"] "Sums.own" (defScope s_Sums_own) t.a_Sums_own cdv A outer s H E) rfl
  exact (sl_cons (sl_set 5 sc_Sums_own.nd (pl_get2 hr (pl_fld (c := 100) (i := 0) (nm := nm_Sums) rfl rfl ix_Sums_kept t.L_Sums t.A_Sums_kept (pl_var 0)) (pl_tup (pl_cons (pl_var 1) (pl_cons (pl_var 2) pl_nil))) pl_dnew))
  (sl_one (sl_ret (pl_bi (cr_sum rfl) cl_sum (by rfl) t.z_sum (by decide +kernel) (pl_cons (pl_lock (fd := (lVar 5)) (pl_lc (own := [("month", 6)]) rfl sc_Sums_own.nd (il_dict (pl_var 5)) (blkOk_by (N := ["self", "path", "currency", "first", "last", "months", "month"]) (sc := (defScope s_Sums_own)) (by decide +kernel)) (fun _ _ _ _ _ => (gc_name 6 sc_Sums_own.nd (by decide))) (fun _ _ _ _ _ => (pt_one (tt_ch c_le c_le (pl_var 3) (pl_var 6) (pl_var 4)))) (fun _ _ _ _ _ => (pl_ix hr.units (pl_var 5) (pl_var 6))))) pl_nil)))))
theorem ok_Sums_standing_T (t : Txt K mg) : FnOk P w K mg base (L2N.CX P w) 2 t.a_Sums_standing t.d_Sums_standing ["self", "path", "currency", "month"] (spF K (TT t) f_Sums_standing_T) := by
  refine fn_ok (N := ["self", "path", "currency", "month", "months", "one"]) (g := g_Sums_standing_T) (t := true) t.F_Sums_standing sc_Sums_standing (fun cdv A outer s H E hr => ?_)
  have tk := L2N.takes_of (X := cxOf (L2N.CX P w) P w K mg base ["self", "path", "currency", "month", "months", "one"] "Sums.standing" (defScope s_Sums_standing) t.a_Sums_standing cdv A outer s H E) (E := E) rfl rfl rfl rfl
  have po := passes_of (X := cxOf (L2N.CX P w) P w K mg base ["self", "path", "currency", "month", "months", "one"] "Sums.standing" (defScope s_Sums_standing) t.a_Sums_standing cdv A outer s H E) rfl
  exact (sl_cons (sl_set 4 sc_Sums_standing.nd (pl_get2 hr (pl_fld (c := 100) (i := 0) (nm := nm_Sums) rfl rfl ix_Sums_kept t.L_Sums t.A_Sums_kept (pl_var 0)) (pl_tup (pl_cons (pl_var 1) (pl_cons (pl_var 2) pl_nil))) pl_dnew))
  (sl_one (sl_ret (pl_bi (cr_sum rfl) cl_sum (by rfl) t.z_sum (by decide +kernel) (pl_cons (pl_lock (fd := (lVar 4)) (pl_lc (own := [("one", 5)]) rfl sc_Sums_standing.nd (il_dict (pl_var 4)) (blkOk_by (N := ["self", "path", "currency", "month", "months", "one"]) (sc := (defScope s_Sums_standing)) (by decide +kernel)) (fun _ _ _ _ _ => (gc_name 5 sc_Sums_standing.nd (by decide))) (fun _ _ _ _ _ => (pt_one (tt_cp c_le (pl_var 5) (pl_var 3)))) (fun _ _ _ _ _ => (pl_ix hr.units (pl_var 4) (pl_var 5))))) pl_nil)))))
theorem ok_Sums_currencies (t : Txt K mg) : FnOk P w K mg base (L2N.CX P w) 2 t.a_Sums_currencies t.d_Sums_currencies ["self", "path"] (spF K (TT t) f_Sums_currencies) := by
  refine fn_ok (N := ["self", "path", "pair"]) (g := g_Sums_currencies) (t := false) t.F_Sums_currencies sc_Sums_currencies (fun cdv A outer s H E hr => ?_)
  have tk := L2N.takes_of (X := cxOf (L2N.CX P w) P w K mg base ["self", "path", "pair"] "Sums.currencies" (defScope s_Sums_currencies) t.a_Sums_currencies cdv A outer s H E) (E := E) rfl rfl rfl rfl
  have po := passes_of (X := cxOf (L2N.CX P w) P w K mg base ["self", "path", "pair"] "Sums.currencies" (defScope s_Sums_currencies) t.a_Sums_currencies cdv A outer s H E) rfl
  exact (sl_one (sl_ret (pl_bi (cr_sortedD hr.units) cl_sorted (by rfl) t.z_sorted (by decide +kernel) (pl_cons (pl_lock (fd := (lUn (fldL 100 0) (lVar 0))) (pl_lc (own := [("pair", 2)]) rfl sc_Sums_currencies.nd (il_dict (pl_fld (c := 100) (i := 0) (nm := nm_Sums) rfl rfl ix_Sums_kept t.L_Sums t.A_Sums_kept (pl_var 0))) (blkOk_by (N := ["self", "path", "pair"]) (sc := (defScope s_Sums_currencies)) (by decide +kernel)) (fun _ _ _ _ _ => (gc_name 2 sc_Sums_currencies.nd (by decide))) (fun _ _ _ _ _ => (pt_one (tt_cp (c_eq hr.units) (pl_ix hr.units (pl_var 2) pl_int) (pl_var 1)))) (fun _ _ _ _ _ => (pl_ix hr.units (pl_var 2) pl_int)))) pl_nil))))
theorem ok_Sums_currencies_T (t : Txt K mg) : FnOk P w K mg base (L2N.CX P w) 2 t.a_Sums_currencies t.d_Sums_currencies ["self", "path"] (spF K (TT t) f_Sums_currencies_T) := by
  refine fn_ok (N := ["self", "path", "pair"]) (g := g_Sums_currencies_T) (t := true) t.F_Sums_currencies sc_Sums_currencies (fun cdv A outer s H E hr => ?_)
  have tk := L2N.takes_of (X := cxOf (L2N.CX P w) P w K mg base ["self", "path", "pair"] "Sums.currencies" (defScope s_Sums_currencies) t.a_Sums_currencies cdv A outer s H E) (E := E) rfl rfl rfl rfl
  have po := passes_of (X := cxOf (L2N.CX P w) P w K mg base ["self", "path", "pair"] "Sums.currencies" (defScope s_Sums_currencies) t.a_Sums_currencies cdv A outer s H E) rfl
  exact (sl_one (sl_ret (pl_bi (cr_sortedD hr.units) cl_sorted (by rfl) t.z_sorted (by decide +kernel) (pl_cons (pl_lock (fd := (lUn (fldL 100 0) (lVar 0))) (pl_lc (own := [("pair", 2)]) rfl sc_Sums_currencies.nd (il_dict (pl_fld (c := 100) (i := 0) (nm := nm_Sums) rfl rfl ix_Sums_kept t.L_Sums t.A_Sums_kept (pl_var 0))) (blkOk_by (N := ["self", "path", "pair"]) (sc := (defScope s_Sums_currencies)) (by decide +kernel)) (fun _ _ _ _ _ => (gc_name 2 sc_Sums_currencies.nd (by decide))) (fun _ _ _ _ _ => (pt_one (tt_cp (c_eq hr.units) (pl_ix hr.units (pl_var 2) pl_int) (pl_var 1)))) (fun _ _ _ _ _ => (pl_ix hr.units (pl_var 2) pl_int)))) pl_nil))))
theorem ok__law_cell_at (t : Txt K mg) : FnOk P w K mg base (L2N.CX P w) 2 t.a__law_cell_at t.d__law_cell_at ["_law_script", "_law_k"] (spF K (TT t) f__law_cell_at) := by
  refine fn_ok (N := ["_law_script", "_law_k"]) (g := g__law_cell_at) (t := false) t.F__law_cell_at sc__law_cell_at (fun cdv A outer s H E hr => ?_)
  have tk := L2N.takes_of (X := cxOf (L2N.CX P w) P w K mg base ["_law_script", "_law_k"] "_law_cell_at" (defScope s__law_cell_at) t.a__law_cell_at cdv A outer s H E) (E := E) rfl rfl rfl rfl
  have po := passes_of (X := cxOf (L2N.CX P w) P w K mg base ["_law_script", "_law_k"] "_law_cell_at" (defScope s__law_cell_at) t.a__law_cell_at cdv A outer s H E) rfl
  exact (sl_cons (sl_if (tt_cp c_lt (pl_var 1) (pl_bi cr_lenU cl_len (by rfl) t.z_len (by decide +kernel) (pl_cons (pl_var 0) pl_nil)))
  (sl_one (sl_ret (pl_ix hr.units (pl_var 0) (pl_var 1))))
  sl_nil)
  (sl_one (sl_ret pl_int)))
theorem ok__law_mixed (t : Txt K mg) : FnOk P w K mg base (L2N.CX P w) 2 t.a__law_mixed t.d__law_mixed ["_law_cell", "_law_k"] (spF K (TT t) f__law_mixed) := by
  refine fn_ok (N := ["_law_cell", "_law_k"]) (g := g__law_mixed) (t := false) t.F__law_mixed sc__law_mixed (fun cdv A outer s H E hr => ?_)
  have tk := L2N.takes_of (X := cxOf (L2N.CX P w) P w K mg base ["_law_cell", "_law_k"] "_law_mixed" (defScope s__law_mixed) t.a__law_mixed cdv A outer s H E) (E := E) rfl rfl rfl rfl
  have po := passes_of (X := cxOf (L2N.CX P w) P w K mg base ["_law_cell", "_law_k"] "_law_mixed" (defScope s__law_mixed) t.a__law_mixed cdv A outer s H E) rfl
  exact (sl_one (sl_ret (pl_mod (pl_add (pl_add (pl_add (pl_mul (pl_var 0) pl_int) (pl_mul (pl_mul pl_int (pl_var 1)) (pl_var 1))) (pl_mul pl_int (pl_var 1))) pl_int) pl_int)))
theorem ok__law_whole (t : Txt K mg) : FnOk P w K mg base (L2N.CX P w) 2 t.a__law_whole t.d__law_whole ["_law_found"] (spF K (TT t) f__law_whole) := by
  refine fn_ok (N := ["_law_found"]) (g := g__law_whole) (t := false) t.F__law_whole sc__law_whole (fun cdv A outer s H E hr => ?_)
  have tk := L2N.takes_of (X := cxOf (L2N.CX P w) P w K mg base ["_law_found"] "_law_whole" (defScope s__law_whole) t.a__law_whole cdv A outer s H E) (E := E) rfl rfl rfl rfl
  have po := passes_of (X := cxOf (L2N.CX P w) P w K mg base ["_law_found"] "_law_whole" (defScope s__law_whole) t.a__law_whole cdv A outer s H E) rfl
  exact (sl_one (sl_ret (pl_and (pl_bi call_isi cl_isi (by rfl) t.z_isinstance (by decide +kernel) (pl_cons (pl_var 0) (pl_cons (pl_ty (n := "int") (by rfl) t.z_int (by decide +kernel)) pl_nil))) (pl_one (pl_not (pl_bi call_isi cl_isi (by rfl) t.z_isinstance (by decide +kernel) (pl_cons (pl_var 0) (pl_cons (pl_ty (n := "bool") (by rfl) t.z_bool (by decide +kernel)) pl_nil))))))))
theorem ok__law_names (t : Txt K mg) : FnOk P w K mg base (L2N.CX P w) 2 t.a__law_names t.d__law_names ["_law_cell"] (spF K (TT t) f__law_names) := by
  refine fn_ok (N := ["_law_cell", "_law_letters", "_law_size", "_law_step", "_law_word", "_law_at", "_law_names_here", "_law_k", "_law_sign"]) (g := g__law_names) (t := false) t.F__law_names sc__law_names (fun cdv A outer s H E hr => ?_)
  have tk := L2N.takes_of (X := cxOf (L2N.CX P w) P w K mg base ["_law_cell", "_law_letters", "_law_size", "_law_step", "_law_word", "_law_at", "_law_names_here", "_law_k", "_law_sign"] "_law_names" (defScope s__law_names) t.a__law_names cdv A outer s H E) (E := E) rfl rfl rfl rfl
  have po := passes_of (X := cxOf (L2N.CX P w) P w K mg base ["_law_cell", "_law_letters", "_law_size", "_law_step", "_law_word", "_law_at", "_law_names_here", "_law_k", "_law_sign"] "_law_names" (defScope s__law_names) t.a__law_names cdv A outer s H E) rfl
  exact (sl_cons (sl_set 1 sc__law_names.nd pl_str)
  (sl_cons (sl_set 2 sc__law_names.nd (pl_add pl_int (pl_mod (pl_var 0) pl_int)))
  (sl_cons (sl_set 3 sc__law_names.nd (pl_add pl_int (pl_mod (pl_fdiv (pl_var 0) pl_int) pl_int)))
  (sl_cons (sl_set 4 sc__law_names.nd (pl_bm PySem.F.plainAttrs_str PySem.F.slot_str_join PySem.F.type_str_join mt_join ml_join pl_str (pl_cons (pl_lc (own := [("_law_k", 7)]) rfl sc__law_names.nd (il_rng1 (by rfl) t.z_range (pl_cons (pl_var 2) pl_nil)) (blkOk_by (N := ["_law_cell", "_law_letters", "_law_size", "_law_step", "_law_word", "_law_at", "_law_names_here", "_law_k", "_law_sign"]) (sc := (defScope s__law_names)) (by decide +kernel)) (fun _ _ _ _ _ => (gc_name 7 sc__law_names.nd (by decide))) (fun _ _ _ _ _ => pt_yes) (fun _ _ _ _ _ => (pl_ix hr.units (pl_var 1) (pl_mod (pl_add (pl_fdiv (pl_var 0) pl_int) (pl_mul (pl_var 3) (pl_var 7))) pl_int)))) pl_nil)))
  (sl_cons (sl_set 5 sc__law_names.nd (pl_mod (pl_fdiv (pl_var 0) pl_int) (pl_add (pl_var 2) pl_int)))
  (sl_cons (sl_set 6 sc__law_names.nd (pl_lsT pl_nil))
  (sl_cons (sl_for po rfl (il_rng1 (by rfl) t.z_range (pl_cons pl_int pl_nil)) (gl_name 7 sc__law_names.nd)
  (sl_cons (sl_set 8 sc__law_names.nd (pl_ix hr.units (pl_var 1) (pl_mod (pl_add (pl_fdiv (pl_var 0) pl_int) (pl_mul pl_int (pl_var 7))) pl_int)))
  (sl_one (sl_expr (pl_bm PySem.F.plainAttrs_list PySem.F.slot_list_append PySem.F.type_list_append mt_append ml_append (pl_var 6) (pl_cons (pl_add (pl_add (pl_sl (pl_var 4) pl_ponone (pl_po (pl_var 5))) (pl_var 8)) (pl_sl (pl_var 4) (pl_po (pl_var 5)) pl_ponone)) pl_nil))))))
  (sl_one (sl_ret (pl_add (pl_var 6) (pl_lst (pl_cons (pl_var 4) pl_nil))))))))))))
theorem ok__law_paths (t : Txt K mg) : FnOk P w K mg base (L2N.CX P w) 4 t.a__law_paths t.d__law_paths ["_law_script", "_law_many"] (spF K (TT t) f__law_paths) := by
  refine fn_ok (N := ["_law_script", "_law_many", "_law_names_here", "_law_paths_here", "_law_k", "_law_cell", "_law_ahead", "_law_path"]) (g := g__law_paths) (t := false) t.F__law_paths sc__law_paths (fun cdv A outer s H E hr => ?_)
  have tk := L2N.takes_of (X := cxOf (L2N.CX P w) P w K mg base ["_law_script", "_law_many", "_law_names_here", "_law_paths_here", "_law_k", "_law_cell", "_law_ahead", "_law_path"] "_law_paths" (defScope s__law_paths) t.a__law_paths cdv A outer s H E) (E := E) rfl rfl rfl rfl
  have po := passes_of (X := cxOf (L2N.CX P w) P w K mg base ["_law_script", "_law_many", "_law_names_here", "_law_paths_here", "_law_k", "_law_cell", "_law_ahead", "_law_path"] "_law_paths" (defScope s__law_paths) t.a__law_paths cdv A outer s H E) rfl
  exact (sl_cons (sl_set 2 sc__law_paths.nd (pl_call (ok__law_names t) tk (hr.mono (by decide)) (by rfl) t.m__law_names t.F__law_names.kp t.b__law_names (pl_cons (pl_call (ok__law_cell_at t) tk (hr.mono (by decide)) (by rfl) t.m__law_cell_at t.F__law_cell_at.kp t.b__law_cell_at (pl_cons (pl_var 0) (pl_cons pl_int pl_nil))) pl_nil)))
  (sl_cons (sl_set 3 sc__law_paths.nd (pl_lsT (pl_cons (pl_ix hr.units (pl_var 2) pl_int) (pl_cons (pl_ix hr.units (pl_var 2) pl_int) pl_nil))))
  (sl_cons (sl_for po rfl (il_rng1 (by rfl) t.z_range (pl_cons (pl_var 1) pl_nil)) (gl_name 4 sc__law_paths.nd)
  (sl_cons (sl_set 5 sc__law_paths.nd (pl_call (ok__law_mixed t) tk (hr.mono (by decide)) (by rfl) t.m__law_mixed t.F__law_mixed.kp t.b__law_mixed (pl_cons (pl_call (ok__law_cell_at t) tk (hr.mono (by decide)) (by rfl) t.m__law_cell_at t.F__law_cell_at.kp t.b__law_cell_at (pl_cons (pl_var 0) (pl_cons pl_int pl_nil))) (pl_cons (pl_var 4) pl_nil))))
  (sl_cons (sl_set 6 sc__law_paths.nd (pl_ix hr.units (pl_var 3) (pl_mod (pl_var 5) (pl_bi cr_lenU cl_len (by rfl) t.z_len (by decide +kernel) (pl_cons (pl_var 3) pl_nil)))))
  (sl_cons (sl_set 7 sc__law_paths.nd (pl_add (pl_add (pl_var 6) pl_str) (pl_ix hr.units (pl_var 2) (pl_mod (pl_fdiv (pl_var 5) pl_int) pl_int))))
  (sl_one (sl_if (tt_w (tw_and (tt_cp (c_nin hr.units) (pl_var 7) (pl_var 3)) (tw_and1 (tt_cp c_lt (pl_bm PySem.F.plainAttrs_str PySem.F.slot_str_count PySem.F.type_str_count mt_count ml_count (pl_var 6) (pl_cons pl_str pl_nil)) pl_int))))
  (sl_one (sl_expr (pl_bm PySem.F.plainAttrs_list PySem.F.slot_list_append PySem.F.type_list_append mt_append ml_append (pl_var 3) (pl_cons (pl_var 7) pl_nil))))
  sl_nil))))))
  (sl_one (sl_ret (pl_var 3))))))
theorem ok__law_currencies (t : Txt K mg) : FnOk P w K mg base (L2N.CX P w) 2 t.a__law_currencies t.d__law_currencies ["_law_cell"] (spF K (TT t) f__law_currencies) := by
  refine fn_ok (N := ["_law_cell", "_law_letters", "_law_word", "_law_at", "_law_k"]) (g := g__law_currencies) (t := false) t.F__law_currencies sc__law_currencies (fun cdv A outer s H E hr => ?_)
  have tk := L2N.takes_of (X := cxOf (L2N.CX P w) P w K mg base ["_law_cell", "_law_letters", "_law_word", "_law_at", "_law_k"] "_law_currencies" (defScope s__law_currencies) t.a__law_currencies cdv A outer s H E) (E := E) rfl rfl rfl rfl
  have po := passes_of (X := cxOf (L2N.CX P w) P w K mg base ["_law_cell", "_law_letters", "_law_word", "_law_at", "_law_k"] "_law_currencies" (defScope s__law_currencies) t.a__law_currencies cdv A outer s H E) rfl
  exact (sl_cons (sl_set 1 sc__law_currencies.nd pl_str)
  (sl_cons (sl_set 2 sc__law_currencies.nd (pl_add (pl_ix hr.units (pl_var 1) (pl_mod (pl_fdiv (pl_var 0) pl_int) pl_int)) (pl_ix hr.units (pl_var 1) (pl_mod (pl_fdiv (pl_var 0) pl_int) pl_int))))
  (sl_cons (sl_set 3 sc__law_currencies.nd (pl_mod (pl_var 0) pl_int))
  (sl_one (sl_ret (pl_lc (own := [("_law_k", 4)]) rfl sc__law_currencies.nd (il_rng1 (by rfl) t.z_range (pl_cons pl_int pl_nil)) (blkOk_by (N := ["_law_cell", "_law_letters", "_law_word", "_law_at", "_law_k"]) (sc := (defScope s__law_currencies)) (by decide +kernel)) (fun _ _ _ _ _ => (gc_name 4 sc__law_currencies.nd (by decide))) (fun _ _ _ _ _ => pt_yes) (fun _ _ _ _ _ => (pl_add (pl_add (pl_sl (pl_var 2) pl_ponone (pl_po (pl_var 3))) (pl_ix hr.units (pl_var 1) (pl_mod (pl_add (pl_fdiv (pl_var 0) pl_int) (pl_mul pl_int (pl_var 4))) pl_int))) (pl_sl (pl_var 2) (pl_po (pl_var 3)) pl_ponone)))))))))
theorem ok__law_first (t : Txt K mg) : FnOk P w K mg base (L2N.CX P w) 2 t.a__law_first t.d__law_first ["_law_month"] (spF K (TT t) f__law_first) := by
  refine fn_ok (N := ["_law_month", "_law_year", "_law_day_here", "_law_long_year", "_law_place"]) (g := g__law_first) (t := false) t.F__law_first sc__law_first (fun cdv A outer s H E hr => ?_)
  have tk := L2N.takes_of (X := cxOf (L2N.CX P w) P w K mg base ["_law_month", "_law_year", "_law_day_here", "_law_long_year", "_law_place"] "_law_first" (defScope s__law_first) t.a__law_first cdv A outer s H E) (E := E) rfl rfl rfl rfl
  have po := passes_of (X := cxOf (L2N.CX P w) P w K mg base ["_law_month", "_law_year", "_law_day_here", "_law_long_year", "_law_place"] "_law_first" (defScope s__law_first) t.a__law_first cdv A outer s H E) rfl
  exact (sl_cons (sl_set 1 sc__law_first.nd (pl_fdiv (pl_var 0) pl_int))
  (sl_cons (sl_set 2 sc__law_first.nd (pl_add (pl_sub (pl_add (pl_mul pl_int (pl_var 1)) (pl_fdiv (pl_add (pl_var 1) pl_int) pl_int)) (pl_fdiv (pl_add (pl_var 1) pl_int) pl_int)) (pl_fdiv (pl_add (pl_var 1) pl_int) pl_int)))
  (sl_cons (sl_set 3 sc__law_first.nd (pl_and (pl_cp (c_eq hr.units) (pl_mod (pl_var 1) pl_int) pl_int) (pl_one (pl_or (pl_cp (c_ne hr.units) (pl_mod (pl_var 1) pl_int) pl_int) (pl_one (pl_cp (c_eq hr.units) (pl_mod (pl_var 1) pl_int) pl_int))))))
  (sl_cons (sl_for po rfl (il_rng1 (by rfl) t.z_range (pl_cons (pl_mod (pl_var 0) pl_int) pl_nil)) (gl_name 4 sc__law_first.nd)
  (sl_one (sl_set 2 sc__law_first.nd (pl_add (pl_add (pl_var 2) (pl_ix hr.units (pl_lst (pl_cons pl_int (pl_cons pl_int (pl_cons pl_int (pl_cons pl_int (pl_cons pl_int (pl_cons pl_int (pl_cons pl_int (pl_cons pl_int (pl_cons pl_int (pl_cons pl_int (pl_cons pl_int pl_nil)))))))))))) (pl_var 4))) (pl_bty cr_intU cl_int (by rfl) t.z_int (by decide +kernel) (pl_cons (pl_and (pl_cp (c_eq hr.units) (pl_var 4) pl_int) (pl_one (pl_var 3))) pl_nil))))))
  (sl_one (sl_ret (pl_var 2)))))))
theorem ok__law_day (t : Txt K mg) : FnOk P w K mg base (L2N.CX P w) 4 t.a__law_day t.d__law_day ["_law_cell", "_law_month"] (spF K (TT t) f__law_day) := by
  refine fn_ok (N := ["_law_cell", "_law_month"]) (g := g__law_day) (t := false) t.F__law_day sc__law_day (fun cdv A outer s H E hr => ?_)
  have tk := L2N.takes_of (X := cxOf (L2N.CX P w) P w K mg base ["_law_cell", "_law_month"] "_law_day" (defScope s__law_day) t.a__law_day cdv A outer s H E) (E := E) rfl rfl rfl rfl
  have po := passes_of (X := cxOf (L2N.CX P w) P w K mg base ["_law_cell", "_law_month"] "_law_day" (defScope s__law_day) t.a__law_day cdv A outer s H E) rfl
  exact (sl_cons (sl_if (tt_cp (c_eq hr.units) (pl_mod (pl_var 0) pl_int) pl_int)
  (sl_one (sl_ret (pl_call (ok__law_first t) tk (hr.mono (by decide)) (by rfl) t.m__law_first t.F__law_first.kp t.b__law_first (pl_cons (pl_var 1) pl_nil))))
  sl_nil)
  (sl_cons (sl_if (tt_cp (c_eq hr.units) (pl_mod (pl_var 0) pl_int) pl_int)
  (sl_one (sl_ret (pl_sub (pl_call (ok__law_first t) tk (hr.mono (by decide)) (by rfl) t.m__law_first t.F__law_first.kp t.b__law_first (pl_cons (pl_add (pl_var 1) pl_int) pl_nil)) pl_int)))
  sl_nil)
  (sl_one (sl_ret (pl_add (pl_call (ok__law_first t) tk (hr.mono (by decide)) (by rfl) t.m__law_first t.F__law_first.kp t.b__law_first (pl_cons (pl_var 1) pl_nil)) (pl_mod (pl_fdiv (pl_var 0) pl_int) pl_int))))))
theorem ok__law_amount (t : Txt K mg) : FnOk P w K mg base (L2N.CX P w) 2 t.a__law_amount t.d__law_amount ["_law_cell"] (spF K (TT t) f__law_amount) := by
  refine fn_ok (N := ["_law_cell", "_law_some"]) (g := g__law_amount) (t := false) t.F__law_amount sc__law_amount (fun cdv A outer s H E hr => ?_)
  have tk := L2N.takes_of (X := cxOf (L2N.CX P w) P w K mg base ["_law_cell", "_law_some"] "_law_amount" (defScope s__law_amount) t.a__law_amount cdv A outer s H E) (E := E) rfl rfl rfl rfl
  have po := passes_of (X := cxOf (L2N.CX P w) P w K mg base ["_law_cell", "_law_some"] "_law_amount" (defScope s__law_amount) t.a__law_amount cdv A outer s H E) rfl
  exact (sl_cons (sl_set 1 sc__law_amount.nd (pl_add pl_int (pl_mod (pl_fdiv (pl_var 0) pl_int) pl_int)))
  (sl_cons (sl_if (tt_cp (c_eq hr.units) (pl_mod (pl_var 0) pl_int) pl_int)
  (sl_one (sl_set 1 sc__law_amount.nd (pl_add pl_int (pl_mod (pl_mul (pl_var 0) (pl_var 0)) (pl_pow pl_int pl_int)))))
  sl_nil)
  (sl_cons (sl_if (tt_cp (c_eq hr.units) (pl_mod (pl_var 0) pl_int) pl_int)
  (sl_one (sl_set 1 sc__law_amount.nd (pl_sub (pl_pow pl_int pl_int) (pl_mod (pl_fdiv (pl_var 0) pl_int) pl_int))))
  sl_nil)
  (sl_one (sl_ret (pl_mul (pl_var 1) (pl_sub pl_int (pl_mul pl_int (pl_mod (pl_fdiv (pl_var 0) pl_int) pl_int)))))))))
theorem ok__law_rows (t : Txt K mg) : FnOk P w K mg base (L2N.CX P w) 4 t.a__law_rows t.d__law_rows ["_law_cell", "_law_paths_here", "_law_currencies_here"] (spF K (TT t) f__law_rows) := by
  refine fn_ok (N := ["_law_cell", "_law_paths_here", "_law_currencies_here", "_law_rows_here", "_law_k", "_law_path", "_law_currency"]) (g := g__law_rows) (t := false) t.F__law_rows sc__law_rows (fun cdv A outer s H E hr => ?_)
  have tk := L2N.takes_of (X := cxOf (L2N.CX P w) P w K mg base ["_law_cell", "_law_paths_here", "_law_currencies_here", "_law_rows_here", "_law_k", "_law_path", "_law_currency"] "_law_rows" (defScope s__law_rows) t.a__law_rows cdv A outer s H E) (E := E) rfl rfl rfl rfl
  have po := passes_of (X := cxOf (L2N.CX P w) P w K mg base ["_law_cell", "_law_paths_here", "_law_currencies_here", "_law_rows_here", "_law_k", "_law_path", "_law_currency"] "_law_rows" (defScope s__law_rows) t.a__law_rows cdv A outer s H E) rfl
  exact (sl_cons (sl_set 3 sc__law_rows.nd (pl_lsT pl_nil))
  (sl_cons (sl_for po rfl (il_rng1 (by rfl) t.z_range (pl_cons (pl_add pl_int (pl_mod (pl_var 0) pl_int)) pl_nil)) (gl_name 4 sc__law_rows.nd)
  (sl_cons (sl_set 5 sc__law_rows.nd (pl_ix hr.units (pl_var 1) (pl_mod (pl_call (ok__law_mixed t) tk (hr.mono (by decide)) (by rfl) t.m__law_mixed t.F__law_mixed.kp t.b__law_mixed (pl_cons (pl_var 0) (pl_cons (pl_add (pl_mul pl_int (pl_var 4)) pl_int) pl_nil))) (pl_bi cr_lenU cl_len (by rfl) t.z_len (by decide +kernel) (pl_cons (pl_var 1) pl_nil)))))
  (sl_cons (sl_set 6 sc__law_rows.nd (pl_ix hr.units (pl_var 2) (pl_mod (pl_fdiv (pl_call (ok__law_mixed t) tk (hr.mono (by decide)) (by rfl) t.m__law_mixed t.F__law_mixed.kp t.b__law_mixed (pl_cons (pl_var 0) (pl_cons (pl_add (pl_mul pl_int (pl_var 4)) pl_int) pl_nil))) pl_int) pl_int)))
  (sl_one (sl_expr (pl_bm PySem.F.plainAttrs_list PySem.F.slot_list_append PySem.F.type_list_append mt_append ml_append (pl_var 3) (pl_cons (pl_tup (pl_cons (pl_var 5) (pl_cons (pl_var 6) (pl_cons (pl_call (ok__law_amount t) tk (hr.mono (by decide)) (by rfl) t.m__law_amount t.F__law_amount.kp t.b__law_amount (pl_cons (pl_call (ok__law_mixed t) tk (hr.mono (by decide)) (by rfl) t.m__law_mixed t.F__law_mixed.kp t.b__law_mixed (pl_cons (pl_var 0) (pl_cons (pl_add (pl_mul pl_int (pl_var 4)) pl_int) pl_nil))) pl_nil)) pl_nil)))) pl_nil)))))))
  (sl_one (sl_ret (pl_bty call_tuple_of cl_tuple (by rfl) t.z_tuple (by decide +kernel) (pl_cons (pl_var 3) pl_nil))))))
theorem ok__law_stretch (t : Txt K mg) : FnOk P w K mg base (L2N.CX P w) 2 t.a__law_stretch t.d__law_stretch ["_law_cell", "_law_base"] (spF K (TT t) f__law_stretch) := by
  refine fn_ok (N := ["_law_cell", "_law_base", "_law_first_here", "_law_last"]) (g := g__law_stretch) (t := false) t.F__law_stretch sc__law_stretch (fun cdv A outer s H E hr => ?_)
  have tk := L2N.takes_of (X := cxOf (L2N.CX P w) P w K mg base ["_law_cell", "_law_base", "_law_first_here", "_law_last"] "_law_stretch" (defScope s__law_stretch) t.a__law_stretch cdv A outer s H E) (E := E) rfl rfl rfl rfl
  have po := passes_of (X := cxOf (L2N.CX P w) P w K mg base ["_law_cell", "_law_base", "_law_first_here", "_law_last"] "_law_stretch" (defScope s__law_stretch) t.a__law_stretch cdv A outer s H E) rfl
  exact (sl_cons (sl_set 2 sc__law_stretch.nd (pl_sub (pl_add (pl_var 1) (pl_mod (pl_var 0) pl_int)) pl_int))
  (sl_cons (sl_set 3 sc__law_stretch.nd (pl_sub (pl_add (pl_var 1) (pl_mod (pl_fdiv (pl_var 0) pl_int) pl_int)) pl_int))
  (sl_cons (sl_if (tt_cp (c_eq hr.units) (pl_mod (pl_fdiv (pl_var 0) pl_int) pl_int) pl_int)
  (sl_one (sl_set 2 sc__law_stretch.nd (pl_sub pl_int (pl_mod (pl_fdiv (pl_var 0) pl_int) (pl_pow pl_int pl_int)))))
  sl_nil)
  (sl_cons (sl_if (tt_cp (c_eq hr.units) (pl_mod (pl_fdiv (pl_var 0) pl_int) pl_int) pl_int)
  (sl_one (sl_set 3 sc__law_stretch.nd (pl_add pl_int (pl_mod (pl_fdiv (pl_var 0) pl_int) (pl_pow pl_int pl_int)))))
  sl_nil)
  (sl_one (sl_ret (pl_tup (pl_cons (pl_var 2) (pl_cons (pl_var 3) pl_nil)))))))))
theorem ok__law_answers_T (t : Txt K mg) : FnOk P w K mg base (L2N.CX P w) 4 t.a__law_answers t.d__law_answers ["_law_found", "_law_path", "_law_currency", "_law_stretch_here", "_law_turn"] (spF K (TT t) f__law_answers_T) := by
  refine fn_okN (N := ["_law_found", "_law_path", "_law_currency", "_law_stretch_here", "_law_turn", "_law_answers_here", "_law_way"]) (g := g__law_answers_T) t.F__law_answers sc__law_answers (fun cdv A outer s H E hr => ?_)
  have tk := L2N.takes_of (X := cxOf (L2N.CX P w) P w K mg base ["_law_found", "_law_path", "_law_currency", "_law_stretch_here", "_law_turn", "_law_answers_here", "_law_way"] "_law_answers" (defScope s__law_answers) t.a__law_answers cdv A outer s H E) (E := E) rfl rfl rfl rfl
  have po := passes_of (X := cxOf (L2N.CX P w) P w K mg base ["_law_found", "_law_path", "_law_currency", "_law_stretch_here", "_law_turn", "_law_answers_here", "_law_way"] "_law_answers" (defScope s__law_answers) t.a__law_answers cdv A outer s H E) rfl
  exact (sl_cons (sl_set 5 sc__law_answers.nd (pl_lsT (pl_cons pl_non (pl_cons pl_non (pl_cons pl_non pl_nil)))))
  (sl_cons (sl_for po rfl (il_val (pl_ix hr.units (pl_lst (pl_cons (pl_lst (pl_cons pl_int (pl_cons pl_int (pl_cons pl_int pl_nil)))) (pl_cons (pl_lst (pl_cons pl_int (pl_cons pl_int (pl_cons pl_int pl_nil)))) (pl_cons (pl_lst (pl_cons pl_int (pl_cons pl_int (pl_cons pl_int pl_nil)))) (pl_cons (pl_lst (pl_cons pl_int (pl_cons pl_int (pl_cons pl_int pl_nil)))) (pl_cons (pl_lst (pl_cons pl_int (pl_cons pl_int (pl_cons pl_int pl_nil)))) (pl_cons (pl_lst (pl_cons pl_int (pl_cons pl_int (pl_cons pl_int pl_nil)))) pl_nil))))))) (pl_mod (pl_var 4) pl_int))) (gl_name 6 sc__law_answers.nd)
  (sl_one (sl_if (tt_cp (c_eq hr.units) (pl_var 6) pl_int)
  (sl_one (sl_sub hr (pl_meth (tab := (tabA [(100, f_Sums_own_T)])) tk (tab_all ⟨⟨_, _, _, _, nm_Sums, _, rfl, rfl, t.L_Sums, t.E_Sums_own, no_Sums_own, ok_Sums_own_T t, hr.mono (by decide), t.b_Sums_own⟩, trivial⟩) (pl_var 0) (pl_cons (pl_var 1) (pl_cons (pl_var 2) (pl_cons (pl_ix hr.units (pl_var 3) pl_int) (pl_cons (pl_ix hr.units (pl_var 3) pl_int) pl_nil))))) (pl_var 5) pl_int))
  (sl_one (sl_if (tt_cp (c_eq hr.units) (pl_var 6) pl_int)
  (sl_one (sl_sub hr (pl_meth (tab := (tabA [(100, f_Sums_standing_T)])) tk (tab_all ⟨⟨_, _, _, _, nm_Sums, _, rfl, rfl, t.L_Sums, t.E_Sums_standing, no_Sums_standing, ok_Sums_standing_T t, hr.mono (by decide), t.b_Sums_standing⟩, trivial⟩) (pl_var 0) (pl_cons (pl_var 1) (pl_cons (pl_var 2) (pl_cons (pl_ix hr.units (pl_var 3) pl_int) pl_nil)))) (pl_var 5) pl_int))
  (sl_one (sl_sub hr (pl_meth (tab := (tabA [(100, f_Sums_currencies_T)])) tk (tab_all ⟨⟨_, _, _, _, nm_Sums, _, rfl, rfl, t.L_Sums, t.E_Sums_currencies, no_Sums_currencies, ok_Sums_currencies_T t, hr.mono (by decide), t.b_Sums_currencies⟩, trivial⟩) (pl_var 0) (pl_cons (pl_var 1) pl_nil)) (pl_var 5) pl_int)))))))
  (sl_one (sl_ret (pl_var 5)))))
theorem ok__law_told (t : Txt K mg) : FnOk P w K mg base (L2N.CX P w) 6 t.a__law_told t.d__law_told ["_law_found", "_law_rows_here", "_law_path", "_law_currency", "_law_stretch_here", "_law_held", "_law_turn"] (spF K (TT t) f__law_told) := by
  refine fn_ok (N := ["_law_found", "_law_rows_here", "_law_path", "_law_currency", "_law_stretch_here", "_law_held", "_law_turn", "_law_first_here", "_law_last", "_law_mine", "_law_here", "_law_own", "_law_standing", "_law_told_here", "_law_due", "_law_row"]) (g := g__law_told) (t := false) t.F__law_told sc__law_told (fun cdv A outer s H E hr => ?_)
  have tk := L2N.takes_of (X := cxOf (L2N.CX P w) P w K mg base ["_law_found", "_law_rows_here", "_law_path", "_law_currency", "_law_stretch_here", "_law_held", "_law_turn", "_law_first_here", "_law_last", "_law_mine", "_law_here", "_law_own", "_law_standing", "_law_told_here", "_law_due", "_law_row"] "_law_told" (defScope s__law_told) t.a__law_told cdv A outer s H E) (E := E) rfl rfl rfl rfl
  have po := passes_of (X := cxOf (L2N.CX P w) P w K mg base ["_law_found", "_law_rows_here", "_law_path", "_law_currency", "_law_stretch_here", "_law_held", "_law_turn", "_law_first_here", "_law_last", "_law_mine", "_law_here", "_law_own", "_law_standing", "_law_told_here", "_law_due", "_law_row"] "_law_told" (defScope s__law_told) t.a__law_told cdv A outer s H E) rfl
  exact (sl_cons (sl_asg (pl_var 4) (gl_tup 2 rfl (gsl_cons (gl_name 7 sc__law_told.nd) (gsl_cons (gl_name 8 sc__law_told.nd) gsl_nil)) (gs_len1 (gs_len1 gs_len0))))
  (sl_cons (sl_setLc 9 (own := [("_law_row", 15)]) rfl sc__law_told.nd rfl rfl (sw_true rfl rfl rfl (by decide +kernel)) (il_val (pl_var 1)) (blkOk_by (N := ["_law_found", "_law_rows_here", "_law_path", "_law_currency", "_law_stretch_here", "_law_held", "_law_turn", "_law_first_here", "_law_last", "_law_mine", "_law_here", "_law_own", "_law_standing", "_law_told_here", "_law_due", "_law_row"]) (sc := (defScope s__law_told)) (by decide +kernel)) (fun _ _ _ _ _ => (gc_name 15 sc__law_told.nd (by decide))) (fun _ _ _ _ _ => (pt_one (tt_cp (c_eq hr.units) (pl_ix hr.units (pl_var 15) pl_int) (pl_var 2)))) (fun _ _ _ _ _ => (pl_var 15)))
  (sl_cons (sl_setLc 10 (own := [("_law_row", 15)]) rfl sc__law_told.nd rfl rfl (sw_true rfl rfl rfl (by decide +kernel)) (il_val (pl_var 9)) (blkOk_by (N := ["_law_found", "_law_rows_here", "_law_path", "_law_currency", "_law_stretch_here", "_law_held", "_law_turn", "_law_first_here", "_law_last", "_law_mine", "_law_here", "_law_own", "_law_standing", "_law_told_here", "_law_due", "_law_row"]) (sc := (defScope s__law_told)) (by decide +kernel)) (fun _ _ _ _ _ => (gc_name 15 sc__law_told.nd (by decide))) (fun _ _ _ _ _ => (pt_one (tt_cp (c_eq hr.units) (pl_ix hr.units (pl_var 15) pl_int) (pl_var 3)))) (fun _ _ _ _ _ => (pl_var 15)))
  (sl_cons (sl_asg (pl_call (ok__law_answers_T t) tk (hr.mono (by decide)) (by rfl) t.m__law_answers t.F__law_answers.kp t.b__law_answers (pl_cons (pl_var 0) (pl_cons (pl_var 2) (pl_cons (pl_var 3) (pl_cons (pl_var 4) (pl_cons (pl_var 6) pl_nil)))))) (gl_tup 3 rfl (gsl_cons (gl_name 11 sc__law_told.nd) (gsl_cons (gl_name 12 sc__law_told.nd) (gsl_cons (gl_name 13 sc__law_told.nd) gsl_nil))) (gs_len1 (gs_len1 (gs_len1 gs_len0)))))
  (sl_cons (sl_if (tt_w (tw_or (tt_not (tt_val (pl_call (ok__law_whole t) tk (hr.mono (by decide)) (by rfl) t.m__law_whole t.F__law_whole.kp t.b__law_whole (pl_cons (pl_var 11) pl_nil)))) (tw_or1 (tt_cp (c_ne hr.units) (pl_var 11) (pl_bi (cr_sum rfl) cl_sum (by rfl) t.z_sum (by decide +kernel) (pl_cons (pl_lc (own := [("_law_row", 15)]) rfl sc__law_told.nd (il_val (pl_var 10)) (blkOk_by (N := ["_law_found", "_law_rows_here", "_law_path", "_law_currency", "_law_stretch_here", "_law_held", "_law_turn", "_law_first_here", "_law_last", "_law_mine", "_law_here", "_law_own", "_law_standing", "_law_told_here", "_law_due", "_law_row"]) (sc := (defScope s__law_told)) (by decide +kernel)) (fun _ _ _ _ _ => (gc_name 15 sc__law_told.nd (by decide))) (fun _ _ _ _ _ => (pt_one (tt_ch c_le c_le (pl_var 7) (pl_ix hr.units (pl_var 15) pl_int) (pl_var 8)))) (fun _ _ _ _ _ => (pl_ix hr.units (pl_var 15) pl_int))) pl_nil))))))
  (sl_one (sl_ret pl_bl))
  sl_nil)
  (sl_cons (sl_if (tt_w (tw_or (tt_not (tt_val (pl_call (ok__law_whole t) tk (hr.mono (by decide)) (by rfl) t.m__law_whole t.F__law_whole.kp t.b__law_whole (pl_cons (pl_var 12) pl_nil)))) (tw_or1 (tt_cp (c_ne hr.units) (pl_var 12) (pl_bi (cr_sum rfl) cl_sum (by rfl) t.z_sum (by decide +kernel) (pl_cons (pl_lc (own := [("_law_row", 15)]) rfl sc__law_told.nd (il_val (pl_var 10)) (blkOk_by (N := ["_law_found", "_law_rows_here", "_law_path", "_law_currency", "_law_stretch_here", "_law_held", "_law_turn", "_law_first_here", "_law_last", "_law_mine", "_law_here", "_law_own", "_law_standing", "_law_told_here", "_law_due", "_law_row"]) (sc := (defScope s__law_told)) (by decide +kernel)) (fun _ _ _ _ _ => (gc_name 15 sc__law_told.nd (by decide))) (fun _ _ _ _ _ => (pt_one (tt_cp c_le (pl_ix hr.units (pl_var 15) pl_int) (pl_var 8)))) (fun _ _ _ _ _ => (pl_ix hr.units (pl_var 15) pl_int))) pl_nil))))))
  (sl_one (sl_ret pl_bl))
  sl_nil)
  (sl_cons (sl_set 14 sc__law_told.nd (pl_srtSet (t := false) rfl (pl_cons (pl_lc (own := [("_law_row", 15)]) rfl sc__law_told.nd (il_val (pl_var 9)) (blkOk_by (N := ["_law_found", "_law_rows_here", "_law_path", "_law_currency", "_law_stretch_here", "_law_held", "_law_turn", "_law_first_here", "_law_last", "_law_mine", "_law_here", "_law_own", "_law_standing", "_law_told_here", "_law_due", "_law_row"]) (sc := (defScope s__law_told)) (by decide +kernel)) (fun _ _ _ _ _ => (gc_name 15 sc__law_told.nd (by decide))) (fun _ _ _ _ _ => pt_yes) (fun _ _ _ _ _ => (pl_ix hr.units (pl_var 15) pl_int))) pl_nil) (by rfl) t.z_sorted (by decide +kernel) (by rfl) t.z_set))
  (sl_cons (sl_if (tt_w (tw_or (tt_not (tt_val (pl_bi call_isi cl_isi (by rfl) t.z_isinstance (by decide +kernel) (pl_cons (pl_var 13) (pl_cons (pl_ty (n := "list") (by rfl) t.z_list (by decide +kernel)) pl_nil))))) (tw_or1 (tt_cp (c_ne hr.units) (pl_var 13) (pl_var 14)))))
  (sl_one (sl_ret pl_bl))
  sl_nil)
  (sl_cons (sl_expr (pl_bm PySem.F.plainAttrs_list PySem.F.slot_list_append PySem.F.type_list_append mt_append ml_append (pl_var 13) (pl_cons pl_str pl_nil)))
  (sl_cons (sl_expr (pl_bm PySem.F.plainAttrs_list PySem.F.slot_list_append PySem.F.type_list_append mt_append ml_append (pl_var 5) (pl_cons (pl_lst (pl_cons (pl_var 13) (pl_cons (pl_add (pl_var 14) (pl_lst (pl_cons pl_str pl_nil))) pl_nil))) pl_nil)))
  (sl_one (sl_ret (pl_or (pl_cp (c_eq hr.units) (pl_mod (pl_fdiv (pl_var 6) pl_int) pl_int) pl_int) (pl_one (pl_cp (c_eq hr.units) (pl_meth (tab := (tabA [(100, f_Sums_currencies)])) tk (tab_all ⟨⟨_, _, _, _, nm_Sums, _, rfl, rfl, t.L_Sums, t.E_Sums_currencies, no_Sums_currencies, ok_Sums_currencies t, hr.mono (by decide), t.b_Sums_currencies⟩, trivial⟩) (pl_var 0) (pl_cons (pl_var 2) pl_nil)) (pl_var 14))))))))))))))))
theorem ok_law (t : Txt K mg) : FnOk P w K mg base (L2N.CX P w) 12 t.a_law t.d_law ["_law_script"] (spF K (TT t) f_law) := by
  refine fn_ok (N := ["_law_script", "_law_base", "_law_paths_here", "_law_currencies_here", "_law_both", "_law_rows_here", "_law_held", "_law_k", "_law_cell", "_law_at", "_law_path", "_law_currency", "_law_stretch_here", "_law_turn", "_law_month", "_law_some_rows", "_law_part", "_law_pair"]) (g := g_law) (t := false) t.F_law sc_law (fun cdv A outer s H E hr => ?_)
  have tk := L2N.takes_of (X := cxOf (L2N.CX P w) P w K mg base ["_law_script", "_law_base", "_law_paths_here", "_law_currencies_here", "_law_both", "_law_rows_here", "_law_held", "_law_k", "_law_cell", "_law_at", "_law_path", "_law_currency", "_law_stretch_here", "_law_turn", "_law_month", "_law_some_rows", "_law_part", "_law_pair"] "law" (defScope s_law) t.a_law cdv A outer s H E) (E := E) rfl rfl rfl rfl
  have po := passes_of (X := cxOf (L2N.CX P w) P w K mg base ["_law_script", "_law_base", "_law_paths_here", "_law_currencies_here", "_law_both", "_law_rows_here", "_law_held", "_law_k", "_law_cell", "_law_at", "_law_path", "_law_currency", "_law_stretch_here", "_law_turn", "_law_month", "_law_some_rows", "_law_part", "_law_pair"] "law" (defScope s_law) t.a_law cdv A outer s H E) rfl
  exact (sl_cons (sl_set 1 sc_law.nd (pl_mod (pl_call (ok__law_cell_at t) tk (hr.mono (by decide)) (by rfl) t.m__law_cell_at t.F__law_cell_at.kp t.b__law_cell_at (pl_cons (pl_var 0) (pl_cons pl_int pl_nil))) pl_int))
  (sl_cons (sl_set 2 sc_law.nd (pl_call (ok__law_paths t) tk (hr.mono (by decide)) (by rfl) t.m__law_paths t.F__law_paths.kp t.b__law_paths (pl_cons (pl_var 0) (pl_cons (pl_add pl_int (pl_mod (pl_fdiv (pl_call (ok__law_cell_at t) tk (hr.mono (by decide)) (by rfl) t.m__law_cell_at t.F__law_cell_at.kp t.b__law_cell_at (pl_cons (pl_var 0) (pl_cons pl_int pl_nil))) pl_int) pl_int)) pl_nil))))
  (sl_cons (sl_set 3 sc_law.nd (pl_call (ok__law_currencies t) tk (hr.mono (by decide)) (by rfl) t.m__law_currencies t.F__law_currencies.kp t.b__law_currencies (pl_cons (pl_call (ok__law_cell_at t) tk (hr.mono (by decide)) (by rfl) t.m__law_cell_at t.F__law_cell_at.kp t.b__law_cell_at (pl_cons (pl_var 0) (pl_cons pl_int pl_nil))) pl_nil)))
  (sl_cons (sl_set 4 sc_law.nd (pl_lst (pl_cons (pl_make0 (c := 100) rfl t.Mk_Sums (ok_Sums___init__ t) (hr.mono (by decide)) (by rfl) t.G_Sums t.b_Sums___init__) (pl_cons (pl_make0 (c := 100) rfl t.Mk_Sums (ok_Sums___init__ t) (hr.mono (by decide)) (by rfl) t.G_Sums t.b_Sums___init__) pl_nil))))
  (sl_cons (sl_set 5 sc_law.nd (pl_lsT (pl_cons (pl_lst pl_nil) (pl_cons (pl_lst pl_nil) pl_nil))))
  (sl_cons (sl_set 6 sc_law.nd (pl_lsT pl_nil))
  (sl_cons (sl_for po rfl (il_rng2 (by rfl) t.z_range (pl_cons pl_int (pl_cons (pl_bi (cr_minU rfl) cl_minU (by rfl) t.z_min (by decide +kernel) (pl_cons (pl_bi cr_lenU cl_len (by rfl) t.z_len (by decide +kernel) (pl_cons (pl_var 0) pl_nil)) (pl_cons pl_int pl_nil))) pl_nil))) (gl_name 7 sc_law.nd)
  (sl_cons (sl_set 8 sc_law.nd (pl_ix hr.units (pl_var 0) (pl_var 7)))
  (sl_cons (sl_set 9 sc_law.nd (pl_fdiv (pl_mod (pl_var 8) pl_int) pl_int))
  (sl_cons (sl_set 10 sc_law.nd (pl_ix hr.units (pl_var 2) (pl_mod (pl_fdiv (pl_var 8) pl_int) (pl_bi cr_lenU cl_len (by rfl) t.z_len (by decide +kernel) (pl_cons (pl_var 2) pl_nil)))))
  (sl_cons (sl_set 11 sc_law.nd (pl_ix hr.units (pl_var 3) (pl_mod (pl_fdiv (pl_var 8) pl_int) pl_int)))
  (sl_cons (sl_set 12 sc_law.nd (pl_call (ok__law_stretch t) tk (hr.mono (by decide)) (by rfl) t.m__law_stretch t.F__law_stretch.kp t.b__law_stretch (pl_cons (pl_fdiv (pl_call (ok__law_mixed t) tk (hr.mono (by decide)) (by rfl) t.m__law_mixed t.F__law_mixed.kp t.b__law_mixed (pl_cons (pl_var 8) (pl_cons pl_int pl_nil))) pl_int) (pl_cons (pl_var 1) pl_nil))))
  (sl_cons (sl_set 13 sc_law.nd (pl_fdiv (pl_call (ok__law_mixed t) tk (hr.mono (by decide)) (by rfl) t.m__law_mixed t.F__law_mixed.kp t.b__law_mixed (pl_cons (pl_var 8) (pl_cons pl_int pl_nil))) pl_int))
  (sl_cons (sl_if (tt_not (tt_val (pl_call (ok__law_told t) tk (hr.mono (by decide)) (by rfl) t.m__law_told t.F__law_told.kp t.b__law_told (pl_cons (pl_ix hr.units (pl_var 4) (pl_var 9)) (pl_cons (pl_ix hr.units (pl_var 5) (pl_var 9)) (pl_cons (pl_var 10) (pl_cons (pl_var 11) (pl_cons (pl_var 12) (pl_cons (pl_var 6) (pl_cons (pl_var 13) pl_nil))))))))))
  (sl_one (sl_ret pl_bl))
  sl_nil)
  (sl_cons (sl_set 14 sc_law.nd (pl_add (pl_var 1) (pl_mod (pl_fdiv (pl_call (ok__law_mixed t) tk (hr.mono (by decide)) (by rfl) t.m__law_mixed t.F__law_mixed.kp t.b__law_mixed (pl_cons (pl_var 8) (pl_cons pl_int pl_nil))) pl_int) pl_int)))
  (sl_cons (sl_set 15 sc_law.nd (pl_call (ok__law_rows t) tk (hr.mono (by decide)) (by rfl) t.m__law_rows t.F__law_rows.kp t.b__law_rows (pl_cons (pl_fdiv (pl_call (ok__law_mixed t) tk (hr.mono (by decide)) (by rfl) t.m__law_mixed t.F__law_mixed.kp t.b__law_mixed (pl_cons (pl_var 8) (pl_cons pl_int pl_nil))) pl_int) (pl_cons (pl_var 2) (pl_cons (pl_var 3) pl_nil)))))
  (sl_cons (sl_if (tt_cp c_isn (pl_meth (tab := (tabA [(100, f_Sums_put)])) tk (tab_all ⟨⟨_, _, _, _, nm_Sums, _, rfl, rfl, t.L_Sums, t.E_Sums_put, no_Sums_put, ok_Sums_put t, hr.mono (by decide), t.b_Sums_put⟩, trivial⟩) (pl_ix hr.units (pl_var 4) (pl_var 9)) (pl_cons (pl_tup (pl_cons (pl_var 7) (pl_cons (pl_call (ok__law_day t) tk (hr.mono (by decide)) (by rfl) t.m__law_day t.F__law_day.kp t.b__law_day (pl_cons (pl_fdiv (pl_call (ok__law_mixed t) tk (hr.mono (by decide)) (by rfl) t.m__law_mixed t.F__law_mixed.kp t.b__law_mixed (pl_cons (pl_var 8) (pl_cons pl_int pl_nil))) pl_int) (pl_cons (pl_var 14) pl_nil))) (pl_cons pl_str (pl_cons (pl_var 15) (pl_cons pl_non pl_nil)))))) pl_nil)) pl_non)
  (sl_one (sl_ret pl_bl))
  sl_nil)
  (sl_cons (sl_sub hr (pl_add (pl_ix hr.units (pl_var 5) (pl_var 9)) (pl_lc (own := [("_law_part", 16)]) rfl sc_law.nd (il_val (pl_var 15)) (blkOk_by (N := ["_law_script", "_law_base", "_law_paths_here", "_law_currencies_here", "_law_both", "_law_rows_here", "_law_held", "_law_k", "_law_cell", "_law_at", "_law_path", "_law_currency", "_law_stretch_here", "_law_turn", "_law_month", "_law_some_rows", "_law_part", "_law_pair"]) (sc := (defScope s_law)) (by decide +kernel)) (fun _ _ _ _ _ => (gc_name 16 sc_law.nd (by decide))) (fun _ _ _ _ _ => pt_yes) (fun _ _ _ _ _ => (pl_add (pl_tup (pl_cons (pl_var 14) pl_nil)) (pl_var 16))))) (pl_var 5) (pl_var 9))
  (sl_cons (sl_if (tt_not (tt_val (pl_call (ok__law_told t) tk (hr.mono (by decide)) (by rfl) t.m__law_told t.F__law_told.kp t.b__law_told (pl_cons (pl_ix hr.units (pl_var 4) (pl_var 9)) (pl_cons (pl_ix hr.units (pl_var 5) (pl_var 9)) (pl_cons (pl_var 10) (pl_cons (pl_var 11) (pl_cons (pl_var 12) (pl_cons (pl_var 6) (pl_cons (pl_fdiv (pl_var 13) pl_int) pl_nil))))))))))
  (sl_one (sl_ret pl_bl))
  sl_nil)
  (sl_one (sl_if (tt_not (tt_val (pl_call (ok__law_told t) tk (hr.mono (by decide)) (by rfl) t.m__law_told t.F__law_told.kp t.b__law_told (pl_cons (pl_ix hr.units (pl_var 4) (pl_var 9)) (pl_cons (pl_ix hr.units (pl_var 5) (pl_var 9)) (pl_cons (pl_ix hr.units (pl_ix hr.units (pl_var 15) pl_int) pl_int) (pl_cons (pl_ix hr.units (pl_ix hr.units (pl_var 15) pl_int) pl_int) (pl_cons (pl_tup (pl_cons (pl_var 14) (pl_cons (pl_var 14) pl_nil))) (pl_cons (pl_var 6) (pl_cons (pl_fdiv (pl_var 13) pl_int) pl_nil))))))))))
  (sl_one (sl_ret pl_bl))
  sl_nil)))))))))))))))
  (sl_cons (sl_for po rfl (il_rng1 (by rfl) t.z_range (pl_cons pl_int pl_nil)) (gl_name 9 sc_law.nd)
  (sl_one (sl_for po rfl (il_val (pl_add (pl_sl (pl_var 2) pl_ponone (pl_po pl_int)) (pl_lst (pl_cons pl_str pl_nil)))) (gl_name 10 sc_law.nd)
  (sl_one (sl_if (tt_not (tt_val (pl_call (ok__law_told t) tk (hr.mono (by decide)) (by rfl) t.m__law_told t.F__law_told.kp t.b__law_told (pl_cons (pl_ix hr.units (pl_var 4) (pl_var 9)) (pl_cons (pl_ix hr.units (pl_var 5) (pl_var 9)) (pl_cons (pl_var 10) (pl_cons (pl_ix hr.units (pl_var 3) (pl_var 9)) (pl_cons (pl_tup (pl_cons (pl_var 1) (pl_cons (pl_add (pl_var 1) pl_int) pl_nil))) (pl_cons (pl_var 6) (pl_cons (pl_add (pl_var 1) (pl_bi cr_lenU cl_len (by rfl) t.z_len (by decide +kernel) (pl_cons (pl_ix hr.units (pl_var 5) (pl_var 9)) pl_nil))) pl_nil))))))))))
  (sl_one (sl_ret pl_bl))
  sl_nil)))))
  (sl_one (sl_ret (pl_bi (cr_all rfl) cl_all (by rfl) t.z_all (by decide +kernel) (pl_cons (pl_lc (own := [("_law_pair", 17)]) rfl sc_law.nd (il_val (pl_var 6)) (blkOk_by (N := ["_law_script", "_law_base", "_law_paths_here", "_law_currencies_here", "_law_both", "_law_rows_here", "_law_held", "_law_k", "_law_cell", "_law_at", "_law_path", "_law_currency", "_law_stretch_here", "_law_turn", "_law_month", "_law_some_rows", "_law_part", "_law_pair"]) (sc := (defScope s_law)) (by decide +kernel)) (fun _ _ _ _ _ => (gc_name 17 sc_law.nd (by decide))) (fun _ _ _ _ _ => pt_yes) (fun _ _ _ _ _ => (pl_cp (c_eq hr.units) (pl_ix hr.units (pl_var 17) pl_int) (pl_ix hr.units (pl_var 17) pl_int)))) pl_nil))))))))))))
end
end K16


set_option Elab.async false
set_option linter.all false
set_option maxRecDepth 100000
set_option maxHeartbeats 4000000
namespace K16
open PySem PySem.Spec PyProof.Rows L2 LL
theorem leap_e (y : Int) (S : Sto) : f_has_leap_day [.int y] S = .ok (.bl (leap y)) S := by
  by_cases h1 : y % 4 = 0 <;> by_cases h2 : y % 100 = 0 <;> by_cases h3 : y % 400 = 0 <;>
  simp [f_has_leap_day, e_fn, g_has_leap_day, e_ret, e_and, e_or, e_op, mod_ii, gc_low0, leap, h1, h2, h3]
theorem ahead_e (y : Int) (S : Sto) : f_days_ahead [.int y] S = .ok (.int (LL.ahead y)) S := by
  simp [f_days_ahead, e_fn, g_days_ahead, e_seq, e_asg, e_nm, e_ret, e_op, mod_ii, div_ii, mul_l, gc_low0, LL.ahead]
theorem days_in_e (y m : Int) (h : 1 ≤ m) (h2 : m ≤ 12) (S : Sto) : f_days_in [.int y, .int m] S = .ok (.int (mlen y m)) S := by
  have hu : ∀ S, ixL (.ktp [.int 31, .int 28, .int 31, .int 30, .int 31, .int 30, .int 31, .int 31, .int 30, .int 31, .int 30, .int 31]) (.int (m - 1)) S = .ok (.int (longT.getD (m - 1).toNat 0)) S := fun S => by
    rcases m12 h h2 with rfl | rfl | rfl | rfl | rfl | rfl | rfl | rfl | rfl | rfl | rfl | rfl <;> rfl
  by_cases c : m = 2
  · subst c
    cases hl : leap y <;> simp [f_days_in, e_fn, g_days_in, e_seq, e_if, e_and, e_op, e_call, e_cons, e_nil, leap_e, hl, e_ret, e_nx, gc_low0, mlen]
    rw [show (2 : Int) - 1 = 1 from rfl] at hu
    simp [hu, gc_low0]
  · simp [f_days_in, e_fn, g_days_in, e_seq, e_if, e_and, e_op, e_ret, e_nx, gc_low0, mlen, c, hu]
theorem parts_e (d : Int) (h : 0 ≤ d) (h2 : d ≤ 146096) : ∃ y m p, Day y m p ∧ dayN y m p = d ∧ ∀ S, f_parts_of [.int d] S = .ok (.tup [.int y, .int m, .int p]) S := by
  have yr : ∀ S, ∃ y, (2000 ≤ y ∧ LL.ahead y ≤ d) ∧ decide (LL.ahead (y + 1) ≤ d) = false ∧ lWh 1000 (lOp leL (lCall f_days_ahead (lCons (lOp addL (lVar 1) (lC (.int 1))) lNil)) (lVar 0)) (lAsg (lOp addL (lVar 1) (lC (.int 1))) (gNm 1)) [some (.int d), some (.int (2000 + d / 366)), none, none] S = .nx [some (.int d), some (.int y), none, none] S := fun S =>
    wh_run (S := S) (fun y : Int => [some (.int d), some (.int y), none, none]) (fun y => decide (LL.ahead (y + 1) ≤ d)) (fun y => y + 1) (fun y => 2000 ≤ y ∧ LL.ahead y ≤ d) (fun y => (2400 - y).toNat)
      (fun y _ => by simp [e_op, e_call, e_cons, e_nil, ahead_e])
      (fun y p c => by
        have c' := of_decide_eq_true c
        refine ⟨by simp [e_asg, e_op, e_nm], ⟨by omega, c'⟩, ?_⟩
        have : y < 2400 := by
          rcases Int.lt_or_le y 2400 with q | q
          · exact q
          · have := ahead_mono (y := 2400) (z := y) (by omega) q
            rw [ahead_2400] at this
            omega
        omega) 1000 (2000 + d / 366) ⟨by omega, ahead_guess h⟩ (by omega)
  obtain ⟨y, ⟨y0, ya⟩, yb, _⟩ := yr []
  have yb' : d < LL.ahead (y + 1) := by have := of_decide_eq_false yb; omega
  have y1 : y ≤ 2399 := by
    rcases Int.lt_or_le 2399 y with q | q
    · have := ahead_mono (y := 2400) (z := y) (by omega) q
      rw [ahead_2400] at this
      omega
    · exact q
  have yu : ∀ S, lWh 1000 (lOp leL (lCall f_days_ahead (lCons (lOp addL (lVar 1) (lC (.int 1))) lNil)) (lVar 0)) (lAsg (lOp addL (lVar 1) (lC (.int 1))) (gNm 1)) [some (.int d), some (.int (2000 + d / 366)), none, none] S = .nx [some (.int d), some (.int y), none, none] S := fun S => by
    obtain ⟨z, ⟨z0, za⟩, zb, hz⟩ := yr S
    have zb' : d < LL.ahead (z + 1) := by have := of_decide_eq_false zb; omega
    have : z = y := by
      rcases Int.lt_trichotomy z y with c | c | c
      · have := ahead_lt z0 c; omega
      · exact c
      · have := ahead_lt y0 c; omega
    rw [hz, this]
  have hs := ahead_step y0
  have mo : ∀ S, ∃ b : Int × Int, (1 ≤ b.1 ∧ b.1 ≤ 12 ∧ 0 ≤ b.2 ∧ b.2 + befo y b.1 = d - LL.ahead y) ∧ decide (mlen y b.1 ≤ b.2) = false ∧
      lWh 1000 (lOp geL (lVar 3) (lCall f_days_in (lCons (lVar 1) (lCons (lVar 2) lNil)))) (lSeq (lAsg (lOp subL (lVar 3) (lCall f_days_in (lCons (lVar 1) (lCons (lVar 2) lNil)))) (gNm 3)) (lAsg (lOp addL (lVar 2) (lC (.int 1))) (gNm 2)))
        [some (.int d), some (.int y), some (.int 1), some (.int (d - LL.ahead y))] S = .nx [some (.int d), some (.int y), some (.int b.1), some (.int b.2)] S := fun S =>
    wh_run (S := S) (fun b : Int × Int => [some (.int d), some (.int y), some (.int b.1), some (.int b.2)]) (fun b => decide (mlen y b.1 ≤ b.2)) (fun b => (b.1 + 1, b.2 - mlen y b.1)) (fun b => 1 ≤ b.1 ∧ b.1 ≤ 12 ∧ 0 ≤ b.2 ∧ b.2 + befo y b.1 = d - LL.ahead y) (fun b => (13 - b.1).toNat)
      (fun b p => by simp [e_op, e_call, e_cons, e_nil, days_in_e y b.1 p.1 p.2.1])
      (fun b p c => by
        have c' := of_decide_eq_true c
        obtain ⟨p1, p2, p3, p4⟩ := p
        have hb := befo_step (y := y) p1 p2
        refine ⟨by simp [e_seq, e_asg, e_op, e_call, e_cons, e_nil, days_in_e y b.1 p1 p2, e_nm], ⟨?_, ?_, ?_, ?_⟩, ?_⟩
        · show 1 ≤ b.1 + 1; omega
        · show b.1 + 1 ≤ 12
          rcases Int.lt_or_le 11 b.1 with q | q
          · have e : b.1 = 12 := by omega
            rw [e] at hb p4 c'
            have hb' : befo y 13 = befo y 12 + mlen y 12 := hb
            omega
          · omega
        · show 0 ≤ b.2 - mlen y b.1; omega
        · show b.2 - mlen y b.1 + befo y (b.1 + 1) = d - LL.ahead y
          rw [hb]; omega
        · show (13 - (b.1 + 1)).toNat < (13 - b.1).toNat; omega) 1000 (1, d - LL.ahead y) ⟨by omega, by omega, by show 0 ≤ d - LL.ahead y; omega, by show d - LL.ahead y + befo y 1 = d - LL.ahead y; rw [befo_1]; omega⟩ (by show (13 - (1 : Int)).toNat < 1000; decide)
  obtain ⟨⟨m, l⟩, ⟨m0, m1, l0, le⟩, lb, _⟩ := mo []
  have l1 : l < mlen y m := by have := of_decide_eq_false lb; simp only at this; omega
  have D : Day y m (l + 1) := ⟨y0, y1, m0, m1, by simp only at l0; omega, by omega⟩
  refine ⟨y, m, l + 1, D, by unfold dayN; simp only at le; omega, fun S => ?_⟩
  obtain ⟨⟨m', l'⟩, ⟨m0', m1', l0', le'⟩, lb', hw⟩ := mo S
  have l1' : l' < mlen y m' := by have := of_decide_eq_false lb'; simp only at this; omega
  have D' : Day y m' (l' + 1) := ⟨y0, y1, m0', m1', by simp only at l0'; omega, by omega⟩
  obtain ⟨_, rfl, el⟩ := D.uniq D' (by unfold dayN; simp only at le le'; omega)
  obtain rfl : l = l' := by omega
  simp [f_parts_of, e_fn, g_parts_of, t_parts_of_1, b_parts_of_1, t_parts_of_2, b_parts_of_2, e_seq, e_asg, e_op, e_nm, div_ii, yu S, e_call, e_cons, e_nil, ahead_e, hw, e_ret, e_tup, gc_low0]
theorem parts_of_day {y m p : Int} (h : Day y m p) (S : Sto) : f_parts_of [.int (dayN y m p)] S = .ok (.tup [.int y, .int m, .int p]) S := by
  obtain ⟨y', m', p', D, e, hS⟩ := parts_e (dayN y m p) h.range.1 h.range.2
  obtain ⟨rfl, rfl, rfl⟩ := D.uniq h e
  exact hS S
theorem month_of_e {y m p : Int} (h : Day y m p) (S : Sto) : f_month_of [.int (dayN y m p)] S = .ok (.int (12 * (y - 2000) + m - 1)) S := by
  simp [f_month_of, e_fn, g_month_of, e_seq, e_asg, e_call, e_cons, e_nil, parts_of_day h, gtp_e, e_ret, e_op, mul_l, gc_low0]
theorem cell_at_e (ns : List Int) (k : Int) (hk : 0 ≤ k) (S : Sto) : f__law_cell_at [.scr ns, .int k] S = .ok (.int (cell ns k)) S := by
  by_cases h : k < ns.length
  · simp [f__law_cell_at, e_fn, g__law_cell_at, e_seq, e_if, e_ret, e_op, e_bi, e_cons, e_nil, gc_low0, h, ix_c hk h]
  · simp [f__law_cell_at, e_fn, g__law_cell_at, e_seq, e_if, e_ret, e_op, e_bi, e_cons, e_nil, gc_low0, h, e_nx, cell]
    rw [List.getElem?_eq_none (by omega)]
    rfl

theorem law_whole_i (i : Int) (S : Sto) : f__law_whole [.int i] S = .ok (.bl true) S := by
  simp [f__law_whole, e_fn, g__law_whole, e_ret, e_and, e_bi, e_cons, e_nil, e_not, gc_low0]
theorem law_whole_s (i : Str) (S : Sto) : f__law_whole [.str i] S = .ok (.bl false) S := by
  simp [f__law_whole, e_fn, g__law_whole, e_ret, e_and, e_bi, e_cons, e_nil, e_not, gc_low0]
theorem law_whole_b (i : Bool) (S : Sto) : f__law_whole [.bl i] S = .ok (.bl false) S := by
  simp [f__law_whole, e_fn, g__law_whole, e_ret, e_and, e_bi, e_cons, e_nil, e_not, gc_low0]
theorem law_whole_n (S : Sto) : f__law_whole [.non] S = .ok (.bl false) S := by
  simp [f__law_whole, e_fn, g__law_whole, e_ret, e_and, e_bi, e_cons, e_nil, e_not, gc_low0]
theorem law_whole_t (xs : List LV) (S : Sto) : f__law_whole [.tup xs] S = .ok (.bl false) S := by
  simp [f__law_whole, e_fn, g__law_whole, e_ret, e_and, e_bi, e_cons, e_nil, e_not, gc_low0]
theorem law_whole_l {n : Nat} {xs : List LV} {S : Sto} (h : S[n]? = some (.lst xs)) : f__law_whole [.ref n] S = .ok (.bl false) S := by
  simp [f__law_whole, e_fn, g__law_whole, e_ret, e_and, e_bi, e_cons, e_nil, e_not, gc_low0, isiL, kindL, h]
theorem law_whole_d {n : Nat} {xs} {S : Sto} (h : S[n]? = some (.dct xs)) : f__law_whole [.ref n] S = .ok (.bl false) S := by
  simp [f__law_whole, e_fn, g__law_whole, e_ret, e_and, e_bi, e_cons, e_nil, e_not, gc_low0, isiL, kindL, h]
theorem law_whole_k {v : LV} {S : Sto} {k : String} (nx : isX v = false) (h : kindL v S = some k) : f__law_whole [v] S = .ok (.bl (decide (k = "int"))) S := by
  by_cases h1 : k = "int"
  · subst h1; simp [f__law_whole, e_fn, g__law_whole, e_ret, e_and, e_bi, e_cons, e_nil, e_not, gc_low0, isiL, nx, h]
  · by_cases h2 : k = "bool"
    · subst h2; simp [f__law_whole, e_fn, g__law_whole, e_ret, e_and, e_bi, e_cons, e_nil, e_not, gc_low0, isiL, nx, h]
    · simp [f__law_whole, e_fn, g__law_whole, e_ret, e_and, e_bi, e_cons, e_nil, e_not, gc_low0, isiL, nx, h, isiT, h1, h2]
theorem law_whole_o {v : LV} {S : Sto} (o : Okv S v) (w : wI v = none) : f__law_whole [v] S = .ok (.bl false) S := by
  obtain ⟨nx, k, hk⟩ := o
  rw [law_whole_k nx hk, decide_eq_false]
  intro e
  subst e
  obtain ⟨i, hi⟩ := kind_int hk
  rw [hi] at w
  cases w
end K16


set_option Elab.async false
set_option linter.all false
set_option maxRecDepth 100000
set_option maxHeartbeats 4000000
namespace K16
open PySem PySem.Spec PyProof.Rows L2 LL
theorem abc_ix (j : Int) (S : Sto) : ixL (.str abcT) (.int (j % 26)) S = .ok (.str (one (atN (tl abcT) (j % 26)))) S := ix_s (by omega) (by rw [abc_len]; omega) (by rw [abc_len]; omega)
theorem abc_at (j : Int) : atN (tl abcT) (j % 26) ∈ tl abcT := by
  unfold atN
  have hl : (j % 26).toNat < (tl abcT).length := by rw [LL.len_tl, abc_len]; omega
  rw [List.getD_eq_getElem?_getD, List.getElem?_eq_getElem hl]
  exact List.getElem_mem hl
theorem nameOk_of {a : List Nat} (h1 : 1 ≤ a.length) (h2 : a.length ≤ 12) (h : ∀ c ∈ a, c ∈ tl abcT) : nameOk a = true := by
  unfold nameOk
  rw [decide_eq_true (by omega), Bool.true_and, List.all_eq_true.mpr fun c hc => decide_eq_true (h c hc), Bool.true_and]
  cases a with
  | nil => simp at h1
  | cons c a => rfl
def mixv (c k : Int) : Int := (c * 48271 + 7919 * k * k + 104729 * k + 12345) % 2147483647
theorem mixed_e (c k : Int) (h0 : 0 ≤ k) (h1 : k ≤ 100000) (S : Sto) : f__law_mixed [.int c, .int k] S = .ok (.int (mixv c k)) S := by
  have m1 : mulL (.int c) (.int 48271) S = .ok (.int (c * 48271)) S := mul_r (by decide) (by decide)
  have m2 : mulL (.int 7919) (.int k) S = .ok (.int (7919 * k)) S := mul_l (by decide) (by decide)
  have m3 : mulL (.int (7919 * k)) (.int k) S = .ok (.int (7919 * k * k)) S := mul_r (by omega) (by omega)
  have m4 : mulL (.int 104729) (.int k) S = .ok (.int (104729 * k)) S := mul_l (by decide) (by decide)
  simp [f__law_mixed, e_fn, g__law_mixed, m1, m2, m3, m4, mod_ii, mixv, gc_low0]
theorem mixv_nn (c k : Int) : 0 ≤ mixv c k := Int.emod_nonneg _ (by decide)
theorem mixv_lt (c k : Int) : mixv c k < 2147483647 := Int.emod_lt_of_pos _ (by decide)
/-! ### names -/
structure Nm (ys : List Str) : Prop where
  len : ys.length = 7
  ok : ∀ y ∈ ys, nameOk (tl y) = true
  ne : ys[0]? ≠ ys[6]?
theorem names_e (c : Int) (S : Sto) : ∃ ys : List Str, Nm ys ∧ f__law_names [.int c] S = .ok (.lst (ys.map .str)) S := by
  obtain ⟨size, hs, s0, s1⟩ : ∃ size, size = 1 + c % 10 ∧ 1 ≤ size ∧ size ≤ 10 := ⟨_, rfl, by omega, by omega⟩
  obtain ⟨step, hst, t0, t1⟩ : ∃ step, step = 1 + c / 10 % 25 ∧ 1 ≤ step ∧ step ≤ 25 := ⟨_, rfl, by omega, by omega⟩
  have body := lc_ones (t := false) 7 e__law_names_1 [some (.int c), some (.str abcT), some (.int size), some (.int step), none, none, none, none, none] 0 size.toNat S (fun j => atN (tl abcT) ((c / 250 + step * j) % 26)) (by omega) (fun k hk S => by
    simp [e__law_names_1, div_ii, mod_ii, mul_l (show -(2 ^ 64) < step by omega) (show step < 2 ^ 64 by omega), abc_ix])
  have hc : ∀ x ∈ codes (fun j => atN (tl abcT) ((c / 250 + step * j) % 26)) 0 size.toNat, x ∈ tl abcT := fun x hx => by
    obtain ⟨k, _, rfl⟩ := List.mem_map.mp hx
    exact abc_at _
  have hl : (codes (fun j => atN (tl abcT) ((c / 250 + step * j) % 26)) 0 size.toNat).length = size.toNat := codes_len _ _ _
  generalize codes (fun j => atN (tl abcT) ((c / 250 + step * j) % 26)) 0 size.toNat = cs at *
  obtain ⟨w, hw⟩ : ∃ w, w = Txt.join ("" : Str) (cs.map one) := ⟨_, rfl⟩
  have tw : tl w = cs := by rw [hw, LL.join_one]
  have jn := join_ones (v := .lst (cs.map fun c => .str (one c))) (S := S) (cs := cs) rfl (by omega)
  rw [← hw] at jn
  have wl : w.length = size.toNat := by rw [← LL.len_tl, tw, hl]
  have md : ∀ S, modL (.int (c / 6500)) (.int (size + 1)) S = .ok (.int (c / 6500 % (size + 1))) S := fun S => mod_ii (by omega)
  have p0 := Int.emod_nonneg (c / 6500) (show size + 1 ≠ 0 by omega)
  have p1 := Int.emod_lt_of_pos (c / 6500) (show 0 < size + 1 by omega)
  generalize c / 6500 % (size + 1) = at' at *
  have rg1 : ∀ S, rng1O [.int size] S = .ok (itOf (rng 0 size.toNat)) S := fun S => rng1_e (by omega) (by omega)
  have rg2 : ∀ S, rng1O [.int 6] S = .ok (itOf (rng 0 6)) S := fun S => rng1_e (by decide) (by decide)
  obtain ⟨ys, ⟨y1, y2⟩, j', lp⟩ := for_rel (lg := gNm 7) (fb := b__law_names_2) (l := itOf (rng 0 6)) (ws := List.range 6) (g := fun k : Nat => .int (0 + (k : Int))) (fun (_ : List Str) (j : Option LV × Option LV) => [some (.int c), some (.str abcT), some (.int size), some (.int step), some (.str w), some (.int at'), some (.ref S.length), j.1, j.2]) (fun ys => S ++ [.lst (ys.map .str)])
    (fun i ys => ys.length = i ∧ ∀ y ∈ ys, nameOk (tl y) = true ∧ y.length = w.length + 1) (fun _ _ _ => .of) (fun i b hb ys j ⟨h1, h2⟩ => by
      have hi : i < (List.range 6).length := (List.getElem?_eq_some_iff.mp hb).1
      rw [List.length_range] at hi
      obtain ⟨d, hd⟩ : ∃ d, d = atN (tl abcT) ((c / 71500 + 3 * (0 + (b : Int))) % 26) := ⟨_, rfl⟩
      have dm : d ∈ tl abcT := by rw [hd]; exact abc_at _
      obtain ⟨y, hy⟩ : ∃ y, y = (cutS w none (some at') ++ one d) ++ cutS w (some at') none := ⟨_, rfl⟩
      have ty : tl y = cs.take at'.toNat ++ [d] ++ cs.drop at'.toNat := by rw [hy, tl_app, tl_app, cut_to _ p0, cut_from _ p0, tw, tl_one]
      have ly : (tl y).length = cs.length + 1 := by
        rw [ty, List.length_append, List.length_append, List.length_take, List.length_drop, List.length_singleton]
        omega
      refine ⟨ys ++ [y], ⟨by simp [h1], fun z hz => ?_⟩, (some (.int (0 + (b : Int))), some (.str (one d))), ?_⟩
      · rcases List.mem_append.mp hz with hz | hz
        · exact h2 z hz
        · rw [List.mem_singleton.mp hz]
          refine ⟨nameOk_of (by omega) (by omega) fun x hx => ?_, by rw [← LL.len_tl, ← LL.len_tl, ly, tw]⟩
          rw [ty] at hx
          rcases List.mem_append.mp hx with hx | hx
          · rcases List.mem_append.mp hx with hx | hx
            · exact hc x (List.mem_of_mem_take hx)
            · rw [List.mem_singleton.mp hx]; exact dm
          · exact hc x (List.mem_of_mem_drop hx)
      · rw [turn_nm]
        have e0 : (0 : Int) + (b : Int) = (b : Int) := by omega
        have c1 : (cutS w none (some at')).length ≤ w.length := LL.cut_len w _ _
        have c2 : (cutS w (some at') none).length ≤ w.length := LL.cut_len w _ _
        have s1 : ∀ S, slG false (.str w) none (some at') S = .ok (.str (cutS w none (some at'))) S := fun S => sl_s (by omega)
        have s2 : ∀ S, slG false (.str w) (some at') none S = .ok (.str (cutS w (some at') none)) S := fun S => sl_s (by omega)
        have a1 : ∀ S, addL (.str (cutS w none (some at'))) (.str (one d)) S = .ok (.str (cutS w none (some at') ++ one d)) S := fun S => add_ss (by rw [len_one]; omega)
        have a2 : ∀ S, addL (.str (cutS w none (some at') ++ one d)) (.str (cutS w (some at') none)) S = .ok (.str y) S := fun S => by rw [hy]; exact add_ss (by rw [app_len, len_one]; omega)
        have ap : appendL (.ref S.length) [.str y] (S ++ [.lst (ys.map .str)]) = .ok .non (S ++ [.lst ((ys ++ [y]).map .str)]) := by
          rw [append_ok (xs := ys.map .str) (by rw [get_app0]; rfl) (by rw [List.length_map]; omega), set_app0, List.map_append]
          rfl
        have bm : ∀ fa ds, bm1 "list" appendL fa ds (.ok (.ref S.length) (S ++ [.lst (ys.map .str)])) = bm2 appendL (.ref S.length) (fa ds (S ++ [.lst (ys.map .str)])) := fun fa ds => bm1_r (xs := ys.map .str) (by rw [get_app0]; rfl)
        have ml : ∀ S, mulL (.int 3) (.int (b : Int)) S = .ok (.int (3 * (b : Int))) S := fun S => mul_l (by decide) (by decide)
        rw [e0] at hd ⊢
        have ix : ∀ S, ixL (.str abcT) (.int ((c / 71500 + 3 * (b : Int)) % 26)) S = .ok (.str (one d)) S := fun S => by rw [hd]; exact abc_ix _ S
        generalize (ys ++ [y]).map LV.str = Y2 at *
        generalize ys.map LV.str = Y1 at *
        simp [b__law_names_2, div_ii, mod_ii, ml, ix, s1, s2, a1, a2, bm, ap]) [] (none, none) ⟨rfl, fun y hy => (by cases hy)⟩
  rw [List.length_range] at y1
  refine ⟨ys ++ [w], ⟨by rw [List.length_append, y1]; rfl, fun y hy => ?_, fun e => ?_⟩, ?_⟩
  · rcases List.mem_append.mp hy with hy | hy
    · exact (y2 y hy).1
    · rw [List.mem_singleton.mp hy, tw]
      exact nameOk_of (by omega) (by omega) hc
  · rw [List.getElem?_append_left (by omega), List.getElem?_append_right (by omega), y1] at e
    have e : ys[0]? = some w := e
    have := (y2 w (List.mem_of_getElem? e)).2
    omega
  · have ad : addL (.ref S.length) (.lst [.str w]) (S ++ [.lst (ys.map .str)]) = .ok (.lst ((ys ++ [w]).map .str)) (S ++ [.lst (ys.map .str)]) := by
      show addG false _ _ _ = _
      rw [add_ll (xs := ys.map LV.str) (ys := [LV.str w]) (ls_r (by rw [get_app0]; rfl)) ls_l (by rw [List.length_map]; simp; omega), List.map_append]
      rfl
    have gc : gcF S (.ok (.lst ((ys ++ [w]).map .str)) (S ++ [.lst (ys.map .str)])) = .ok (.lst ((ys ++ [w]).map .str)) S := gc_low (strs_low _)
    have b2 : lcR false (gNm 7) lYes e__law_names_1 [some (.int c), some (.str abcT), some (.int size), some (.int step), none, none, none, none, none] (.ok (itOf (rng 0 size.toNat)) S) = .ok (.lst (cs.map fun c => .str (one c))) S := body
    simp only [List.map_nil] at lp
    generalize (ys ++ [w]).map LV.str = Y2 at *
    generalize ys.map LV.str = Y1 at *
    generalize (cs.map fun c => LV.str (one c)) = C1 at *
    simp [f__law_names, e_fn, g__law_names, c__law_names_1, div_ii, mod_ii, ← hs, ← hst, rg1, rg2, wipeL, b2, jn, md, lp, ad, gc]
end K16


set_option Elab.async false
set_option linter.all false
set_option maxRecDepth 100000
set_option maxHeartbeats 4000000
namespace K16
open PySem PySem.Spec PyProof.Rows L2 LL
/-! ### paths -/
structure Pth (ps : List Str) : Prop where
  nd : ps.Nodup
  pz : ∀ z ∈ ps, Pz z
  up : ∀ l z r, ps = l ++ z :: r → ∀ q, par z = some q → q ∈ l
theorem Pth.snoc {ps : List Str} (h : Pth ps) {z : Str} (hz : Pz z) (hn : z ∉ ps) (hp : ∀ q, par z = some q → q ∈ ps) : Pth (ps ++ [z]) where
  nd := by
    rw [List.nodup_append]
    refine ⟨h.nd, by simp, fun x hx y hy e => ?_⟩
    rw [List.mem_singleton.mp hy] at e
    exact hn (e ▸ hx)
  pz := fun y hy => by
    rcases List.mem_append.mp hy with hy | hy
    · exact h.pz y hy
    · rw [List.mem_singleton.mp hy]; exact hz
  up := fun l y r e q hq => by
    rcases List.eq_nil_or_concat r with rfl | ⟨r', x, rfl⟩
    · have e2 := List.append_inj' e rfl
      have : y = z := by simpa using e2.2.symm
      rw [← e2.1]
      exact hp q (this ▸ hq)
    · have e3 : ps ++ [z] = (l ++ y :: r') ++ [x] := by rw [e]; simp
      have e2 := List.append_inj' e3 rfl
      exact h.up l y r' e2.1 q hq
theorem Pth.two {a b : Str} (ha : nameOk (tl a) = true) (hb : nameOk (tl b) = true) (hn : a ≠ b) : Pth [a, b] := by
  have h0 : Pth ([] : List Str) := ⟨List.nodup_nil, (fun z hz => by cases hz), (fun l z r e => by cases l <;> cases e)⟩
  have h1 : Pth ([] ++ [a]) := h0.snoc (pz_name ha).1 (by simp) fun q hq => by rw [(pz_name ha).2] at hq; cases hq
  have h2 : Pth (([] ++ [a]) ++ [b]) := h1.snoc (pz_name hb).1 (by simpa using fun e => hn e.symm) fun q hq => by rw [(pz_name hb).2] at hq; cases hq
  exact h2
theorem nin_strs {v : LV} {S : Sto} {z : Str} {ps : List Str} (hv : lsO v S = some (ps.map .str)) : notinL (.str z) v S = .ok (.bl (decide (z ∉ ps))) S := by
  rw [nin_ls hv rfl (by simp [flatL])]
  congr 2
  rw [List.any_map]
  have : ((fun y => eqV (fv y) (fv (.str z))) ∘ LV.str) = fun y => decide (y = z) := by
    funext y
    show eqV (V.str y) (V.str z) = _
    unfold eqV
    simp only
    rw [sbeq, deq]
    by_cases h : tl y = tl z <;> simp [h]
  rw [this]
  by_cases h : z ∈ ps
  · rw [List.any_eq_true.mpr ⟨z, h, by simp⟩]
    simp [h]
  · rw [List.any_eq_false.mpr fun y hy => by simp; exact fun e => h (e ▸ hy)]
    simp [h]
theorem paths_e (ns : List Int) (many : Int) (m0 : 0 ≤ many) (m1 : many ≤ 20) (S : Sto) : ∃ ps : List Str, Pth ps ∧ 2 ≤ ps.length ∧ ps.length ≤ 22 ∧ f__law_paths [.scr ns, .int many] S = .ok (.lst (ps.map .str)) S := by
  have c1 := cell_at_e ns 1 (by decide)
  have c2 := cell_at_e ns 2 (by decide)
  generalize cell ns 1 = k1 at *
  generalize cell ns 2 = k2 at *
  obtain ⟨ys, N, hN⟩ := names_e k1 S
  have hat : ∀ j : Nat, j < 7 → ∃ y, ys[j]? = some y ∧ nameOk (tl y) = true ∧ ∀ S, ixL (.lst (ys.map .str)) (.int (j : Int)) S = .ok (.str y) S := fun j hj => by
    have lt : j < ys.length := by rw [N.len]; exact hj
    refine ⟨ys[j], List.getElem?_eq_getElem lt, N.ok _ (List.getElem_mem lt), fun S => ix_v (xs := ys.map LV.str) rfl (by omega) ?_⟩
    rw [Int.toNat_natCast, List.getElem?_map, List.getElem?_eq_getElem lt]
    rfl
  obtain ⟨a, a1, a2, a3⟩ := hat 0 (by decide)
  obtain ⟨b, b1, b2, b3⟩ := hat 6 (by decide)
  have P0 : Pth [a, b] := Pth.two a2 b2 fun e => N.ne (by rw [a1, b1, e])
  have rg : ∀ S, rng1O [.int many] S = .ok (itOf (rng 0 many.toNat)) S := fun S => rng1_e (by omega) (by omega)
  obtain ⟨ps, ⟨p1, p2, p3⟩, j', lp⟩ := for_rel (lg := gNm 4) (fb := b__law_paths_1) (l := itOf (rng 0 many.toNat)) (ws := List.range many.toNat) (g := fun k : Nat => .int (0 + (k : Int))) (fun (_ : List Str) (j : Option LV × Option LV × Option LV × Option LV) => [some (.scr ns), some (.int many), some (.lst (ys.map .str)), some (.ref S.length), j.1, j.2.1, j.2.2.1, j.2.2.2]) (fun ps => S ++ [.lst (ps.map .str)])
    (fun i ps => Pth ps ∧ 2 ≤ ps.length ∧ ps.length ≤ 2 + i) (fun _ _ _ => .of) (fun i k hk ps j ⟨h1, h2, h3⟩ => by
      have hi : i < (List.range many.toNat).length := (List.getElem?_eq_some_iff.mp hk).1
      have hb : k < many.toNat := List.mem_range.mp (List.mem_of_getElem? hk)
      rw [List.length_range] at hi
      have e0 : (0 : Int) + (k : Int) = (k : Int) := by omega
      have mx := mixed_e k2 (k : Int) (by omega) (by omega)
      have mn := mixv_nn k2 (k : Int)
      generalize mixv k2 (k : Int) = c at *
      have hv : lsO (.ref S.length) (S ++ [.lst (ps.map .str)]) = some (ps.map .str) := ls_r (by rw [get_app0]; rfl)
      have ln : lenL [.ref S.length] (S ++ [.lst (ps.map .str)]) = .ok (.int (ps.length : Int)) (S ++ [.lst (ps.map .str)]) := by
        rw [len_r (xs := ps.map .str) (by rw [get_app0]; rfl), List.length_map]
      have md : ∀ S, modL (.int c) (.int (ps.length : Int)) S = .ok (.int (c % (ps.length : Int))) S := fun S => mod_ii (by omega)
      have q0 := Int.emod_nonneg c (show (ps.length : Int) ≠ 0 by omega)
      have q1 := Int.emod_lt_of_pos c (show 0 < (ps.length : Int) by omega)
      generalize c % (ps.length : Int) = q at *
      have lt : q.toNat < ps.length := by omega
      obtain ⟨z, hz⟩ : ∃ z, ps[q.toNat]? = some z := ⟨_, List.getElem?_eq_getElem lt⟩
      have zm := List.mem_of_getElem? hz
      have zp := h1.pz z zm
      have iz : ixL (.ref S.length) (.int q) (S ++ [.lst (ps.map .str)]) = .ok (.str z) (S ++ [.lst (ps.map .str)]) := ix_l (xs := ps.map .str) (by rw [get_app0]; rfl) q0 (by rw [List.getElem?_map, hz]; rfl)
      obtain ⟨y, _, yok, iy⟩ := hat (c / 13 % 7).toNat (by omega)
      rw [show (((c / 13 % 7).toNat : Nat) : Int) = c / 13 % 7 by omega] at iy
      have zl := pz_len zp
      have yl := pz_len (pz_name yok).1
      have ad1 : ∀ S, addL (.str z) (.str colT) S = .ok (.str (z ++ colT)) S := fun S => add_ss (by have : colT.length = 1 := rfl; omega)
      have ad2 : ∀ S, addL (.str (z ++ colT)) (.str y) S = .ok (.str (kid z y)) S := fun S => add_ss (by rw [app_len]; have : colT.length = 1 := rfl; omega)
      have nn := nin_strs (z := kid z y) hv
      have z1 : 1 ≤ z.length := by
        rw [← LL.len_tl]
        cases e : tl z with
        | nil =>
          have e1 : names z = [z] := name_free (by rw [e]; simp)
          have := zp.ok z (by rw [e1]; exact List.mem_singleton.mpr rfl)
          rw [e] at this
          simp [nameOk] at this
        | cons _ _ => simp
      have ct : ∀ S, countL (.str z) [.str colT] S = .ok (.int (((names z).length : Int) - 1)) S := fun S => by
        show R.ok (.int (Txt.count z colT)) S = _
        rw [count_col z1]
      by_cases new : kid z y ∉ ps ∧ (names z).length ≤ 5
      · refine ⟨ps ++ [kid z y], ⟨h1.snoc ((pz_kid zp yok).mpr new.2) new.1 (fun q hq => by rw [par_kid (nameOk_free yok)] at hq; cases hq; exact zm), by simp; omega, by simp; omega⟩, (some (.int (k : Int)), some (.int c), some (.str z), some (.str (kid z y))), ?_⟩
        have ap : appendL (.ref S.length) [.str (kid z y)] (S ++ [.lst (ps.map .str)]) = .ok .non (S ++ [.lst ((ps ++ [kid z y]).map .str)]) := by
          rw [append_ok (xs := ps.map .str) (by rw [get_app0]; rfl) (by rw [List.length_map]; omega), set_app0, List.map_append]
          rfl
        have bm : ∀ fa ds, bm1 "list" appendL fa ds (.ok (.ref S.length) (S ++ [.lst (ps.map .str)])) = bm2 appendL (.ref S.length) (fa ds (S ++ [.lst (ps.map .str)])) := fun fa ds => bm1_r (xs := ps.map .str) (by rw [get_app0]; rfl)
        rw [decide_eq_true new.1] at nn
        have c5 : ((names z).length : Int) - 1 < 5 := by omega
        rw [turn_nm, e0]
        generalize (ps ++ [kid z y]).map LV.str = Y2 at *
        generalize ps.map LV.str = Y1 at *
        generalize ys.map LV.str = Y0 at *
        simp [b__law_paths_1, c2, mx, ln, md, iz, div_ii, mod_ii, iy, ad1, ad2, nn, ct, c5, bm, ap]
      · refine ⟨ps, ⟨h1, h2, by omega⟩, (some (.int (k : Int)), some (.int c), some (.str z), some (.str (kid z y))), ?_⟩
        rw [turn_nm, e0]
        by_cases n1 : kid z y ∉ ps
        · rw [decide_eq_true n1] at nn
          have c5 : ¬ ((names z).length : Int) - 1 < 5 := fun h => new ⟨n1, by omega⟩
          generalize ps.map LV.str = Y1 at *
          generalize ys.map LV.str = Y0 at *
          simp [b__law_paths_1, c2, mx, ln, md, iz, div_ii, mod_ii, iy, ad1, ad2, nn, ct, c5]
        · rw [decide_eq_false n1] at nn
          generalize ps.map LV.str = Y1 at *
          generalize ys.map LV.str = Y0 at *
          simp [b__law_paths_1, c2, mx, ln, md, iz, div_ii, mod_ii, iy, ad1, ad2, nn]) [a, b] (none, none, none, none) ⟨P0, by simp, by simp⟩
  rw [List.length_range] at p3
  refine ⟨ps, p1, p2, by omega, ?_⟩
  have gc : gcF S (.ok (.ref S.length) (S ++ [.lst (ps.map .str)])) = .ok (.lst (ps.map .str)) S := gc_frz0 rfl (strs_low _)
  have a3' : ∀ S, ixL (.lst (ys.map .str)) (.int 0) S = .ok (.str a) S := a3
  have b3' : ∀ S, ixL (.lst (ys.map .str)) (.int 6) S = .ok (.str b) S := b3
  simp only [List.map_cons, List.map_nil] at lp
  generalize ps.map LV.str = Y1 at *
  generalize ys.map LV.str = Y0 at *
  simp [f__law_paths, e_fn, g__law_paths, c1, hN, a3', b3', rg, lp, gc]
/-! ### the chart -/
end K16


set_option Elab.async false
set_option linter.all false
set_option maxRecDepth 100000
set_option maxHeartbeats 4000000
namespace K16
open PySem PySem.Spec PyProof.Rows L2 LL
/-! ### currencies -/
abbrev ABC : Str := ("ABCDEFGHIJKLMNOPQRSTUVWXYZ" : Str)
theorem ABC_ix (j : Int) : ∃ d, d < 128 ∧ ∀ S, ixL (.str ABC) (.int (j % 26)) S = .ok (.str (one d)) S := by
  have l : ABC.length = 26 := by decide
  refine ⟨atN (tl ABC) (j % 26), atN_lt (by decide) (by omega) (by rw [LL.len_tl, l]; omega), fun S => ix_s (by omega) (by rw [l]; omega) (by rw [l]; omega)⟩
structure Cur (cs : List Str) : Prop where
  len : cs.length = 3
  fine : ∀ c ∈ cs, Fine 3 c
theorem currencies_e (c : Int) (S : Sto) : ∃ cs, Cur cs ∧ f__law_currencies [.int c] S = .ok (.lst (cs.map .str)) S := by
  obtain ⟨a, ha, ia⟩ := ABC_ix (c / 3)
  obtain ⟨b, hb, ib⟩ := ABC_ix (c / 78)
  obtain ⟨d0, hd0, i0⟩ := ABC_ix (c / 2028 + 3 * 0)
  obtain ⟨d1, hd1, i1⟩ := ABC_ix (c / 2028 + 3 * 1)
  obtain ⟨d2, hd2, i2⟩ := ABC_ix (c / 2028 + 3 * 2)
  obtain ⟨w, hw⟩ : ∃ w, w = one a ++ one b := ⟨_, rfl⟩
  have fw : Fine 2 w := by rw [hw]; exact (Fine.one ha).app (Fine.one hb)
  have aw : ∀ S, addL (.str (one a)) (.str (one b)) S = .ok (.str w) S := fun S => by rw [hw]; exact add_ss (by rw [len_one, len_one]; decide)
  obtain ⟨p, hp, p0, p1⟩ : ∃ p, p = c % 3 ∧ 0 ≤ p ∧ p < 3 := ⟨_, rfl, by omega, by omega⟩
  have lw : w.length = 2 := by rw [hw, app_len, len_one, len_one]
  have mk : ∀ d, d < 128 → Fine 3 ((cutS w none (some p) ++ one d) ++ cutS w (some p) none) := fun d hd => by
    refine ⟨?_, fun x hx => ?_⟩
    · rw [← LL.len_tl, tl_app, tl_app, cut_to _ p0, cut_from _ p0, tl_one, List.length_append, List.length_append, List.length_take, List.length_drop, LL.len_tl, lw, List.length_singleton]
      omega
    · rw [tl_app, tl_app] at hx
      rcases List.mem_append.mp hx with hx | hx
      · rcases List.mem_append.mp hx with hx | hx
        · exact (fw.cut none (some p)).sg x hx
        · rw [tl_one] at hx; rw [List.mem_singleton.mp hx]; exact hd
      · exact (fw.cut (some p) none).sg x hx
  have c1 : (cutS w none (some p)).length ≤ 2 := Nat.le_trans (LL.cut_len w _ _) (by omega)
  have c2 : (cutS w (some p) none).length ≤ 2 := Nat.le_trans (LL.cut_len w _ _) (by omega)
  have s1 : ∀ S, slG false (.str w) none (some p) S = .ok (.str (cutS w none (some p))) S := fun S => sl_s (by omega)
  have s2 : ∀ S, slG false (.str w) (some p) none S = .ok (.str (cutS w (some p) none)) S := fun S => sl_s (by omega)
  have a1 : ∀ d S, addL (.str (cutS w none (some p))) (.str (one d)) S = .ok (.str (cutS w none (some p) ++ one d)) S := fun d S => add_ss (by rw [len_one]; omega)
  have a2 : ∀ d S, addL (.str (cutS w none (some p) ++ one d)) (.str (cutS w (some p) none)) S = .ok (.str ((cutS w none (some p) ++ one d) ++ cutS w (some p) none)) S := fun d S => add_ss (by rw [app_len, len_one]; omega)
  have rg : rng1O [.int 3] S = .ok (itOf (rng 0 3)) S := rng1_e (by decide) (by decide)
  refine ⟨[(cutS w none (some p) ++ one d0) ++ cutS w (some p) none, (cutS w none (some p) ++ one d1) ++ cutS w (some p) none, (cutS w none (some p) ++ one d2) ++ cutS w (some p) none], ⟨rfl, fun x hx => ?_⟩, ?_⟩
  · simp only [List.mem_cons, List.not_mem_nil, or_false] at hx
    rcases hx with rfl | rfl | rfl
    · exact mk _ hd0
    · exact mk _ hd1
    · exact mk _ hd2
  · have body := lcR_all (t := false) (lg := gNm 4) (fe := e__law_currencies_1) (ds := [some (.int c), some (.str ABC), some (.str w), some (.int p), none]) (S := S) (l := itOf (rng 0 3)) (ws := [((0 : Int), d0), (1, d1), (2, d2)]) (g := fun q : Int × Nat => .int q.1) (fun q => .str ((cutS w none (some p) ++ one q.2) ++ cutS w (some p) none)) .of (by simp) (fun q hq acc => ⟨_, rfl, by
      have ml : ∀ k : Int, ∀ S, mulL (.int 3) (.int k) S = .ok (.int (3 * k)) S := fun k S => mul_l (by decide) (by decide)
      simp only [List.mem_cons, List.not_mem_nil, or_false] at hq
      rcases hq with rfl | rfl | rfl
      · simp only [Int.mul_zero, Int.add_zero] at i0
        simp [e__law_currencies_1, s1, s2, div_ii, mod_ii, ml, i0, a1, a2]
      · simp only [Int.mul_one] at i1
        simp [e__law_currencies_1, s1, s2, div_ii, mod_ii, ml, i1, a1, a2]
      · simp only [show (3 : Int) * 2 = 6 from rfl] at i2
        simp [e__law_currencies_1, s1, s2, div_ii, mod_ii, ml, i2, a1, a2]⟩) (fun _ _ => rfl)
    have b2 : lcR false (gNm 4) lYes e__law_currencies_1 [some (.int c), some (.str ABC), some (.str w), some (.int p), none] (.ok (itOf (rng 0 3)) S) = .ok (.lst ([(cutS w none (some p) ++ one d0) ++ cutS w (some p) none, (cutS w none (some p) ++ one d1) ++ cutS w (some p) none, (cutS w none (some p) ++ one d2) ++ cutS w (some p) none].map .str)) S := body
    have gc : gcF S (.ok (.lst ([(cutS w none (some p) ++ one d0) ++ cutS w (some p) none, (cutS w none (some p) ++ one d1) ++ cutS w (some p) none, (cutS w none (some p) ++ one d2) ++ cutS w (some p) none].map .str)) S) = .ok (.lst ([(cutS w none (some p) ++ one d0) ++ cutS w (some p) none, (cutS w none (some p) ++ one d1) ++ cutS w (some p) none, (cutS w none (some p) ++ one d2) ++ cutS w (some p) none].map .str)) S := gc_low0 (strs_low _)
    generalize [(cutS w none (some p) ++ one d0) ++ cutS w (some p) none, (cutS w none (some p) ++ one d1) ++ cutS w (some p) none, (cutS w none (some p) ++ one d2) ++ cutS w (some p) none].map LV.str = R at *
    simp [f__law_currencies, e_fn, g__law_currencies, c__law_currencies_1, div_ii, mod_ii, ia, ib, aw, ← hp, rg, wipeL, b2, gc]
/-! ### days -/
def mlens : List Int := [31, 28, 31, 30, 31, 30, 31, 31, 30, 31, 30]
theorem start_v (y : Int) : LL.ahead (2000 + y) = 365 * y + (y + 3) / 4 - (y + 99) / 100 + (y + 399) / 400 := by
  unfold LL.ahead
  rw [show 2000 + y - 2000 = y by omega]
  omega
theorem first_e (m : Int) (h0 : 0 ≤ m) (h1 : m ≤ 5000) (S : Sto) : f__law_first [.int m] S = .ok (.int (monF m)) S := by
  obtain ⟨y, hy, y0, y1⟩ : ∃ y, y = m / 12 ∧ 0 ≤ y ∧ y ≤ 500 := ⟨_, rfl, by omega, by omega⟩
  obtain ⟨dh, hdh⟩ : ∃ dh, dh = 365 * y + (y + 3) / 4 - (y + 99) / 100 + (y + 399) / 400 := ⟨_, rfl⟩
  have hl : ∀ (x0 x1 x2 x3 x4 : Option LV) S, x1 = some (.int y) → lAnd (lOp eqL (lOp modL (lVar 1) (lC (.int 4))) (lC (.int 0))) (lOr (lOp neL (lOp modL (lVar 1) (lC (.int 100))) (lC (.int 0))) (lOp eqL (lOp modL (lVar 1) (lC (.int 400))) (lC (.int 0)))) [x0, x1, x2, x3, x4] S = .ok (.bl (leap (2000 + y))) S := fun _ _ _ _ _ S e => by
    subst e
    have e1 : (2000 + y) % 4 = y % 4 := by omega
    have e2 : (2000 + y) % 100 = y % 100 := by omega
    have e3 : (2000 + y) % 400 = y % 400 := by omega
    unfold leap
    rw [e1, e2, e3]
    by_cases c1 : y % 4 = 0
    · by_cases c2 : y % 100 = 0
      · simp [mod_ii, c1, c2]
      · simp [mod_ii, c1, c2]
    · simp [mod_ii, c1]
  obtain ⟨long, hlg⟩ : ∃ long, long = leap (2000 + y) := ⟨_, rfl⟩
  rw [← hlg] at hl
  have q0 := Int.emod_nonneg m (show (12 : Int) ≠ 0 by decide)
  have q1 := Int.emod_lt_of_pos m (show (0 : Int) < 12 by decide)
  obtain ⟨k, hk⟩ : ∃ k : Nat, m % 12 = (k : Int) := ⟨_, (Int.toNat_of_nonneg q0).symm⟩
  let f : Int → Nat → Int := fun d j => d + mlens.getD j 0 + if j = 1 ∧ long = true then 1 else 0
  have kl : k < 12 := by omega
  have stp : ∀ (j : Nat), j < 11 → befo (2000 + y) ((j : Int) + 1 + 1) = befo (2000 + y) ((j : Int) + 1) + (mlens.getD j 0 + if j = 1 ∧ long = true then 1 else 0) := fun j hj => by
    rw [befo_step (by omega) (by omega)]
    congr 1
    have key : ∀ (j : Fin 11) (b : Bool), (if (j.1 : Int) + 1 = 2 ∧ b = true then 29 else longT.getD ((j.1 : Int) + 1 - 1).toNat 0) = mlens.getD j.1 0 + if j.1 = 1 ∧ b = true then 1 else 0 := by decide
    have := key ⟨j, hj⟩ long
    unfold mlen
    rw [← hlg]
    exact this
  have fl : ∀ i : Nat, i ≤ 11 → (List.range i).foldl f dh = dh + befo (2000 + y) ((i : Int) + 1) := fun i => by
    induction i with
    | zero => intro _; show dh = dh + befo _ ((0 : Nat) + 1 : Int); rw [show ((0 : Nat) : Int) + 1 = 1 from rfl, befo_1, Int.add_zero]
    | succ i ih =>
      intro hi
      rw [List.range_succ, List.foldl_append, ih (by omega), show ((i + 1 : Nat) : Int) + 1 = (i : Int) + 1 + 1 by omega, stp i (by omega)]
      show dh + befo (2000 + y) ((i : Int) + 1) + mlens.getD i 0 + _ = _
      omega
  have ix : ∀ (j : Nat), j < 11 → ∀ S, ixL (.lst [.int 31, .int 28, .int 31, .int 30, .int 31, .int 30, .int 31, .int 31, .int 30, .int 31, .int 30]) (.int (j : Int)) S = .ok (.int (mlens.getD j 0)) S := fun j hj S => by
    refine ix_v (xs := mlens.map LV.int) rfl (by omega) ?_
    rw [Int.toNat_natCast, List.getElem?_map]
    have : j < mlens.length := hj
    rw [List.getElem?_eq_getElem this, List.getD_eq_getElem?_getD, List.getElem?_eq_getElem this]
    rfl
  obtain ⟨_, j', lp⟩ := for_fold (lg := gNm 4) (fb := b__law_first_1) (l := itOf (rng 0 k)) (ws := List.range k) (g := fun j : Nat => .int (0 + (j : Int))) (fun (d : Int) (j : Option LV) => [some (.int m), some (.int y), some (.int d), some (.bl long), j]) (fun _ => S) f (fun _ => True) (fun _ _ => .of) (fun j hj d x _ => ⟨trivial, some (.int (j : Int)), by
    have hj := List.mem_range.mp hj
    have e0 : (0 : Int) + (j : Int) = (j : Int) := by omega
    have i := ix j (by omega)
    rw [turn_nm, e0]
    show _ = RS.nx [some (.int m), some (.int y), some (.int (d + mlens.getD j 0 + if j = 1 ∧ long = true then 1 else 0)), some (.bl long), some (.int (j : Int))] S
    generalize mlens.getD j 0 = v at *
    by_cases c : j = 1
    · subst c
      have i : ∀ S, ixL (.lst [.int 31, .int 28, .int 31, .int 30, .int 31, .int 30, .int 31, .int 31, .int 30, .int 31, .int 30]) (.int 1) S = .ok (.int v) S := i
      cases long <;> simp [b__law_first_1, i, intL]
    · have c2 : ¬ (j : Int) = 1 := by omega
      simp [b__law_first_1, i, c, c2, intL]⟩) dh none trivial
  have rg : rng1O [.int (k : Int)] S = .ok (itOf (rng 0 k)) S := by rw [rng1_e (by omega) (by omega), Int.toNat_natCast]
  have ml : ∀ S, mulL (.int 365) (.int y) S = .ok (.int (365 * y)) S := fun S => mul_l (by decide) (by decide)
  have res : (List.range k).foldl f dh = monF m := by
    rw [fl k (by omega), hdh, ← start_v]
    unfold monF monY monM
    rw [← hy, hk, Int.add_comm 1 (k : Int)]
  rw [res] at lp
  have hl' := hl (some (.int m)) (some (.int y)) (some (.int dh)) none none S rfl
  have g1 : r__law_first_1 [some (.int m), some (.int y), none, none, none] S = r__law_first_2 [some (.int m), some (.int y), some (.int dh), none, none] S := by
    simp [-r__law_first_2, ml, div_ii, ← hdh]
  have g2 : r__law_first_2 [some (.int m), some (.int y), some (.int dh), none, none] S = r__law_first_3 [some (.int m), some (.int y), some (.int dh), some (.bl long), none] S := by
    unfold r__law_first_2
    rw [e_seq, e_asg, hl']
    simp [-r__law_first_3]
  have g3 : r__law_first_3 [some (.int m), some (.int y), some (.int dh), some (.bl long), none] S = .rt (.int (monF m)) S := by
    generalize monF m = R at *
    simp [mod_ii, hk, rg, lp]
  have g0 : f__law_first [.int m] S = gcF S (fin (r__law_first_1 [some (.int m), some (.int y), none, none, none] S)) := by
    simp [-r__law_first_1, f__law_first, e_fn, g__law_first, div_ii, ← hy]
  rw [g0, g1, g2, g3]
  simp [gc_low0]

/-- a day of a month -/
theorem day_e (c m : Int) (h0 : 0 ≤ m) (h1 : m ≤ 4799) : ∃ d : Int, 0 ≤ d ∧ (∀ S, f_month_of [.int d] S = .ok (.int m) S) ∧ ∀ S, f__law_day [.int c, .int m] S = .ok (.int d) S := by
  have mb := mlen_b (y := monY m) (monM_b m).1 (monM_b m).2
  have key : ∀ p, 1 ≤ p → p ≤ mlen (monY m) (monM m) → 0 ≤ monF m + p - 1 ∧ ∀ S, f_month_of [.int (monF m + p - 1)] S = .ok (.int m) S := fun p p0 p1 => by
    have D := mon_day h0 h1 p0 p1
    have r := D.range
    rw [day_of_mon] at r
    refine ⟨r.1, fun S => ?_⟩
    have := month_of_e D S
    rw [day_of_mon] at this
    rw [this]
    have : 12 * (monY m - 2000) + monM m - 1 = m := by unfold monY monM; omega
    rw [this]
  have f1 := first_e m h0 (by omega)
  have f2 := first_e (m + 1) (by omega) (by omega)
  by_cases c1 : c % 4 = 0
  · obtain ⟨k1, k2⟩ := key 1 (by omega) (by omega)
    rw [show monF m + 1 - 1 = monF m by omega] at k1 k2
    exact ⟨_, k1, k2, fun S => by simp [f__law_day, e_fn, g__law_day, mod_ii, c1, f1, gc_low0]⟩
  · by_cases c2 : c % 4 = 1
    · obtain ⟨k1, k2⟩ := key (mlen (monY m) (monM m)) (by omega) (by omega)
      have e : monF m + mlen (monY m) (monM m) - 1 = monF (m + 1) - 1 := by rw [mon_next h0]; unfold monL; omega
      rw [e] at k1 k2
      exact ⟨_, k1, k2, fun S => by simp [f__law_day, e_fn, g__law_day, mod_ii, c1, c2, f2, gc_low0]⟩
    · obtain ⟨k1, k2⟩ := key (1 + c / 4 % 28) (by omega) (by omega)
      rw [show monF m + (1 + c / 4 % 28) - 1 = monF m + c / 4 % 28 by omega] at k1 k2
      exact ⟨_, k1, k2, fun S => by simp [f__law_day, e_fn, g__law_day, mod_ii, div_ii, c1, c2, f1, gc_low0]⟩
theorem amount_e (c : Int) (h0 : 0 ≤ c) (h1 : c < 2147483647) : ∃ a : Int, ∀ S, f__law_amount [.int c] S = .ok (.int a) S := by
  have p15 : ∀ S, powL (.int 10) (.int 15) S = .ok (.int 1000000000000000) S := fun S => pow_ii (by decide) (by decide) (by decide)
  have cc : ∀ S, mulL (.int c) (.int c) S = .ok (.int (c * c)) S := fun S => mul_l (by omega) (by omega)
  have m2 : ∀ S, mulL (.int 2) (.int (c / 3 % 2)) S = .ok (.int (2 * (c / 3 % 2))) S := fun S => mul_l (by decide) (by decide)
  have ml : ∀ x S, mulL (.int x) (.int (1 - 2 * (c / 3 % 2))) S = .ok (.int (x * (1 - 2 * (c / 3 % 2)))) S := fun x S => mul_r (by omega) (by omega)
  by_cases c1 : c % 3 = 1
  · by_cases c2 : c % 9 = 2
    · exact ⟨_, fun S => by simp [f__law_amount, e_fn, g__law_amount, mod_ii, div_ii, c1, c2, p15, cc, m2, ml]; exact gc_low0 rfl⟩
    · exact ⟨_, fun S => by simp [f__law_amount, e_fn, g__law_amount, mod_ii, div_ii, c1, c2, p15, cc, m2, ml]; exact gc_low0 rfl⟩
  · by_cases c2 : c % 9 = 2
    · exact ⟨_, fun S => by simp [f__law_amount, e_fn, g__law_amount, mod_ii, div_ii, c1, c2, p15, cc, m2, ml]; exact gc_low0 rfl⟩
    · exact ⟨_, fun S => by simp [f__law_amount, e_fn, g__law_amount, mod_ii, div_ii, c1, c2, p15, cc, m2, ml]; exact gc_low0 rfl⟩
end K16


set_option Elab.async false
set_option linter.all false
set_option maxRecDepth 100000
set_option maxHeartbeats 4000000
namespace K16
open PySem PySem.Spec PyProof.Rows L2 LL
/-! ### sums by months -/
/-- month, path, currency, amount -/
abbrev R4 := Int × Str × Str × Int
abbrev Mo := List (Int × Int)
def totR (M : List R4) (z c : Str) (p : Int → Bool) : Int := ((M.filter fun x => decide (x.2.1 = z ∧ x.2.2.1 = c) && p x.1).map (·.2.2.2)).sum
def totM (L : Mo) (p : Int → Bool) : Int := ((L.filter fun e => p e.1).map (·.2)).sum
def moD (L : Mo) : List (Key × LV) := L.map fun e => (.inl e.1, .int e.2)
def addM : Mo → Int → Int → Mo
  | [], m, a => [(m, 0 + a)]
  | e :: L, m, a => if e.1 = m then (m, e.2 + a) :: L else e :: addM L m a
def oldM : Mo → Int → Int
  | [], _ => 0
  | e :: L, m => if e.1 = m then e.2 else oldM L m
theorem addM_key {L : Mo} {m a x : Int} : x ∈ (addM L m a).map Prod.fst ↔ x ∈ L.map Prod.fst ∨ x = m := by
  induction L with
  | nil => simp [addM]
  | cons e L ih =>
    unfold addM
    by_cases h : e.1 = m
    · rw [if_pos h]
      simp only [List.map_cons, List.mem_cons, h]
      exact ⟨fun q => q.elim (fun e => .inl (.inl e)) fun e => .inl (.inr e), fun q => q.elim id .inl⟩
    · rw [if_neg h]
      simp only [List.map_cons, List.mem_cons, ih]
      exact ⟨fun q => q.elim (fun e => .inl (.inl e)) fun e => e.elim (fun e => .inl (.inr e)) .inr, fun q => q.elim (fun q => q.elim .inl fun e => .inr (.inl e)) fun e => .inr (.inr e)⟩
theorem addM_nd : ∀ {L : Mo} {m a : Int}, (L.map Prod.fst).Nodup → ((addM L m a).map Prod.fst).Nodup
  | [], m, a, _ => by simp [addM]
  | e :: L, m, a, nd => by
    rw [List.map_cons, List.nodup_cons] at nd
    unfold addM
    by_cases h : e.1 = m
    · rw [if_pos h, List.map_cons, List.nodup_cons]
      exact ⟨h ▸ nd.1, nd.2⟩
    · rw [if_neg h, List.map_cons, List.nodup_cons]
      exact ⟨fun q => (addM_key.mp q).elim nd.1 h, addM_nd nd.2⟩
theorem addM_len : ∀ {L : Mo} {m a : Int}, (addM L m a).length ≤ L.length + 1
  | [], m, a => by simp [addM]
  | e :: L, m, a => by
    unfold addM
    split
    · simp
    · have := addM_len (L := L) (m := m) (a := a)
      simp only [List.length_cons]
      omega
theorem addM_tot {p : Int → Bool} : ∀ {L : Mo} {m a : Int}, totM (addM L m a) p = totM L p + if p m = true then a else 0
  | [], m, a => by
    unfold addM totM
    cases h : p m <;> simp [h]
  | e :: L, m, a => by
    unfold addM
    by_cases h : e.1 = m
    · rw [if_pos h]
      unfold totM
      rw [List.filter_cons, List.filter_cons, h]
      by_cases q : p m = true
      · simp only [q, if_true, List.map_cons, List.sum_cons]
        omega
      · simp only [q, if_false]
        simp
    · rw [if_neg h]
      have ih := addM_tot (p := p) (L := L) (m := m) (a := a)
      unfold totM at ih ⊢
      rw [List.filter_cons, List.filter_cons]
      by_cases q : p e.1 = true
      · simp only [q, if_true, List.map_cons, List.sum_cons]
        omega
      · simp only [q, if_false]
        exact ih
theorem moD_get : ∀ (L : Mo) (m : Int), (getK (moD L) (.inl m)).getD (.int 0) = .int (oldM L m)
  | [], m => rfl
  | e :: L, m => by
    have ih := moD_get L m
    unfold getK moD at ih ⊢
    unfold oldM
    rw [List.map_cons, List.find?_cons]
    by_cases h : e.1 = m
    · subst h
      simp
    · have : decide ((Sum.inl e.1 : Key) = .inl m) = false := decide_eq_false fun z => h (by cases z; rfl)
      simp only [this, if_neg h]
      exact ih
theorem moD_put : ∀ {L : Mo} {m a : Int}, (L.map Prod.fst).Nodup → putL (moD L) (.inl m) (.int (oldM L m + a)) = moD (addM L m a)
  | [], m, a, _ => rfl
  | e :: L, m, a, nd => by
    rw [List.map_cons, List.nodup_cons] at nd
    by_cases h : e.1 = m
    · subst h
      have kp : (moD L).map (fun kv => if kv.1 = (.inl e.1 : Key) then (kv.1, LV.int (e.2 + a)) else kv) = moD L := by
        unfold moD
        rw [List.map_map]
        refine List.map_congr_left fun f hf => ?_
        have : ¬ f.1 = e.1 := fun z => nd.1 (z ▸ List.mem_map_of_mem (f := Prod.fst) hf)
        simp [this]
      unfold oldM addM
      rw [if_pos rfl, if_pos rfl]
      show putL (((.inl e.1 : Key), LV.int e.2) :: moD L) (.inl e.1) (.int (e.2 + a)) = ((.inl e.1 : Key), LV.int (e.2 + a)) :: moD L
      unfold putL
      rw [List.any_cons, decide_eq_true (rfl : (.inl e.1 : Key) = .inl e.1), Bool.true_or, if_pos rfl, List.map_cons, if_pos rfl, kp]
    · have ih := moD_put (a := a) (m := m) nd.2
      have hd : decide ((Sum.inl e.1 : Key) = .inl m) = false := decide_eq_false fun z => h (by cases z; rfl)
      have hn : ¬ ((Sum.inl e.1 : Key) = .inl m) := fun z => h (by cases z; rfl)
      unfold oldM addM
      rw [if_neg h, if_neg h]
      show putL (((.inl e.1 : Key), LV.int e.2) :: moD L) (.inl m) (.int (oldM L m + a)) = ((.inl e.1 : Key), LV.int e.2) :: moD (addM L m a)
      rw [← ih]
      unfold putL
      rw [List.any_cons, hd, Bool.false_or, List.map_cons, if_neg hn]
      split <;> rfl
structure MoR (L : Mo) (M : List R4) (z c : Str) : Prop where
  nd : (L.map Prod.fst).Nodup
  len : L.length ≤ M.length
  tot : ∀ p, totM L p = totR M z c p
theorem totR_snoc (M : List R4) (x : R4) (z c : Str) (p : Int → Bool) : totR (M ++ [x]) z c p = totR M z c p + if (x.2.1 = z ∧ x.2.2.1 = c) ∧ p x.1 = true then x.2.2.2 else 0 := by
  unfold totR
  rw [List.filter_append, List.map_append, List.sum_append]
  congr 1
  by_cases h : (x.2.1 = z ∧ x.2.2.1 = c) ∧ p x.1 = true
  · rw [if_pos h, List.filter_cons, decide_eq_true h.1, h.2]
    simp
  · rw [if_neg h, List.filter_cons]
    have : (decide (x.2.1 = z ∧ x.2.2.1 = c) && p x.1) = false := by
      cases q : p x.1 with
      | false => rw [Bool.and_false]
      | true => rw [Bool.and_true]; exact decide_eq_false fun k => h ⟨k, q⟩
    rw [this]
    simp
theorem MoR.add {L : Mo} {M : List R4} {z c : Str} {m a : Int} (h : MoR L M z c) : MoR (addM L m a) (M ++ [(m, z, c, a)]) z c where
  nd := addM_nd h.nd
  len := by
    have := addM_len (L := L) (m := m) (a := a)
    have := h.len
    rw [List.length_append, List.length_singleton]
    omega
  tot := fun p => by
    rw [addM_tot, totR_snoc, h.tot]
    by_cases q : p m = true
    · rw [if_pos q, if_pos ⟨⟨rfl, rfl⟩, q⟩]
    · rw [if_neg q, if_neg fun k => q k.2]
theorem MoR.skip {L : Mo} {M : List R4} {z c : Str} {x : R4} (h : MoR L M z c) (n : ¬ (x.2.1 = z ∧ x.2.2.1 = c)) : MoR L (M ++ [x]) z c where
  nd := h.nd
  len := by
    have := h.len
    rw [List.length_append, List.length_singleton]
    omega
  tot := fun p => by rw [totR_snoc, if_neg fun k => n k.1, h.tot, Int.add_zero]
theorem totR_none {M : List R4} {z c : Str} (h : ∀ x ∈ M, ¬ (x.2.1 = z ∧ x.2.2.1 = c)) (p : Int → Bool) : totR M z c p = 0 := by
  unfold totR
  rw [List.filter_eq_nil_iff.mpr fun x hx => by rw [decide_eq_false (h x hx)]; simp]
  rfl
theorem MoR.new {M : List R4} {z c : Str} (h : ∀ x ∈ M, ¬ (x.2.1 = z ∧ x.2.2.1 = c)) : MoR [] M z c where
  nd := List.nodup_nil
  len := Nat.zero_le _
  tot := fun p => by rw [totR_none h]; rfl
theorem nd_put4 {κ : Type} [DecidableEq κ] {kvs : List (κ × LV)} {k : κ} {v : LV} (h : (kvs.map (·.1)).Nodup) : ((putL kvs k v).map (·.1)).Nodup := by
  unfold putL
  split
  · have : (kvs.map fun kv => if kv.1 = k then (kv.1, v) else kv).map (·.1) = kvs.map (·.1) := by
      rw [List.map_map]
      exact List.map_congr_left fun kv _ => by
        show (if kv.1 = k then (kv.1, v) else kv).1 = kv.1
        split <;> rfl
    rw [this]
    exact h
  · rename_i c
    rw [List.map_append]
    refine List.nodup_append.mpr ⟨h, by simp, fun x hx y hy e => c ?_⟩
    have ey : y = k := by simpa using hy
    obtain ⟨kv, hkv, rfl⟩ := List.mem_map.mp hx
    exact List.any_eq_true.mpr ⟨kv, hkv, decide_eq_true (e.trans ey)⟩
theorem getK_nd4 {κ : Type} [DecidableEq κ] : ∀ {kvs : List (κ × LV)}, (kvs.map (·.1)).Nodup → ∀ {k : κ} {v : LV}, (k, v) ∈ kvs → getK kvs k = some v
  | [], _, k, v, h => by cases h
  | f :: kvs, nd, k, v, h => by
    rw [List.map_cons, List.nodup_cons] at nd
    unfold getK
    rw [List.find?_cons]
    rcases List.mem_cons.mp h with rfl | h
    · simp
    · have hn : f.1 ≠ k := fun z => nd.1 (z ▸ List.mem_map_of_mem (f := fun kv : κ × LV => kv.1) h)
      rw [decide_eq_false hn]
      exact getK_nd4 nd.2 h
theorem get_moreS {S U : Sto} {n : Nat} {o : LO} (h : S[n]? = some o) : (S ++ U)[n]? = some o := by
  rw [List.getElem?_append_left (List.getElem?_eq_some_iff.mp h).1]
  exact h
/-- the instance at r, its dict at k with the entries tvs: built of the rows M -/
structure Sm (S : Sto) (r k : Nat) (tvs : List (List Key × LV)) (M : List R4) : Prop where
  ins : S[r]? = some (.ins 100 [.ref k])
  tab : S[k]? = some (.dcT tvs)
  len : tvs.length ≤ M.length
  nd : (tvs.map (·.1)).Nodup
  key : ∀ kv ∈ tvs, ∃ z c n, kv = ([.inr z, .inr c], .ref n) ∧ ∃ x ∈ M, x.2.1 = z ∧ x.2.2.1 = c
  non : ∀ z c, getK tvs [.inr z, .inr c] = none → ∀ x ∈ M, ¬ (x.2.1 = z ∧ x.2.2.1 = c)
  mon : ∀ z c n, getK tvs [.inr z, .inr c] = some (.ref n) → ∃ L, S[n]? = some (.dct (moD L)) ∧ MoR L M z c
  inj : ∀ a b c d n, getK tvs [.inr a, .inr b] = some (.ref n) → getK tvs [.inr c, .inr d] = some (.ref n) → a = c ∧ b = d
theorem Sm.mono {S S' : Sto} {r k : Nat} {tvs : List (List Key × LV)} {M : List R4} (h : Sm S r k tvs M) (e1 : S'[r]? = S[r]?) (e2 : S'[k]? = S[k]?) (e3 : ∀ ks n, getK tvs ks = some (.ref n) → S'[n]? = S[n]?) : Sm S' r k tvs M where
  ins := e1.trans h.ins
  tab := e2.trans h.tab
  len := h.len
  nd := h.nd
  key := h.key
  non := h.non
  mon := fun a b n g => by
    obtain ⟨L, h1, h2⟩ := h.mon a b n g
    exact ⟨L, (e3 _ n g).trans h1, h2⟩
  inj := h.inj
theorem Sm.ref {S : Sto} {r k : Nat} {tvs : List (List Key × LV)} {M : List R4} (h : Sm S r k tvs M) {ks : List Key} {v : LV} (g : getK tvs ks = some v) : ∃ z c n L, ks = [.inr z, .inr c] ∧ v = .ref n ∧ S[n]? = some (.dct (moD L)) ∧ MoR L M z c := by
  obtain ⟨z, c, n, e, x, hx⟩ := h.key _ (getK_mem g)
  cases e
  obtain ⟨L, h1, h2⟩ := h.mon z c n g
  exact ⟨z, c, n, L, rfl, rfl, h1, h2⟩
theorem Sm.lt {S : Sto} {r k : Nat} {tvs : List (List Key × LV)} {M : List R4} (h : Sm S r k tvs M) {ks : List Key} {n : Nat} (g : getK tvs ks = some (.ref n)) : n < S.length := by
  obtain ⟨_, _, n', L, _, e, q, _⟩ := h.ref g
  cases e
  exact (List.getElem?_eq_some_iff.mp q).1
theorem Sm.app {S U : Sto} {r k : Nat} {tvs : List (List Key × LV)} {M : List R4} (h : Sm S r k tvs M) : Sm (S ++ U) r k tvs M :=
  h.mono (List.getElem?_append_left (List.getElem?_eq_some_iff.mp h.ins).1) (List.getElem?_append_left (List.getElem?_eq_some_iff.mp h.tab).1) fun _ _ g => List.getElem?_append_left (h.lt g)
/-- what of the store is left -/
structure LvS (S S' : Sto) (k : Nat) (tvs tvs' : List (List Key × LV)) : Prop where
  len : S.length ≤ S'.length
  old : ∀ n, n < S.length → n ≠ k → (∀ ks, getK tvs ks ≠ some (.ref n)) → S'[n]? = S[n]?
  ref : ∀ ks n, getK tvs' ks = some (.ref n) → getK tvs ks = some (.ref n) ∨ S.length ≤ n
theorem LvS.id {S : Sto} {k : Nat} {tvs : List (List Key × LV)} : LvS S S k tvs tvs := ⟨Nat.le_refl _, fun _ _ _ _ => rfl, fun _ _ g => .inl g⟩
theorem LvS.trans {S S' S2 : Sto} {k : Nat} {t t' t2 : List (List Key × LV)} (h : LvS S S' k t t') (h2 : LvS S' S2 k t' t2) : LvS S S2 k t t2 where
  len := Nat.le_trans h.len h2.len
  old := fun n hn hk hf => by
    rw [h2.old n (Nat.lt_of_lt_of_le hn h.len) hk fun ks g => (h.ref ks n g).elim (hf ks) fun q => Nat.not_lt.mpr q hn]
    exact h.old n hn hk hf
  ref := fun ks n g => (h2.ref ks n g).elim (h.ref ks n) fun q => .inr (Nat.le_trans h.len q)
theorem sum_l4 {S : Sto} (ws : List Int) : sumL [.lst (ws.map .int)] S = .ok (.int ws.sum) S := by
  have q : ∀ l : List Int, intsL (l.map .int) = some l := fun l => by
    induction l with
    | nil => rfl
    | cons w l ih =>
      unfold intsL at ih ⊢
      simp only [List.map_cons, seqO] at ih ⊢
      rw [ih]
  simp [sumL, listI, q]
theorem moD_at {L : Mo} (nd : (L.map Prod.fst).Nodup) {e : Int × Int} (h : e ∈ L) : getK (moD L) (.inl e.1) = some (.int e.2) := by
  refine getK_nd4 ?_ (List.mem_map.mpr ⟨e, h, rfl⟩)
  have : (moD L).map (·.1) = (L.map Prod.fst).map Sum.inl := by
    unfold moD
    rw [List.map_map, List.map_map]
    rfl
  rw [this]
  unfold List.Nodup at nd ⊢
  rw [List.pairwise_map]
  exact nd.imp fun ne z => ne (by cases z; rfl)
def pairS : List Key → Str × Str
  | [.inr a, .inr b] => (a, b)
  | _ => ("", "")
def ownS (tvs : List (List Key × LV)) (z : Str) : List Str := (tvs.filter fun kv => decide ((pairS kv.1).1 = z)).map fun kv => (pairS kv.1).2
theorem ownS_len (tvs : List (List Key × LV)) (z : Str) : (ownS tvs z).length ≤ tvs.length := by
  unfold ownS
  rw [List.length_map]
  exact List.length_filter_le _ _
/-- the texts that come, each once -/
theorem foldZ_mem (c : Str) : ∀ (l ys : List Str), c ∈ l.foldl addZ ys ↔ c ∈ ys ∨ c ∈ l
  | [], ys => by simp
  | x :: l, ys => by
    rw [List.foldl_cons, foldZ_mem c l, addZ_mem, List.mem_cons]
    exact ⟨fun q => q.elim (fun q => q.elim .inl fun e => .inr (.inl e)) fun e => .inr (.inr e), fun q => q.elim (fun e => .inl (.inl e)) fun q => q.elim (fun e => .inl (.inr e)) .inr⟩
theorem foldZ_nd : ∀ (l ys : List Str), ys.Nodup → (l.foldl addZ ys).Nodup
  | [], ys, h => h
  | x :: l, ys, h => foldZ_nd l _ (addZ_nd h)
theorem curs_same {S : Sto} {r k : Nat} {tvs : List (List Key × LV)} {M : List R4} (h : Sm S r k tvs M) (z : Str) : sortS (ownS tvs z) = sortS (((M.filter fun x => decide (x.2.1 = z)).map (·.2.2.1)).foldl addZ []) := by
  refine sortS_uniq ((sortS_perm _).trans ((List.perm_ext_iff_of_nodup ?_ (foldZ_nd _ _ List.nodup_nil)).mpr fun c => ?_)) (sortS_pw _)
  · unfold ownS List.Nodup
    rw [List.pairwise_map]
    have nd := h.nd
    unfold List.Nodup at nd
    rw [List.pairwise_map] at nd
    refine List.Pairwise.imp_of_mem (fun {x y} hx hy ne e => ?_) (nd.filter _)
    obtain ⟨hx1, hx2⟩ := List.mem_filter.mp hx
    obtain ⟨hy1, hy2⟩ := List.mem_filter.mp hy
    obtain ⟨a, b, n, rfl, _⟩ := h.key x hx1
    obtain ⟨a', b', n', rfl, _⟩ := h.key y hy1
    have e1 : a = z := of_decide_eq_true hx2
    have e2 : a' = z := of_decide_eq_true hy2
    have e3 : b = b' := e
    exact ne (by rw [e1, e2, e3])
  · rw [foldZ_mem]
    unfold ownS
    simp only [List.mem_map, List.mem_filter, List.not_mem_nil, false_or]
    constructor
    · rintro ⟨kv, ⟨hkv, hz⟩, rfl⟩
      obtain ⟨a, b, n, rfl, x, hx, e1, e2⟩ := h.key kv hkv
      have e3 : a = z := of_decide_eq_true hz
      exact ⟨x, ⟨hx, decide_eq_true (e1.trans e3)⟩, e2⟩
    · rintro ⟨x, ⟨hx, hz⟩, rfl⟩
      have e3 := of_decide_eq_true hz
      cases g : getK tvs [.inr z, .inr x.2.2.1] with
      | none => exact absurd ⟨e3, rfl⟩ (h.non _ _ g x hx)
      | some v => exact ⟨_, ⟨getK_mem g, decide_eq_true rfl⟩, rfl⟩
theorem sum_row {S : Sto} {r k : Nat} {tvs : List (List Key × LV)} {M : List R4} (h : Sm S r k tvs M) (hl : M.length ≤ 100000) (x1 x6 : Option LV) (m a : Int) (z c : Str) :
    ∃ v S' tvs', b_Sums_put_1 [some (.ref r), x1, some (.int m), some (.str z), some (.str c), some (.int a), x6] S = .nx [some (.ref r), x1, some (.int m), some (.str z), some (.str c), some (.int a), some v] S' ∧ Sm S' r k tvs' (M ++ [(m, z, c, a)]) ∧ LvS S S' k tvs tvs' := by
  have kl : keysL [.str z, .str c] = some [.inr z, .inr c] := rfl
  have dc : isDc (.ref k) S = true := isDc_dT h.tab
  have kS : k < S.length := (List.getElem?_eq_some_iff.mp h.tab).1
  have rS : r < S.length := (List.getElem?_eq_some_iff.mp h.ins).1
  have rk : r ≠ k := fun e => by have := h.ins; rw [e, h.tab] at this; cases this
  have sd : setdK (.ref k) (.tup [.str z, .str c]) (.ref S.length) (S ++ [LO.dct []]) = match getK tvs [.inr z, .inr c] with
    | some w => .ok w (S ++ [LO.dct []])
    | none => .ok (.ref S.length) ((S ++ [LO.dct []]).set k (.dcT (putL tvs [.inr z, .inr c] (.ref S.length)))) := setdK_t (get_moreS h.tab) kl (by have := h.len; omega)
  have other : ∀ {a' b' : Str}, ([.inr a', .inr b'] : List Key) ≠ [.inr z, .inr c] → ¬ (z = a' ∧ c = b') := fun q w => q (by rw [w.1, w.2])
  cases g : getK tvs [.inr z, .inr c] with
  | none =>
    rw [g] at sd
    simp only at sd
    obtain ⟨T', hT⟩ : ∃ T', T' = putL tvs [.inr z, .inr c] (LV.ref S.length) := ⟨_, rfl⟩
    rw [← hT] at sd
    have s1 : (S ++ [LO.dct []]).set k (.dcT T') = S.set k (.dcT T') ++ [.dct []] := List.set_append_left k _ kS
    rw [s1] at sd
    have lenS : (S.set k (LO.dcT T')).length = S.length := List.length_set
    have gn : (S.set k (LO.dcT T') ++ [LO.dct []])[S.length]? = some (.dct []) := by
      have := @get_app0 (S.set k (LO.dcT T')) [LO.dct []]
      rw [lenS] at this
      rw [this]; rfl
    have go : gotO (.ref S.length) (.int m) (.int 0) (S.set k (.dcT T') ++ [.dct []]) = .ok (.int 0) (S.set k (.dcT T') ++ [.dct []]) := by
      rw [got_d gn rfl]; rfl
    have di : isDc (.ref S.length) (S.set k (.dcT T') ++ [.dct []]) = true := isDc_ref gn
    have pu : putO (.ref S.length) (.int m) (.int (0 + a)) (S.set k (.dcT T') ++ [.dct []]) = some (S.set k (.dcT T') ++ [.dct (moD [(m, 0 + a)])]) := by
      rw [put_d gn rfl (by simp)]
      have := @set_app0 (S.set k (LO.dcT T')) [LO.dct []] (.dct (moD [(m, 0 + a)]))
      rw [lenS] at this
      rw [show putL ([] : List (Key × LV)) (.inl m) (.int (0 + a)) = moD [(m, 0 + a)] from rfl, this]
      rfl
    obtain ⟨S', hS⟩ : ∃ S', S' = S.set k (.dcT T') ++ [.dct (moD [(m, 0 + a)])] := ⟨_, rfl⟩
    rw [← hS] at pu
    have gk : S'[k]? = some (.dcT T') := by
      rw [hS, List.getElem?_append_left (by rw [lenS]; exact kS), List.getElem?_set_self kS]
    have gnew : S'[S.length]? = some (.dct (moD [(m, 0 + a)])) := by
      have := @get_app0 (S.set k (LO.dcT T')) [LO.dct (moD [(m, 0 + a)])]
      rw [lenS] at this
      rw [hS, this]; rfl
    have gold : ∀ n, n < S.length → n ≠ k → S'[n]? = S[n]? := fun n hn hk => by
      rw [hS, List.getElem?_append_left (by rw [lenS]; exact hn), List.getElem?_set_ne fun e => hk e.symm]
    have gput : ∀ ks, getK T' ks = if ks = [.inr z, .inr c] then some (LV.ref S.length) else getK tvs ks := fun ks => by rw [hT]; exact getK_put _ _ _ _
    refine ⟨.ref S.length, S', T', ?_, ?_, ?_⟩
    · generalize S.set k (LO.dcT T') ++ [LO.dct []] = S1 at *
      have zz : (0 : Int) + a = a := by omega
      rw [zz] at pu
      simp [b_Sums_put_1, fld_ok h.ins, setd1_ok dc, sd, get2a_ok di, go, e_sub, sub3_ok pu]
    · refine ⟨?_, gk, ?_, by rw [hT]; exact nd_put4 h.nd, ?_, ?_, ?_, ?_⟩
      · rw [gold r rS rk]; exact h.ins
      · have := len_putL tvs [.inr z, .inr c] (LV.ref S.length)
        have := h.len
        rw [hT, List.length_append, List.length_singleton]
        omega
      · intro kv hkv
        rw [hT] at hkv
        rcases mem_putL hkv with rfl | ⟨hm, _⟩
        · exact ⟨z, c, S.length, rfl, (m, z, c, a), by simp, rfl, rfl⟩
        · obtain ⟨a', b', n, h1, y, hy, h3⟩ := h.key kv hm
          exact ⟨a', b', n, h1, y, List.mem_append_left _ hy, h3⟩
      · intro a' b' gn2 y hy
        rw [gput] at gn2
        by_cases q : ([.inr a', .inr b'] : List Key) = [.inr z, .inr c]
        · rw [if_pos q] at gn2; cases gn2
        · rw [if_neg q] at gn2
          rcases List.mem_append.mp hy with hy | hy
          · exact h.non a' b' gn2 y hy
          · rw [List.mem_singleton.mp hy]
            exact other q
      · intro a' b' n gn2
        rw [gput] at gn2
        by_cases q : ([.inr a', .inr b'] : List Key) = [.inr z, .inr c]
        · rw [if_pos q] at gn2
          cases gn2
          cases q
          exact ⟨_, gnew, (MoR.new (h.non _ _ g)).add⟩
        · rw [if_neg q] at gn2
          obtain ⟨a2, b2, n', L, q1, q2, q4, q5⟩ := h.ref gn2
          cases q1
          cases q2
          have nS := (List.getElem?_eq_some_iff.mp q4).1
          refine ⟨L, ?_, q5.skip (other q)⟩
          rw [gold n nS fun w => by rw [w, h.tab] at q4; cases q4]
          exact q4
      · intro a1 b1 a2 b2 n g1 g2
        rw [gput] at g1 g2
        by_cases z1 : ([.inr a1, .inr b1] : List Key) = [.inr z, .inr c] <;> by_cases z2 : ([.inr a2, .inr b2] : List Key) = [.inr z, .inr c]
        · cases z1; cases z2; exact ⟨rfl, rfl⟩
        · rw [if_pos z1] at g1
          rw [if_neg z2] at g2
          have := h.lt g2
          cases g1
          omega
        · rw [if_neg z1] at g1
          rw [if_pos z2] at g2
          have := h.lt g1
          cases g2
          omega
        · rw [if_neg z1] at g1
          rw [if_neg z2] at g2
          exact h.inj a1 b1 a2 b2 n g1 g2
    · refine ⟨by rw [hS, List.length_append, lenS]; omega, fun n hn hk _ => gold n hn hk, fun ks n gz => ?_⟩
      rw [gput] at gz
      by_cases q : ks = [.inr z, .inr c]
      · rw [if_pos q] at gz
        cases gz
        exact .inr (Nat.le_refl _)
      · rw [if_neg q] at gz
        exact .inl gz
  | some v =>
    rw [g] at sd
    simp only at sd
    obtain ⟨a0, b0, n, L, ek, rfl, hn, D⟩ := h.ref g
    cases ek
    have nS := (List.getElem?_eq_some_iff.mp hn).1
    have nk : n ≠ k := fun e => by rw [e, h.tab] at hn; cases hn
    have nr : n ≠ r := fun e => by rw [e, h.ins] at hn; cases hn
    have go : gotO (.ref n) (.int m) (.int 0) (S ++ [.dct []]) = .ok (.int (oldM L m)) (S ++ [.dct []]) := by
      rw [got_d (get_moreS hn) rfl, moD_get]
    have di : isDc (.ref n) (S ++ [.dct []]) = true := isDc_ref (get_moreS hn)
    have pu : putO (.ref n) (.int m) (.int (oldM L m + a)) (S ++ [.dct []]) = some (S.set n (.dct (moD (addM L m a))) ++ [.dct []]) := by
      rw [put_d (get_moreS hn) rfl (by have := D.len; unfold moD; rw [List.length_map]; omega), moD_put D.nd, List.set_append_left _ _ nS]
    obtain ⟨S', hS⟩ : ∃ S', S' = S.set n (.dct (moD (addM L m a))) ++ [.dct []] := ⟨_, rfl⟩
    rw [← hS] at pu
    have lenS : (S.set n (LO.dct (moD (addM L m a)))).length = S.length := List.length_set
    have gold : ∀ i, i < S.length → i ≠ n → S'[i]? = S[i]? := fun i hi hk => by
      rw [hS, List.getElem?_append_left (by rw [lenS]; exact hi), List.getElem?_set_ne fun e => hk e.symm]
    have gnew : S'[n]? = some (.dct (moD (addM L m a))) := by
      rw [hS, List.getElem?_append_left (by rw [lenS]; exact nS), List.getElem?_set_self nS]
    refine ⟨.ref n, S', tvs, ?_, ?_, ?_⟩
    · simp [b_Sums_put_1, fld_ok h.ins, setd1_ok dc, sd, get2a_ok di, go, e_sub, sub3_ok pu]
    · refine ⟨?_, ?_, ?_, h.nd, ?_, ?_, ?_, h.inj⟩
      · rw [gold r rS (Ne.symm nr)]; exact h.ins
      · rw [gold k kS (Ne.symm nk)]; exact h.tab
      · have := h.len
        rw [List.length_append]
        omega
      · intro kv hkv
        obtain ⟨a', b', n', h1, y, hy, h3⟩ := h.key kv hkv
        exact ⟨a', b', n', h1, y, List.mem_append_left _ hy, h3⟩
      · intro a' b' gn2 y hy
        rcases List.mem_append.mp hy with hy | hy
        · exact h.non a' b' gn2 y hy
        · rw [List.mem_singleton.mp hy]
          refine other fun q => ?_
          rw [q, g] at gn2
          cases gn2
      · intro a' b' i gi
        by_cases q : ([.inr a', .inr b'] : List Key) = [.inr z, .inr c]
        · rw [q, g] at gi
          cases gi
          cases q
          exact ⟨_, gnew, D.add⟩
        · obtain ⟨a2, b2, n', L2, q1, q2, q4, q5⟩ := h.ref gi
          cases q1
          cases q2
          refine ⟨L2, ?_, q5.skip (other q)⟩
          rw [gold i (List.getElem?_eq_some_iff.mp q4).1 fun w => ?_]
          · exact q4
          · subst w
            obtain ⟨e1, e2⟩ := h.inj _ _ _ _ _ gi g
            exact q (by rw [e1, e2])
    · refine ⟨by rw [hS, List.length_append, lenS]; omega, fun i hi hk hf => gold i hi fun e => hf [.inr z, .inr c] (by rw [e]; exact g), fun ks i gz => .inl gz⟩
theorem own_days {S : Sto} {n : Nat} {L : Mo} (hn : S[n]? = some (.dct (moD L))) (nd : (L.map Prod.fst).Nodup) (hl : L.length ≤ 16777216) (x0 x1 x2 x6 : Option LV) (f l : Int) :
    lLock (lVar 5) c_Sums_own_T_1 [x0, x1, x2, some (.int f), some (.int l), some (.ref n), x6] S = .ok (.lst (((L.filter fun e => decide (f ≤ e.1) && decide (e.1 ≤ l)).map (·.2)).map .int)) S := by
  have nl : n < S.length := (List.getElem?_eq_some_iff.mp hn).1
  have hk : (S.set n (.dck (moD L)))[n]? = some (.dck (moD L)) := List.getElem?_set_self nl
  have e := lockE_e (fd := lVar 5) (fe := c_Sums_own_T_1) (ds := [x0, x1, x2, some (.int f), some (.int l), some (.ref n), x6]) (S := S) (S0 := S) (v := .lst (((L.filter fun e => decide (f ≤ e.1) && decide (e.1 ≤ l)).map (·.2)).map .int)) (S' := S.set n (.dck (moD L))) (by simp) hn (by
    have it : (moD L).map (fun kv => keyV kv.1) = L.map fun e => LV.int e.1 := by
      unfold moD
      rw [List.map_map]
      rfl
    have di := dictO_k hk
    rw [it] at di
    have body := lcR_map (t := false) (lg := gNm 6) (ft := t_Sums_own_T_1) (fe := e_Sums_own_T_1) (ds := [x0, x1, x2, some (.int f), some (.int l), some (.ref n), none]) (S := S.set n (.dck (moD L))) (ws := L) (g := fun e => LV.int e.1) (fun e => decide (f ≤ e.1) && decide (e.1 ≤ l)) (fun e => LV.int e.2) .of hl (fun e he acc => ⟨[x0, x1, x2, some (.int f), some (.int l), some (.ref n), some (.int e.1)], rfl, by
        by_cases q : f ≤ e.1
        · simp [t_Sums_own_T_1, q]
        · simp [t_Sums_own_T_1, q], fun _ => by
        have ix := ix_dck (S := S.set n (.dck (moD L)) ++ [.lst acc]) (v := .int e.1) (get_moreS hk) rfl (moD_at nd he)
        simp [e_Sums_own_T_1, ix]⟩) (fun _ _ _ => rfl)
    have mm : ((L.filter fun e => decide (f ≤ e.1) && decide (e.1 ≤ l)).map (·.2)).map LV.int = (L.filter fun e => decide (f ≤ e.1) && decide (e.1 ≤ l)).map fun e => LV.int e.2 := by rw [List.map_map]; rfl
    rw [mm]
    generalize ((L.filter fun e => decide (f ≤ e.1) && decide (e.1 ≤ l)).map fun e => LV.int e.2) = V at *
    generalize (L.map fun e => LV.int e.1) = W at *
    simp [c_Sums_own_T_1, wipeL, di, body, newL]) hk
  rw [e, List.set_set, set_same hn]
theorem own_e {S : Sto} {r k : Nat} {tvs : List (List Key × LV)} {M : List R4} (h : Sm S r k tvs M) (hl : M.length ≤ 100000) (z c : Str) (f l : Int) :
    f_Sums_own_T [.ref r, .str z, .str c, .int f, .int l] S = .ok (.int (totR M z c fun m => decide (f ≤ m) && decide (m ≤ l))) S := by
  have kl : keysL [.str z, .str c] = some [.inr z, .inr c] := rfl
  have dc : isDc (.ref k) S = true := isDc_dT h.tab
  have key : ∀ n L, (S ++ [LO.dct []])[n]? = some (.dct (moD L)) → MoR L M z c → gotO (.ref k) (.tup [.str z, .str c]) (.ref S.length) (S ++ [.dct []]) = .ok (.ref n) (S ++ [.dct []]) →
      f_Sums_own_T [.ref r, .str z, .str c, .int f, .int l] S = .ok (.int (totR M z c fun m => decide (f ≤ m) && decide (m ≤ l))) S := fun n L gn D gt => by
    have nd := own_days gn D.nd (by have := D.len; omega) (some (.ref r)) (some (.str z)) (some (.str c)) none f l
    have sm := sum_l4 (S := S ++ [LO.dct []]) ((L.filter fun e => decide (f ≤ e.1) && decide (e.1 ≤ l)).map (·.2))
    rw [← D.tot]
    unfold totM
    generalize ((L.filter fun e => decide (f ≤ e.1) && decide (e.1 ≤ l)).map (·.2)) = ws at *
    generalize ws.map LV.int = W at *
    simp [f_Sums_own_T, e_fnT, g_Sums_own_T, fld_ok h.ins, get2a_ok dc, gt, nd, sm, gcG_t, gcT, gc_low]
  cases g : getK tvs [.inr z, .inr c] with
  | none => exact key S.length [] (by rw [get_app0]; rfl) (MoR.new (h.non z c g)) (by rw [got_dT (get_moreS h.tab) kl, g]; rfl)
  | some v =>
    obtain ⟨z', c', n, L, ek, rfl, hn, D⟩ := h.ref g
    cases ek
    exact key n L (get_moreS hn) D (by rw [got_dT (get_moreS h.tab) kl, g]; rfl)
theorem standing_days {S : Sto} {n : Nat} {L : Mo} (hn : S[n]? = some (.dct (moD L))) (nd : (L.map Prod.fst).Nodup) (hl : L.length ≤ 16777216) (x0 x1 x2 x5 : Option LV) (l : Int) :
    lLock (lVar 4) c_Sums_standing_T_1 [x0, x1, x2, some (.int l), some (.ref n), x5] S = .ok (.lst (((L.filter fun e => decide (e.1 ≤ l)).map (·.2)).map .int)) S := by
  have nl : n < S.length := (List.getElem?_eq_some_iff.mp hn).1
  have hk : (S.set n (.dck (moD L)))[n]? = some (.dck (moD L)) := List.getElem?_set_self nl
  have e := lockE_e (fd := lVar 4) (fe := c_Sums_standing_T_1) (ds := [x0, x1, x2, some (.int l), some (.ref n), x5]) (S := S) (S0 := S) (v := .lst (((L.filter fun e => decide (e.1 ≤ l)).map (·.2)).map .int)) (S' := S.set n (.dck (moD L))) (by simp) hn (by
    have it : (moD L).map (fun kv => keyV kv.1) = L.map fun e => LV.int e.1 := by
      unfold moD
      rw [List.map_map]
      rfl
    have di := dictO_k hk
    rw [it] at di
    have body := lcR_map (t := false) (lg := gNm 5) (ft := t_Sums_standing_T_1) (fe := e_Sums_standing_T_1) (ds := [x0, x1, x2, some (.int l), some (.ref n), none]) (S := S.set n (.dck (moD L))) (ws := L) (g := fun e => LV.int e.1) (fun e => decide (e.1 ≤ l)) (fun e => LV.int e.2) .of hl (fun e he acc => ⟨[x0, x1, x2, some (.int l), some (.ref n), some (.int e.1)], rfl, by simp [t_Sums_standing_T_1], fun _ => by
        have ix := ix_dck (S := S.set n (.dck (moD L)) ++ [.lst acc]) (v := .int e.1) (get_moreS hk) rfl (moD_at nd he)
        simp [e_Sums_standing_T_1, ix]⟩) (fun _ _ _ => rfl)
    have mm : ((L.filter fun e => decide (e.1 ≤ l)).map (·.2)).map LV.int = (L.filter fun e => decide (e.1 ≤ l)).map fun e => LV.int e.2 := by rw [List.map_map]; rfl
    rw [mm]
    generalize ((L.filter fun e => decide (e.1 ≤ l)).map fun e => LV.int e.2) = V at *
    generalize (L.map fun e => LV.int e.1) = W at *
    simp [c_Sums_standing_T_1, wipeL, di, body, newL]) hk
  rw [e, List.set_set, set_same hn]
theorem standing_e {S : Sto} {r k : Nat} {tvs : List (List Key × LV)} {M : List R4} (h : Sm S r k tvs M) (hl : M.length ≤ 100000) (z c : Str) (l : Int) :
    f_Sums_standing_T [.ref r, .str z, .str c, .int l] S = .ok (.int (totR M z c fun m => decide (m ≤ l))) S := by
  have kl : keysL [.str z, .str c] = some [.inr z, .inr c] := rfl
  have dc : isDc (.ref k) S = true := isDc_dT h.tab
  have key : ∀ n L, (S ++ [LO.dct []])[n]? = some (.dct (moD L)) → MoR L M z c → gotO (.ref k) (.tup [.str z, .str c]) (.ref S.length) (S ++ [.dct []]) = .ok (.ref n) (S ++ [.dct []]) →
      f_Sums_standing_T [.ref r, .str z, .str c, .int l] S = .ok (.int (totR M z c fun m => decide (m ≤ l))) S := fun n L gn D gt => by
    have nd := standing_days gn D.nd (by have := D.len; omega) (some (.ref r)) (some (.str z)) (some (.str c)) none l
    have sm := sum_l4 (S := S ++ [LO.dct []]) ((L.filter fun e => decide (e.1 ≤ l)).map (·.2))
    rw [← D.tot]
    unfold totM
    generalize ((L.filter fun e => decide (e.1 ≤ l)).map (·.2)) = ws at *
    generalize ws.map LV.int = W at *
    simp [f_Sums_standing_T, e_fnT, g_Sums_standing_T, fld_ok h.ins, get2a_ok dc, gt, nd, sm, gcG_t, gcT, gc_low]
  cases g : getK tvs [.inr z, .inr c] with
  | none => exact key S.length [] (by rw [get_app0]; rfl) (MoR.new (h.non z c g)) (by rw [got_dT (get_moreS h.tab) kl, g]; rfl)
  | some v =>
    obtain ⟨z', c', n, L, ek, rfl, hn, D⟩ := h.ref g
    cases ek
    exact key n L (get_moreS hn) D (by rw [got_dT (get_moreS h.tab) kl, g]; rfl)
theorem curs_in {S : Sto} {r k : Nat} {tvs : List (List Key × LV)} {M : List R4} (h : Sm S r k tvs M) (hl : M.length ≤ 100000) (z : Str) (x2 : Option LV) :
    lLock (lUn (fldL 100 0) (lVar 0)) c_Sums_currencies_T_1 [some (.ref r), some (.str z), x2] S = .ok (.lst ((ownS tvs z).map .str)) S := by
  have kS : k < S.length := (List.getElem?_eq_some_iff.mp h.tab).1
  have rk : k ≠ r := fun e => by have := h.ins; rw [← e, h.tab] at this; cases this
  have hk : (S.set k (.dcl tvs))[k]? = some (.dcl tvs) := List.getElem?_set_self kS
  have hr : (S.set k (.dcl tvs))[r]? = some (.ins 100 [.ref k]) := by rw [List.getElem?_set_ne rk]; exact h.ins
  have e := lockE_t (fd := lUn (fldL 100 0) (lVar 0)) (fe := c_Sums_currencies_T_1) (ds := [some (.ref r), some (.str z), x2]) (S := S) (S0 := S) (v := .lst ((ownS tvs z).map .str)) (S' := S.set k (.dcl tvs)) (by simp [fld_ok h.ins]) h.tab (by
    have di := dictO_t hk
    have fo := fld_ok (c := 100) (i := 0) hr rfl
    have body := lcR_map (t := false) (lg := gNm 2) (ft := t_Sums_currencies_T_1) (fe := e_Sums_currencies_T_1) (ds := [some (.ref r), some (.str z), none]) (S := S.set k (.dcl tvs)) (ws := tvs) (g := fun kv => keyT kv.1) (fun kv => decide ((pairS kv.1).1 = z)) (fun kv => .str (pairS kv.1).2) .of (by have := h.len; omega) (fun kv hkv acc => by
      obtain ⟨a, b, n, rfl, _⟩ := h.key kv hkv
      refine ⟨[some (.ref r), some (.str z), some (.tup [.str a, .str b])], rfl, ?_, fun _ => ?_⟩
      · have q : (tl a == tl z) = decide (a = z) := by
          by_cases w : a = z
          · rw [w, decide_eq_true rfl]; exact beq_self_eq_true _
          · rw [decide_eq_false w, beq_eq_false_iff_ne]
            exact fun k => w (PySem.W.str_of_cps k)
        have i0 : ∀ S, ixL (.tup [.str a, .str b]) (.int 0) S = .ok (.str a) S := fun S => (rfl)
        simp [t_Sums_currencies_T_1, i0, q, pairS] <;> rfl
      · have i1 : ∀ S, ixL (.tup [.str a, .str b]) (.int 1) S = .ok (.str b) S := fun S => (rfl)
        simp [e_Sums_currencies_T_1, i1, pairS]) (fun _ _ _ => rfl)
    have mm : (ownS tvs z).map LV.str = (tvs.filter fun kv => decide ((pairS kv.1).1 = z)).map fun kv => LV.str (pairS kv.1).2 := by unfold ownS; rw [List.map_map]; rfl
    rw [mm]
    generalize ((tvs.filter fun kv => decide ((pairS kv.1).1 = z)).map fun kv => LV.str (pairS kv.1).2) = V at *
    generalize (tvs.map fun kv => keyT kv.1) = W at *
    simp [c_Sums_currencies_T_1, wipeL, fo, di, body, newL]) hk
  rw [e, List.set_set, set_same h.tab]
theorem cursT_e {S : Sto} {r k : Nat} {tvs : List (List Key × LV)} {M : List R4} (h : Sm S r k tvs M) (hl : M.length ≤ 100000) (z : Str) :
    f_Sums_currencies_T [.ref r, .str z] S = .ok (.ref S.length) (S ++ [.lst ((sortS (ownS tvs z)).map .str)]) := by
  have ci := curs_in h hl z none
  have so := sorted_strs (t := true) (S := S) (v := .lst ((ownS tvs z).map .str)) (zs := ownS tvs z) ls_l (by have := h.len; have := ownS_len tvs z; omega)
  have lw : lowVs S.length ((sortS (ownS tvs z)).map .str) = true := lows_all.mpr fun v hv => by
    obtain ⟨y, _, rfl⟩ := List.mem_map.mp hv
    rfl
  have gt : gcT S (.ok (.ref S.length) (S ++ [.lst ((sortS (ownS tvs z)).map .str)])) = _ := gcT_new0 (U := [.lst ((sortS (ownS tvs z)).map .str)]) rfl lw
  generalize (sortS (ownS tvs z)).map LV.str = V at *
  generalize (ownS tvs z).map LV.str = W at *
  simp [f_Sums_currencies_T, e_fnT, g_Sums_currencies_T, ci, so, newL, gcG_t, gt]
theorem curs_in0 {S : Sto} {r k : Nat} {tvs : List (List Key × LV)} {M : List R4} (h : Sm S r k tvs M) (hl : M.length ≤ 100000) (z : Str) (x2 : Option LV) :
    lLock (lUn (fldL 100 0) (lVar 0)) c_Sums_currencies_1 [some (.ref r), some (.str z), x2] S = .ok (.lst ((ownS tvs z).map .str)) S := by
  have kS : k < S.length := (List.getElem?_eq_some_iff.mp h.tab).1
  have rk : k ≠ r := fun e => by have := h.ins; rw [← e, h.tab] at this; cases this
  have hk : (S.set k (.dcl tvs))[k]? = some (.dcl tvs) := List.getElem?_set_self kS
  have hr : (S.set k (.dcl tvs))[r]? = some (.ins 100 [.ref k]) := by rw [List.getElem?_set_ne rk]; exact h.ins
  have e := lockE_t (fd := lUn (fldL 100 0) (lVar 0)) (fe := c_Sums_currencies_1) (ds := [some (.ref r), some (.str z), x2]) (S := S) (S0 := S) (v := .lst ((ownS tvs z).map .str)) (S' := S.set k (.dcl tvs)) (by simp [fld_ok h.ins]) h.tab (by
    have di := dictO_t hk
    have fo := fld_ok (c := 100) (i := 0) hr rfl
    have body := lcR_map (t := false) (lg := gNm 2) (ft := t_Sums_currencies_1) (fe := e_Sums_currencies_1) (ds := [some (.ref r), some (.str z), none]) (S := S.set k (.dcl tvs)) (ws := tvs) (g := fun kv => keyT kv.1) (fun kv => decide ((pairS kv.1).1 = z)) (fun kv => .str (pairS kv.1).2) .of (by have := h.len; omega) (fun kv hkv acc => by
      obtain ⟨a, b, n, rfl, _⟩ := h.key kv hkv
      refine ⟨[some (.ref r), some (.str z), some (.tup [.str a, .str b])], rfl, ?_, fun _ => ?_⟩
      · have q : (tl a == tl z) = decide (a = z) := by
          by_cases w : a = z
          · rw [w, decide_eq_true rfl]; exact beq_self_eq_true _
          · rw [decide_eq_false w, beq_eq_false_iff_ne]
            exact fun k => w (PySem.W.str_of_cps k)
        have i0 : ∀ S, ixL (.tup [.str a, .str b]) (.int 0) S = .ok (.str a) S := fun S => (rfl)
        simp [t_Sums_currencies_1, i0, q, pairS] <;> rfl
      · have i1 : ∀ S, ixL (.tup [.str a, .str b]) (.int 1) S = .ok (.str b) S := fun S => (rfl)
        simp [e_Sums_currencies_1, i1, pairS]) (fun _ _ _ => rfl)
    have mm : (ownS tvs z).map LV.str = (tvs.filter fun kv => decide ((pairS kv.1).1 = z)).map fun kv => LV.str (pairS kv.1).2 := by unfold ownS; rw [List.map_map]; rfl
    rw [mm]
    generalize ((tvs.filter fun kv => decide ((pairS kv.1).1 = z)).map fun kv => LV.str (pairS kv.1).2) = V at *
    generalize (tvs.map fun kv => keyT kv.1) = W at *
    simp [c_Sums_currencies_1, wipeL, fo, di, body, newL]) hk
  rw [e, List.set_set, set_same h.tab]
theorem curs0_e {S : Sto} {r k : Nat} {tvs : List (List Key × LV)} {M : List R4} (h : Sm S r k tvs M) (hl : M.length ≤ 100000) (z : Str) :
    f_Sums_currencies [.ref r, .str z] S = .ok (.lst ((sortS (ownS tvs z)).map .str)) S := by
  have ci := curs_in0 h hl z none
  have so := sorted_strs (t := false) (S := S) (v := .lst ((ownS tvs z).map .str)) (zs := ownS tvs z) ls_l (by have := h.len; have := ownS_len tvs z; omega)
  have lw : lowVs S.length ((sortS (ownS tvs z)).map .str) = true := lows_all.mpr fun v hv => by
    obtain ⟨y, _, rfl⟩ := List.mem_map.mp hv
    rfl
  have gt : gcF S (.ok (.lst ((sortS (ownS tvs z)).map .str)) S) = _ := gc_low0 lw
  generalize (sortS (ownS tvs z)).map LV.str = V at *
  generalize (ownS tvs z).map LV.str = W at *
  simp [f_Sums_currencies, e_fn, g_Sums_currencies, ci, so, newL, gt]
theorem sums_init (S : Sto) : f_Sums___init__ [.ref S.length] (S ++ [.ins 100 []]) = .ok .non (S ++ [.ins 100 [.ref (S.length + 1)], .dcT []]) := by
  have h1 : ∀ U : Sto, ∀ o : LO, (S ++ o :: U)[S.length]? = some o := fun U o => by rw [get_app0]; rfl
  simp [f_Sums___init__, e_fn, g_Sums___init__]
  rw [sfl2_ok (h1 _ _) (by simp) (by simp)]
  simp [setAt, set_app0]
  refine gc_keep (i := S.length) (o := .ins 100 [.ref (S.length + 1)]) (by simp) (h1 _ _) (by simp) ?_
  simp [frzO, lowO, valsO, frzV, seqO]
theorem sums_make (S : Sto) : mkO 100 f_Sums___init__ [] S = .ok (.ref S.length) (S ++ [.ins 100 [.ref (S.length + 1)], .dcT []]) := mkO_ok (sums_init S)
theorem sums_new (S : Sto) : Sm (S ++ [.ins 100 [.ref (S.length + 1)], .dcT []]) S.length (S.length + 1) [] [] where
  ins := by rw [get_app0]; rfl
  tab := by rw [get_app]; rfl
  len := Nat.le_refl _
  nd := List.nodup_nil
  key := fun kv h => by cases h
  non := fun a b h x hx => by cases hx
  mon := fun a b n h => by cases h
  inj := fun a b c d n h => by cases h

end K16


set_option Elab.async false
set_option linter.all false
set_option maxRecDepth 100000
set_option maxHeartbeats 4000000
namespace K16
open PySem PySem.Spec PyProof.Rows L2 LL
abbrev Row := Str × Str × Int
def rowV (r : Row) : LV := .tup [.str r.1, .str r.2.1, .int r.2.2]
theorem ls_len0 {S : Sto} {vs : List LV} : lenL [.lst vs] S = .ok (.int vs.length) S := rfl
theorem rows_e {ps cs : List Str} (hp : 1 ≤ ps.length) (hpl : ps.length ≤ 1000) (C : Cur cs) (c : Int) (c0 : 0 ≤ c) (c1 : c < 2147483647) (S : Sto) :
    ∃ rs : List Row, 2 ≤ rs.length ∧ rs.length ≤ 6 ∧ (∀ r ∈ rs, r.2.1 ∈ cs) ∧ f__law_rows [.int c, .lst (ps.map .str), .lst (cs.map .str)] S = .ok (.tup (rs.map rowV)) S := by
  obtain ⟨k, hk⟩ : ∃ k : Nat, 2 + c % 5 = (k : Int) := ⟨(2 + c % 5).toNat, by omega⟩
  have rg : ∀ S, rng1O [.int (k : Int)] S = .ok (itOf (rng 0 k)) S := fun S => by rw [rng1_e (by omega) (by omega), Int.toNat_natCast]
  obtain ⟨rs, ⟨r1, r2⟩, j', lp⟩ := for_rel (lg := gNm 4) (fb := b__law_rows_1) (l := itOf (rng 0 k)) (ws := List.range k) (g := fun j : Nat => .int (0 + (j : Int))) (fun (_ : List Row) (j : Option LV × Option LV × Option LV) => [some (.int c), some (.lst (ps.map .str)), some (.lst (cs.map .str)), some (.ref S.length), j.1, j.2.1, j.2.2]) (fun rs => S ++ [.lst (rs.map rowV)])
    (fun i rs => rs.length = i ∧ ∀ r ∈ rs, r.2.1 ∈ cs) (fun _ _ _ => .of) (fun i b hb rs j ⟨h1, h2⟩ => by
      have hi : i < (List.range k).length := (List.getElem?_eq_some_iff.mp hb).1
      rw [List.length_range] at hi
      have bi : b = i := by
        have := hb
        rw [List.getElem?_range (by omega)] at this
        exact (Option.some.inj this).symm
      subst bi
      have e0 : (0 : Int) + (b : Int) = (b : Int) := by omega
      have ml : ∀ S, mulL (.int 3) (.int (b : Int)) S = .ok (.int (3 * (b : Int))) S := fun S => mul_l (by decide) (by decide)
      have x1 := mixed_e c (3 * (b : Int) + 1) (by omega) (by omega)
      have x2 := mixed_e c (3 * (b : Int) + 2) (by omega) (by omega)
      have x3 := mixed_e c (3 * (b : Int) + 3) (by omega) (by omega)
      have n1 := mixv_nn c (3 * (b : Int) + 1)
      have n2 := mixv_nn c (3 * (b : Int) + 2)
      obtain ⟨am, ham⟩ := amount_e (mixv c (3 * (b : Int) + 3)) (mixv_nn _ _) (mixv_lt _ _)
      generalize mixv c (3 * (b : Int) + 1) = y1 at *
      generalize mixv c (3 * (b : Int) + 2) = y2 at *
      generalize mixv c (3 * (b : Int) + 3) = y3 at *
      have md : ∀ S, modL (.int y1) (.int (ps.length : Int)) S = .ok (.int (y1 % (ps.length : Int))) S := fun S => mod_ii (by omega)
      have q0 := Int.emod_nonneg y1 (show (ps.length : Int) ≠ 0 by omega)
      have q1 := Int.emod_lt_of_pos y1 (show 0 < (ps.length : Int) by omega)
      generalize y1 % (ps.length : Int) = q at *
      obtain ⟨z, hz⟩ : ∃ z, ps[q.toNat]? = some z := ⟨_, List.getElem?_eq_getElem (by omega)⟩
      have iz : ∀ S, ixL (.lst (ps.map .str)) (.int q) S = .ok (.str z) S := fun S => ix_v (xs := ps.map LV.str) rfl q0 (by rw [List.getElem?_map, hz]; rfl)
      have cl := C.len
      obtain ⟨w, hw⟩ : ∃ w, cs[(y2 / 7 % 3).toNat]? = some w := ⟨_, List.getElem?_eq_getElem (by omega)⟩
      have iw : ∀ S, ixL (.lst (cs.map .str)) (.int (y2 / 7 % 3)) S = .ok (.str w) S := fun S => ix_v (xs := cs.map LV.str) rfl (by omega) (by rw [List.getElem?_map, hw]; rfl)
      have ln : ∀ S, lenL [.lst (ps.map .str)] S = .ok (.int (ps.length : Int)) S := fun S => by
        have := ls_len0 (S := S) (vs := ps.map LV.str)
        rwa [List.length_map] at this
      have ap : appendL (.ref S.length) [rowV (z, w, am)] (S ++ [.lst (rs.map rowV)]) = .ok .non (S ++ [.lst ((rs ++ [(z, w, am)]).map rowV)]) := by
        rw [append_ok (xs := rs.map rowV) (by rw [get_app0]; rfl) (by rw [List.length_map]; omega), set_app0, List.map_append]
        rfl
      have bm : ∀ fa ds, bm1 "list" appendL fa ds (.ok (.ref S.length) (S ++ [.lst (rs.map rowV)])) = bm2 appendL (.ref S.length) (fa ds (S ++ [.lst (rs.map rowV)])) := fun fa ds => bm1_r (xs := rs.map rowV) (by rw [get_app0]; rfl)
      refine ⟨rs ++ [(z, w, am)], ⟨by simp [h1], fun x hx => ?_⟩, (some (.int (b : Int)), some (.str z), some (.str w)), ?_⟩
      · rcases List.mem_append.mp hx with hx | hx
        · exact h2 x hx
        · rw [List.mem_singleton.mp hx]; exact List.mem_of_getElem? hw
      · rw [turn_nm, e0]
        have rv : (LV.tup [.str z, .str w, .int am]) = rowV (z, w, am) := rfl
        generalize (rs ++ [(z, w, am)]).map rowV = R2 at *
        generalize rs.map rowV = R1 at *
        generalize ps.map LV.str = P1 at *
        generalize cs.map LV.str = C1 at *
        simp [b__law_rows_1, ml, x1, x2, x3, ln, md, iz, div_ii, mod_ii, iw, ham, rv, bm, ap]) [] (none, none, none) ⟨rfl, fun r hr => (by cases hr)⟩
  rw [List.length_range] at r1
  refine ⟨rs, by omega, by omega, r2, ?_⟩
  have tu : tupleL [.ref S.length] (S ++ [.lst (rs.map rowV)]) = .ok (.tup (rs.map rowV)) (S ++ [.lst (rs.map rowV)]) := tuple_ls (ls_r (by rw [get_app0]; rfl))
  have gc : gcF S (.ok (.tup (rs.map rowV)) (S ++ [.lst (rs.map rowV)])) = .ok (.tup (rs.map rowV)) S := gc_low (by
    show lowVs _ _ = true
    exact lows_all.mpr fun v hv => by
      obtain ⟨r, _, rfl⟩ := List.mem_map.mp hv
      rfl)
  simp only [List.map_nil] at lp
  generalize rs.map rowV = R1 at *
  generalize ps.map LV.str = P1 at *
  generalize cs.map LV.str = C1 at *
  simp [f__law_rows, e_fn, g__law_rows, mod_ii, hk, rg, lp, tu, gc]
theorem stretch_e (c base : Int) (S : Sto) : ∃ f l : Int, f__law_stretch [.int c, .int base] S = .ok (.tup [.int f, .int l]) S := by
  have p20 : ∀ S, powL (.int 10) (.int 20) S = .ok (.int 100000000000000000000) S := fun S => pow_ii (by decide) (by decide) (by decide)
  by_cases c1 : c / 36 % 6 = 1
  · exact ⟨_, _, by simp [f__law_stretch, e_fn, g__law_stretch, mod_ii, div_ii, c1, p20]; exact gc_low0 rfl⟩
  · by_cases c2 : c / 36 % 6 = 2
    · exact ⟨_, _, by simp [f__law_stretch, e_fn, g__law_stretch, mod_ii, div_ii, c1, c2, p20]; exact gc_low0 rfl⟩
    · exact ⟨_, _, by simp [f__law_stretch, e_fn, g__law_stretch, mod_ii, div_ii, c1, c2, p20]; exact gc_low0 rfl⟩
/-- the rows of a booking, with its month -/
def withM (m : Int) (rs : List Row) : List R4 := rs.map fun r => (m, r.1, r.2.1, r.2.2)
theorem put_e {S : Sto} {r k : Nat} {tvs : List (List Key × LV)} {M : List R4} (h : Sm S r k tvs M) {rs : List Row} (hl : M.length + rs.length ≤ 100000) {m d : Int} (hm : ∀ S, f_month_of [.int d] S = .ok (.int m) S) (u v w : LV) :
    ∃ S' tvs', f_Sums_put [.ref r, .tup [u, .int d, v, .tup (rs.map rowV), w]] S = .ok .non S' ∧ Sm S' r k tvs' (M ++ withM m rs) ∧ LvS S S' k tvs tvs' := by
  obtain ⟨B, hB⟩ : ∃ B, B = LV.tup [u, .int d, v, .tup (rs.map rowV), w] := ⟨_, rfl⟩
  obtain ⟨a, ⟨p1, p2⟩, j', lp⟩ := for_rel (lg := gTp (gsCons (gNm 3) (gsCons (gNm 4) (gsCons (gNm 5) gsNil)))) (fb := b_Sums_put_1) (l := itOf (rs.map rowV)) (ws := rs) (g := rowV) (fun (_ : Sto × List (List Key × LV)) (j : Option LV × Option LV × Option LV × Option LV) => [some (.ref r), some B, some (.int m), j.1, j.2.1, j.2.2.1, j.2.2.2]) (fun a => a.1)
    (fun i a => Sm a.1 r k a.2 (M ++ withM m (rs.take i)) ∧ LvS S a.1 k tvs a.2) (fun _ _ _ => .of) (fun i x hx a j ⟨q1, q2⟩ => by
      have ll : (M ++ withM m (rs.take i)).length ≤ 100000 := by
        unfold withM
        rw [List.length_append, List.length_map, List.length_take]
        omega
      obtain ⟨n, S', t', e, s1, s2⟩ := sum_row q1 ll (some B) j.2.2.2 m x.2.2 x.1 x.2.1
      refine ⟨(S', t'), ⟨?_, q2.trans s2⟩, (some (.str x.1), some (.str x.2.1), some (.int x.2.2), some n), ?_⟩
      · have : withM m (rs.take (i + 1)) = withM m (rs.take i) ++ [(m, x.1, x.2.1, x.2.2)] := by
          unfold withM
          rw [List.take_add_one, hx, List.map_append]
          rfl
        rw [this, ← List.append_assoc]
        exact s1
      · show turn _ _ (.tup [.str x.1, .str x.2.1, .int x.2.2]) _ _ = _
        simp [turn, gTp, gsCons, gNm, gsNil]
        rw [e]) (S, tvs) (none, none, none, none) ⟨by
          rw [List.take_zero]
          show Sm S r k tvs (M ++ [])
          rw [List.append_nil]
          exact h, LvS.id⟩
  rw [List.take_length] at p1
  refine ⟨a.1, a.2, ?_, p1, p2⟩
  have nB : isX B = false := by rw [hB]; rfl
  have i1 : ∀ S, ixL B (.int 1) S = .ok (.int d) S := fun S => by rw [hB]; rfl
  have i3 : ∀ S, ixL B (.int 3) S = .ok (.tup (rs.map rowV)) S := fun S => by rw [hB]; rfl
  rw [← hB]
  generalize rs.map rowV = R1 at *
  simp [f_Sums_put, e_fnN, g_Sums_put, nB, i1, i3, hm, lp]
end K16


set_option Elab.async false
set_option linter.all false
set_option maxRecDepth 100000
set_option maxHeartbeats 4000000
namespace K16
open PySem PySem.Spec PyProof.Rows L2 LL
/-! ### dicts of records by a text -/
section
variable {α : Type}
def recD (k : α → Str) (f : α → LV) (B : List α) : List (Key × LV) := B.map fun b => (.inr (k b), f b)
def lookR (k : α → Str) (B : List α) (z : Str) : Option α := B.find? fun b => decide (k b = z)
theorem recD_get (k : α → Str) (f : α → LV) (B : List α) (z : Str) : getK (recD k f B) (.inr z) = (lookR k B z).map f := by
  unfold getK recD lookR
  induction B with
  | nil => rfl
  | cons a B ih =>
    rw [List.map_cons, List.find?_cons, List.find?_cons]
    by_cases h : k a = z
    · simp [h]
    · have : ¬ (Sum.inr (k a) : Key) = Sum.inr z := fun e => h (by injection e)
      simp only [decide_eq_false h, decide_eq_false this]
      exact ih
theorem recD_any (k : α → Str) (f : α → LV) (B : List α) (z : Str) : ((recD k f B).any fun kv => decide (kv.1 = (.inr z : Key))) = (lookR k B z).isSome := by
  unfold recD lookR
  rw [List.any_map, List.isSome_find?]
  congr 1
  funext a
  by_cases h : k a = z
  · simp [h]
  · have : ¬ (Sum.inr (k a) : Key) = Sum.inr z := fun e => h (by injection e)
    simp [h, this]
theorem recD_new (k : α → Str) (f : α → LV) {B : List α} {a : α} (h : lookR k B (k a) = none) : putL (recD k f B) (.inr (k a)) (f a) = recD k f (B ++ [a]) := by
  unfold putL
  rw [recD_any, h]
  simp [recD]
theorem recD_len (k : α → Str) (f : α → LV) (B : List α) : (recD k f B).length = B.length := by unfold recD; rw [List.length_map]
theorem strK_recD (k : α → Str) (f : α → LV) : ∀ B : List α, strK (recD k f B) = some (B.map k)
  | [] => rfl
  | a :: B => by
    have := strK_recD k f B
    unfold recD at this ⊢
    rw [List.map_cons]
    unfold strK
    rw [this]
    rfl
theorem low_recD {n : Nat} (k : α → Str) (f : α → LV) {B : List α} (h : ∀ a ∈ B, lowV n (f a) = true) : lowO n (.dct (recD k f B)) = true := lows_all.mpr fun v hv => by
  obtain ⟨p, hp, rfl⟩ := List.mem_map.mp hv
  obtain ⟨a, ha, rfl⟩ := List.mem_map.mp hp
  exact h a ha
theorem lookR_mem {k : α → Str} {B : List α} {z : Str} {a : α} (h : lookR k B z = some a) : a ∈ B ∧ k a = z := ⟨List.mem_of_find?_eq_some h, of_decide_eq_true (List.find?_some (p := fun a : α => decide (k a = z)) h)⟩
theorem lookR_none {k : α → Str} {B : List α} {z : Str} : lookR k B z = none ↔ z ∉ B.map k := by
  unfold lookR
  rw [List.find?_eq_none]
  constructor
  · intro h m
    obtain ⟨a, ha, e⟩ := List.mem_map.mp m
    exact h a ha (decide_eq_true e)
  · intro h a ha e
    exact h (List.mem_map.mpr ⟨a, ha, of_decide_eq_true e⟩)
theorem lookR_some {k : α → Str} {B : List α} {z : Str} (h : z ∈ B.map k) : ∃ a, lookR k B z = some a := by
  cases q : lookR k B z with
  | some b => exact ⟨b, rfl⟩
  | none => exact absurd h (lookR_none.mp q)
theorem lookR_self {k : α → Str} {B : List α} (nd : (B.map k).Nodup) {b : α} (h : b ∈ B) : lookR k B (k b) = some b := by
  induction B with
  | nil => cases h
  | cons a B ih =>
    unfold lookR
    rw [List.find?_cons]
    rw [List.map_cons, List.nodup_cons] at nd
    rcases List.mem_cons.mp h with rfl | h
    · simp
    · have : ¬ k a = k b := fun e => nd.1 (by rw [e]; exact List.mem_map.mpr ⟨b, h, rfl⟩)
      rw [decide_eq_false this]
      exact ih nd.2 h
theorem ix_rec {S : Sto} {n : Nat} {k : α → Str} {f : α → LV} {B : List α} {z : Str} {a : α} (h : S[n]? = some (.dct (recD k f B))) (ha : lookR k B z = some a) : ixL (.ref n) (.str z) S = .ok (f a) S := by
  have hg : getK (recD k f B) (.inr z) = some (f a) := by rw [recD_get, ha]; rfl
  simp [ixL, ixO, h, getOv, dKs, show keyL (.str z) = some (.inr z) from rfl, hg]
theorem in_rec {S : Sto} {n : Nat} {k : α → Str} {f : α → LV} {B : List α} {z : Str} (h : S[n]? = some (.dct (recD k f B))) : inL (.str z) (.ref n) S = .ok (.bl (lookR k B z).isSome) S := by
  rw [in_d h (k := .inr z) rfl, recD_get, Option.isSome_map]
theorem nin_rec {S : Sto} {n : Nat} {k : α → Str} {f : α → LV} {B : List α} {z : Str} (h : S[n]? = some (.dct (recD k f B))) : notinL (.str z) (.ref n) S = .ok (.bl !(lookR k B z).isSome) S := by
  rw [nin_d h (k := .inr z) rfl, recD_get, Option.isSome_map]
theorem put_rec {S : Sto} {n : Nat} {k : α → Str} {f : α → LV} {B : List α} {a : α} (h : S[n]? = some (.dct (recD k f B))) (ha : lookR k B (k a) = none) (hl : B.length < 16777216) : putO (.ref n) (.str (k a)) (f a) S = some (S.set n (.dct (recD k f (B ++ [a])))) := by
  rw [put_d (k := .inr (k a)) h rfl (by rw [recD_len]; exact hl), recD_new k f ha]
theorem sorted_rec {S : Sto} {n : Nat} {k : α → Str} {f : α → LV} {B : List α} (h : S[n]? = some (.dct (recD k f B))) (hl : B.length < 64) : sortedDL [.ref n] S = .ok (.lst ((sortS (B.map k)).map .str)) S := by
  show sortedDG false [.ref n] S = _
  rw [sortedD_ok h (strK_recD k f B) (by rw [List.length_map]; exact hl)]
  rfl
end
/-! ### a list of lists that are kept gets one more -/
theorem gc_app {S U : Sto} {h : Nat} {held : List LV} {x y v : LV} (hh : S[h]? = some (.lst held)) (low : lowVs S.length held = true) (hx : lowV S.length x = false) (hf : frzV (S.set h (.lst (held ++ [x])) ++ U) S.length (S.set h (.lst (held ++ [x])) ++ U).length 60 x = some y) (lv : lowV S.length v = true) :
    gcF S (.ok v (S.set h (.lst (held ++ [x])) ++ U)) = .ok v (S.set h (.lst (held ++ [y]))) := by
  refine gcF_set (get_lt hh) (.inl fun e => ?_) ?_ lv
  · rw [hh] at e
    have := congrArg (fun o : Option LO => match o with | some (.lst xs) => xs.length | _ => 0) e
    simp at this
  · have nl : lowO S.length (.lst (held ++ [x])) = false := by
      rw [Bool.eq_false_iff]
      intro z
      have := lows_all.mp z x (List.mem_append_right _ (List.mem_singleton.mpr rfl))
      rw [hx] at this
      cases this
    unfold frzO
    rw [if_neg (by rw [nl]; simp)]
    have : seqO ((valsO (.lst (held ++ [x]))).map (frzV (S.set h (.lst (held ++ [x])) ++ U) S.length (S.set h (.lst (held ++ [x])) ++ U).length 60)) = some (held ++ [y]) := by
      show seqO (List.map _ (held ++ [x])) = _
      rw [List.map_append]
      refine seqO_app (frzs_low low) ?_
      rw [List.map_cons, List.map_nil, hf]
      rfl
    rw [this]
    rfl
/-- .. a pair of a young list and a value -/
theorem gc_held {S U : Sto} {h k : Nat} {held L : List LV} {w v : LV} (hh : S[h]? = some (.lst held)) (low : lowVs S.length held = true) (hk : U[k]? = some (.lst L)) (lL : lowVs S.length L = true) (lw : lowV S.length w = true) (lv : lowV S.length v = true) :
    gcF S (.ok v (S.set h (.lst (held ++ [.lst [.ref (S.length + k), w]])) ++ U)) = .ok v (S.set h (.lst (held ++ [.lst [.lst L, w]]))) := by
  have kl := (List.getElem?_eq_some_iff.mp hk).1
  have hk2 : ∀ o, (S.set h o ++ U)[S.length + k]? = some (.lst L) := fun o => by
    rw [List.getElem?_append_right (by simp)]
    simpa using hk
  refine gc_app hh low ?_ ?_ lv
  · show lowVs S.length [.ref (S.length + k), w] = false
    simp
    intro q
    omega
  · generalize held ++ [LV.lst [.ref (S.length + k), w]] = H at *
    have e1 : frzV (S.set h (.lst H) ++ U) S.length (S.set h (.lst H) ++ U).length 59 (.ref (S.length + k)) = some (.lst L) := by
      unfold frzV
      rw [if_neg (by simp)]
      simp only
      rw [if_neg (by simp; omega), hk2]
      simp only
      rw [frzs_low lL]
    unfold frzV
    rw [if_neg (by simp; intro q; omega)]
    simp only [List.map_cons, List.map_nil]
    rw [e1, frz_low lw]
    rfl
/-! ### what was caught -/
theorem hitA_c {a : Nat} {b : Bool} {l : List (Nat × Bool)} {d : Nat} : hitA ((a, b) :: l) d = if a = d then some b else hitA l d := (rfl)
def isE1 (S : Sto) : Option Bool → R
  | some k => .ok (.bl k) S
  | none => .no
theorem isE_h {l : List (Nat × Bool)} {c : Nat} {fs : List LV} {ds : Sl} {S : Sto} : lIsE 0 (hitA l) (some (.exc c fs) :: ds) S = isE1 S (hitA l c) := by
  unfold isE1
  cases h : hitA l c with
  | none => simp [lIsE, h]
  | some k => exact isE_0 h
@[simp] theorem isE1_s {S : Sto} {k : Bool} : isE1 S (some k) = .ok (.bl k) S := (rfl)
def tryK1 (i : Nat) (b : LS) (c : Nat) (ds : Sl) (S : Sto) : Option Bool → RS
  | some true => aftI i (b (ds.set i (some (.exc c []))) S)
  | some false => .ex c [] ds S
  | none => .no
theorem tryK_h {i : Nat} {l : List (Nat × Bool)} {b : LS} {c : Nat} {ds : Sl} {S : Sto} : tryK i (hitA l) b (.ex c [] ds S) = tryK1 i b c ds S (hitA l c) := by
  unfold tryK tryK1
  simp only
  all_goals (cases hitA l c <;> first | rfl | (rename_i k; cases k <;> rfl))
@[simp] theorem tryK1_t {i : Nat} {b : LS} {c : Nat} {ds : Sl} {S : Sto} : tryK1 i b c ds S (some true) = aftI i (b (ds.set i (some (.exc c []))) S) := (rfl)
@[simp] theorem tryK1_f {i : Nat} {b : LS} {c : Nat} {ds : Sl} {S : Sto} : tryK1 i b c ds S (some false) = .ex c [] ds S := (rfl)
theorem nodup_le {κ : Type} [DecidableEq κ] : ∀ (l cs : List κ), l.Nodup → (∀ x ∈ l, x ∈ cs) → l.length ≤ cs.length
  | [], _, _, _ => Nat.zero_le _
  | x :: l, cs, nd, h => by
    obtain ⟨n1, n2⟩ := List.nodup_cons.mp nd
    have xm := h x List.mem_cons_self
    have := nodup_le l (cs.erase x) n2 fun y hy => (List.mem_erase_of_ne (fun e : y = x => n1 (by rw [← e]; exact hy))).mpr (h y (List.mem_cons_of_mem _ hy))
    have hl := List.length_erase_of_mem xm
    have := List.length_pos_of_mem xm
    rw [List.length_cons]
    omega

end K16


set_option Elab.async false
set_option linter.all false
set_option maxRecDepth 100000
set_option maxHeartbeats 4000000
namespace K16
open PySem PySem.Spec PyProof.Rows L2 LL
def r4V (x : R4) : LV := .tup [.int x.1, .str x.2.1, .str x.2.2.1, .int x.2.2.2]
noncomputable def curL (tvs : List (List Key × LV)) (z : Str) : List LV := (sortS (ownS tvs z)).map .str
section
variable {S : Sto} {r k : Nat} {tvs : List (List Key × LV)} {M : List R4}
/-- the three answers, in whatever order -/
theorem answers_e (h : Sm S r k tvs M) (hl : M.length ≤ 100000) (z c : Str) (f l t : Int) :
    f__law_answers_T [.ref r, .str z, .str c, .tup [.int f, .int l], .int t] S = .ok (.ref S.length) (S ++ [.lst [.int (totR M z c fun m => decide (f ≤ m) && decide (m ≤ l)), .int (totR M z c fun m => decide (m ≤ l)), .ref (S.length + 1)], .lst (curL tvs z)]) := by
  have i0 : ∀ S, ixL (.tup [.int f, .int l]) (.int 0) S = .ok (.int f) S := fun S => (rfl)
  have i1 : ∀ S, ixL (.tup [.int f, .int l]) (.int 1) S = .ok (.int l) S := fun S => (rfl)
  have nx : isX (LV.tup [.int f, .int l]) = false := rfl
  have ow : ∀ U, f_Sums_own_T [.ref r, .str z, .str c, .int f, .int l] (S ++ U) = _ := fun U => own_e (h.app (U := U)) hl z c f l
  have st : ∀ U, f_Sums_standing_T [.ref r, .str z, .str c, .int l] (S ++ U) = _ := fun U => standing_e (h.app (U := U)) hl z c l
  have cu : ∀ U, f_Sums_currencies_T [.ref r, .str z] (S ++ U) = .ok (.ref (S ++ U).length) (S ++ U ++ [.lst (curL tvs z)]) := fun U => cursT_e (h.app (U := U)) hl z
  obtain ⟨W, hW⟩ : ∃ W, W = LV.tup [.int f, .int l] := ⟨_, rfl⟩
  rw [← hW] at i0 i1 nx ⊢
  generalize totR M z c (fun m => decide (f ≤ m) && decide (m ≤ l)) = o at *
  generalize totR M z c (fun m => decide (m ≤ l)) = q at *
  generalize curL tvs z = D at *
  have gi : ∀ U : Sto, (S ++ U)[r]? = some (.ins 100 [.ref k]) := fun U => get_moreS h.ins
  have t0 : ∀ (v : Option LV) (a b e : LV) (U : Sto), turn (gNm 6) b__law_answers_T_1 (.int 0) [some (.ref r), some (.str z), some (.str c), some W, some (.int t), some (.ref S.length), v] (S ++ LO.lst [a, b, e] :: U) = .nx [some (.ref r), some (.str z), some (.str c), some W, some (.int t), some (.ref S.length), some (.int 0)] (S ++ LO.lst [.int o, b, e] :: U) := fun v a b e U => by
    have pu : putO (.ref S.length) (.int 0) (.int o) (S ++ LO.lst [a, b, e] :: U) = some (S ++ LO.lst [.int o, b, e] :: U) := by
      rw [put_l (xs := [a, b, e]) (by rw [get_app0]; rfl) (by decide) (by simp), set_app0]
      rfl
    rw [turn_nm]
    simp [b__law_answers_T_1, meth_t0 (gi _), nx, i0, i1, ow, e_sub, sub3_ok pu]
  have t1 : ∀ (v : Option LV) (a b e : LV) (U : Sto), turn (gNm 6) b__law_answers_T_1 (.int 1) [some (.ref r), some (.str z), some (.str c), some W, some (.int t), some (.ref S.length), v] (S ++ LO.lst [a, b, e] :: U) = .nx [some (.ref r), some (.str z), some (.str c), some W, some (.int t), some (.ref S.length), some (.int 1)] (S ++ LO.lst [a, .int q, e] :: U) := fun v a b e U => by
    have pu : putO (.ref S.length) (.int 1) (.int q) (S ++ LO.lst [a, b, e] :: U) = some (S ++ LO.lst [a, .int q, e] :: U) := by
      rw [put_l (xs := [a, b, e]) (by rw [get_app0]; rfl) (by decide) (by simp), set_app0]
      rfl
    rw [turn_nm]
    simp [b__law_answers_T_1, meth_t0 (gi _), nx, i1, st, e_sub, sub3_ok pu]
  have t2 : ∀ (v : Option LV) (a b e : LV), turn (gNm 6) b__law_answers_T_1 (.int 2) [some (.ref r), some (.str z), some (.str c), some W, some (.int t), some (.ref S.length), v] (S ++ [LO.lst [a, b, e]]) = .nx [some (.ref r), some (.str z), some (.str c), some W, some (.int t), some (.ref S.length), some (.int 2)] (S ++ [LO.lst [a, b, .ref (S.length + 1)], .lst D]) := fun v a b e => by
    have pu : putO (.ref S.length) (.int 2) (.ref (S.length + 1)) (S ++ [LO.lst [a, b, e], .lst D]) = some (S ++ [LO.lst [a, b, .ref (S.length + 1)], .lst D]) := by
      rw [put_l (xs := [a, b, e]) (by rw [get_app0]; rfl) (by decide) (by simp), set_app0]
      rfl
    have cu' : f_Sums_currencies_T [.ref r, .str z] (S ++ [LO.lst [a, b, e]]) = .ok (.ref (S.length + 1)) (S ++ [LO.lst [a, b, e], .lst D]) := by
      rw [cu, List.append_assoc, List.length_append]
      rfl
    rw [turn_nm]
    simp [b__law_answers_T_1, meth_t0 (gi _), nx, cu', e_sub, sub3_ok pu]
  have m6 : t % 6 = 0 ∨ t % 6 = 1 ∨ t % 6 = 2 ∨ t % 6 = 3 ∨ t % 6 = 4 ∨ t % 6 = 5 := by omega
  obtain ⟨j, lp⟩ : ∃ j, r__law_answers_T_1 [some (.ref r), some (.str z), some (.str c), some W, some (.int t), some (.ref S.length), none] (S ++ [LO.lst [.non, .non, .non]]) = r__law_answers_T_2 [some (.ref r), some (.str z), some (.str c), some W, some (.int t), some (.ref S.length), j] (S ++ [LO.lst [.int o, .int q, .ref (S.length + 1)], .lst D]) := by
    have fin : ∀ (xs : List Int) (j : Option LV), ixL (.lst [.lst [.int 0, .int 1, .int 2], .lst [.int 1, .int 0, .int 2], .lst [.int 2, .int 1, .int 0], .lst [.int 1, .int 2, .int 0], .lst [.int 0, .int 2, .int 1], .lst [.int 2, .int 0, .int 1]]) (.int (t % 6)) (S ++ [LO.lst [.non, .non, .non]]) = .ok (.lst (xs.map .int)) (S ++ [LO.lst [.non, .non, .non]]) →
        forL (gNm 6) b__law_answers_T_1 (xs.map .int) [some (.ref r), some (.str z), some (.str c), some W, some (.int t), some (.ref S.length), none] (S ++ [LO.lst [.non, .non, .non]]) = .nx [some (.ref r), some (.str z), some (.str c), some W, some (.int t), some (.ref S.length), j] (S ++ [LO.lst [.int o, .int q, .ref (S.length + 1)], .lst D]) →
        ∃ j, r__law_answers_T_1 [some (.ref r), some (.str z), some (.str c), some W, some (.int t), some (.ref S.length), none] (S ++ [LO.lst [.non, .non, .non]]) = r__law_answers_T_2 [some (.ref r), some (.str z), some (.str c), some W, some (.int t), some (.ref S.length), j] (S ++ [LO.lst [.int o, .int q, .ref (S.length + 1)], .lst D]) := fun xs j ix lp => by
      refine ⟨j, ?_⟩
      rw [← forS_of] at lp
      generalize xs.map LV.int = X at *
      simp [-r__law_answers_T_2, mod_ii, ix, lp]
    rcases m6 with m | m | m | m | m | m <;> rw [m] at fin
    · exact fin [0, 1, 2] (some (.int 2)) rfl (by
        show forL _ _ [.int 0, .int 1, .int 2] _ _ = _
        rw [forL_cons (t0 _ _ _ _ _), forL_cons (t1 _ _ _ _ _), forL_cons (t2 _ _ _ _), forL_nil])
    · exact fin [1, 0, 2] (some (.int 2)) rfl (by
        show forL _ _ [.int 1, .int 0, .int 2] _ _ = _
        rw [forL_cons (t1 _ _ _ _ _), forL_cons (t0 _ _ _ _ _), forL_cons (t2 _ _ _ _), forL_nil])
    · exact fin [2, 1, 0] (some (.int 0)) rfl (by
        show forL _ _ [.int 2, .int 1, .int 0] _ _ = _
        rw [forL_cons (t2 _ _ _ _), forL_cons (t1 _ _ _ _ _), forL_cons (t0 _ _ _ _ _), forL_nil])
    · exact fin [1, 2, 0] (some (.int 0)) rfl (by
        show forL _ _ [.int 1, .int 2, .int 0] _ _ = _
        rw [forL_cons (t1 _ _ _ _ _), forL_cons (t2 _ _ _ _), forL_cons (t0 _ _ _ _ _), forL_nil])
    · exact fin [0, 2, 1] (some (.int 1)) rfl (by
        show forL _ _ [.int 0, .int 2, .int 1] _ _ = _
        rw [forL_cons (t0 _ _ _ _ _), forL_cons (t2 _ _ _ _), forL_cons (t1 _ _ _ _ _), forL_nil])
    · exact fin [2, 0, 1] (some (.int 1)) rfl (by
        show forL _ _ [.int 2, .int 0, .int 1] _ _ = _
        rw [forL_cons (t2 _ _ _ _), forL_cons (t0 _ _ _ _ _), forL_cons (t1 _ _ _ _ _), forL_nil])
  have head : f__law_answers_T [.ref r, .str z, .str c, W, .int t] S = fin (r__law_answers_T_1 [some (.ref r), some (.str z), some (.str c), some W, some (.int t), some (.ref S.length), none] (S ++ [LO.lst [.non, .non, .non]])) := by
    simp [-r__law_answers_T_1, f__law_answers_T, e_fnN, g__law_answers_T]
  rw [head, lp]
  simp
end
end K16


set_option Elab.async false
set_option linter.all false
set_option maxRecDepth 100000
set_option maxHeartbeats 4000000
namespace K16
open PySem PySem.Spec PyProof.Rows L2 LL
def mineR (M : List R4) (z : Str) : List R4 := M.filter fun x => decide (x.2.1 = z)
def hereR (M : List R4) (z c : Str) : List R4 := (mineR M z).filter fun x => decide (x.2.2.1 = c)
def amtR (l : List R4) (p : Int → Bool) : List Int := (l.filter fun x => p x.1).map (·.2.2.2)
theorem amt_tot (M : List R4) (z c : Str) (p : Int → Bool) : (amtR (hereR M z c) p).sum = totR M z c p := by
  unfold amtR hereR mineR totR
  rw [List.filter_filter, List.filter_filter]
  congr 2
  refine List.filter_congr fun x _ => ?_
  by_cases h1 : x.2.1 = z <;> by_cases h2 : x.2.2.1 = c <;> simp [h1, h2]
theorem tl_dec (a b : Str) : (tl a == tl b) = decide (a = b) := by
  by_cases w : a = b
  · rw [w, decide_eq_true rfl]; exact beq_self_eq_true _
  · rw [decide_eq_false w, beq_eq_false_iff_ne]
    exact fun k => w (PySem.W.str_of_cps k)
theorem r4_0 (x : R4) (S : Sto) : ixL (r4V x) (.int 0) S = .ok (.int x.1) S := rfl
theorem r4_1 (x : R4) (S : Sto) : ixL (r4V x) (.int 1) S = .ok (.str x.2.1) S := rfl
theorem r4_2 (x : R4) (S : Sto) : ixL (r4V x) (.int 2) S = .ok (.str x.2.2.1) S := rfl
theorem r4_3 (x : R4) (S : Sto) : ixL (r4V x) (.int 3) S = .ok (.int x.2.2.2) S := rfl
section
variable {S : Sto} {x0 x1 x2 x3 x4 x5 x6 x7 x8 x9 x10 x11 x12 x13 x14 x15 : Option LV}
theorem mine_e (M : List R4) (hl : M.length ≤ 100000) (z : Str) : c__law_told_1 [x0, some (.lst (M.map r4V)), some (.str z), x3, x4, x5, x6, x7, x8, x9, x10, x11, x12, x13, x14, x15] S = .ok (.lst ((mineR M z).map r4V)) S := by
  have body := lcR_map (t := false) (lg := gNm 15) (ft := t__law_told_1) (fe := e__law_told_1) (ds := [x0, some (.lst (M.map r4V)), some (.str z), x3, x4, x5, x6, x7, x8, x9, x10, x11, x12, x13, x14, none]) (S := S) (ws := M) (g := r4V) (fun x => decide (x.2.1 = z)) r4V .of (by omega) (fun x _ acc => ⟨[x0, some (.lst (M.map r4V)), some (.str z), x3, x4, x5, x6, x7, x8, x9, x10, x11, x12, x13, x14, some (r4V x)], rfl, by
      have e := r4_1 x
      have nx : isX (r4V x) = false := rfl
      have q := tl_dec x.2.1 z
      generalize r4V x = v at *
      simp [t__law_told_1, nx, e, q], fun _ => by
      have nx : isX (r4V x) = false := rfl
      generalize r4V x = v at *
      simp [e__law_told_1, nx]⟩) (fun _ _ _ => rfl)
  unfold mineR
  generalize (M.filter fun x => decide (x.2.1 = z)).map r4V = V at *
  generalize M.map r4V = W at *
  simp [c__law_told_1, wipeL, body, newL]
theorem here_e (L : List R4) (hl : L.length ≤ 100000) (c : Str) : c__law_told_2 [x0, x1, x2, some (.str c), x4, x5, x6, x7, x8, some (.lst (L.map r4V)), x10, x11, x12, x13, x14, x15] S = .ok (.lst ((L.filter fun x => decide (x.2.2.1 = c)).map r4V)) S := by
  have body := lcR_map (t := false) (lg := gNm 15) (ft := t__law_told_2) (fe := e__law_told_2) (ds := [x0, x1, x2, some (.str c), x4, x5, x6, x7, x8, some (.lst (L.map r4V)), x10, x11, x12, x13, x14, none]) (S := S) (ws := L) (g := r4V) (fun x => decide (x.2.2.1 = c)) r4V .of (by omega) (fun x _ acc => ⟨[x0, x1, x2, some (.str c), x4, x5, x6, x7, x8, some (.lst (L.map r4V)), x10, x11, x12, x13, x14, some (r4V x)], rfl, by
      have e := r4_2 x
      have nx : isX (r4V x) = false := rfl
      have q := tl_dec x.2.2.1 c
      generalize r4V x = v at *
      simp [t__law_told_2, nx, e, q], fun _ => by
      have nx : isX (r4V x) = false := rfl
      generalize r4V x = v at *
      simp [e__law_told_2, nx]⟩) (fun _ _ _ => rfl)
  generalize (L.filter fun x => decide (x.2.2.1 = c)).map r4V = V at *
  generalize L.map r4V = W at *
  simp [c__law_told_2, wipeL, body, newL]
theorem amt3_e (L : List R4) (hl : L.length ≤ 100000) (f l : Int) : c__law_told_3 [x0, x1, x2, x3, x4, x5, x6, some (.int f), some (.int l), x9, some (.lst (L.map r4V)), x11, x12, x13, x14, x15] S = .ok (.lst ((amtR L fun m => decide (f ≤ m) && decide (m ≤ l)).map .int)) S := by
  have body := lcR_map (t := false) (lg := gNm 15) (ft := t__law_told_3) (fe := e__law_told_3) (ds := [x0, x1, x2, x3, x4, x5, x6, some (.int f), some (.int l), x9, some (.lst (L.map r4V)), x11, x12, x13, x14, none]) (S := S) (ws := L) (g := r4V) (fun x => decide (f ≤ x.1) && decide (x.1 ≤ l)) (fun x => .int x.2.2.2) .of (by omega) (fun x _ acc => ⟨[x0, x1, x2, x3, x4, x5, x6, some (.int f), some (.int l), x9, some (.lst (L.map r4V)), x11, x12, x13, x14, some (r4V x)], rfl, by
      have e := r4_0 x
      have nx : isX (r4V x) = false := rfl
      generalize r4V x = v at *
      by_cases q : f ≤ x.1
      · simp [t__law_told_3, nx, e, q]
      · simp [t__law_told_3, nx, e, q], fun _ => by
      have e := r4_3 x
      have nx : isX (r4V x) = false := rfl
      generalize r4V x = v at *
      simp [e__law_told_3, nx, e]⟩) (fun _ _ _ => rfl)
  have mm : (amtR L fun m => decide (f ≤ m) && decide (m ≤ l)).map LV.int = (L.filter fun x => decide (f ≤ x.1) && decide (x.1 ≤ l)).map fun x => LV.int x.2.2.2 := by unfold amtR; rw [List.map_map]; rfl
  rw [mm]
  generalize ((L.filter fun x => decide (f ≤ x.1) && decide (x.1 ≤ l)).map fun x => LV.int x.2.2.2) = V at *
  generalize L.map r4V = W at *
  simp [c__law_told_3, wipeL, body, newL]
theorem amt4_e (L : List R4) (hl : L.length ≤ 100000) (l : Int) : c__law_told_4 [x0, x1, x2, x3, x4, x5, x6, x7, some (.int l), x9, some (.lst (L.map r4V)), x11, x12, x13, x14, x15] S = .ok (.lst ((amtR L fun m => decide (m ≤ l)).map .int)) S := by
  have body := lcR_map (t := false) (lg := gNm 15) (ft := t__law_told_4) (fe := e__law_told_4) (ds := [x0, x1, x2, x3, x4, x5, x6, x7, some (.int l), x9, some (.lst (L.map r4V)), x11, x12, x13, x14, none]) (S := S) (ws := L) (g := r4V) (fun x => decide (x.1 ≤ l)) (fun x => .int x.2.2.2) .of (by omega) (fun x _ acc => ⟨[x0, x1, x2, x3, x4, x5, x6, x7, some (.int l), x9, some (.lst (L.map r4V)), x11, x12, x13, x14, some (r4V x)], rfl, by
      have e := r4_0 x
      have nx : isX (r4V x) = false := rfl
      generalize r4V x = v at *
      simp [t__law_told_4, nx, e], fun _ => by
      have e := r4_3 x
      have nx : isX (r4V x) = false := rfl
      generalize r4V x = v at *
      simp [e__law_told_4, nx, e]⟩) (fun _ _ _ => rfl)
  have mm : (amtR L fun m => decide (m ≤ l)).map LV.int = (L.filter fun x => decide (x.1 ≤ l)).map fun x => LV.int x.2.2.2 := by unfold amtR; rw [List.map_map]; rfl
  rw [mm]
  generalize ((L.filter fun x => decide (x.1 ≤ l)).map fun x => LV.int x.2.2.2) = V at *
  generalize L.map r4V = W at *
  simp [c__law_told_4, wipeL, body, newL]
theorem curs5_e (L : List R4) (hl : L.length ≤ 100000) : c__law_told_5 [x0, x1, x2, x3, x4, x5, x6, x7, x8, some (.lst (L.map r4V)), x10, x11, x12, x13, x14, x15] S = .ok (.lst ((L.map (·.2.2.1)).map .str)) S := by
  have body := lcR_all (t := false) (lg := gNm 15) (fe := e__law_told_5) (ds := [x0, x1, x2, x3, x4, x5, x6, x7, x8, some (.lst (L.map r4V)), x10, x11, x12, x13, x14, none]) (S := S) (ws := L) (g := r4V) (fun x => .str x.2.2.1) .of (by omega) (fun x _ acc => ⟨[x0, x1, x2, x3, x4, x5, x6, x7, x8, some (.lst (L.map r4V)), x10, x11, x12, x13, x14, some (r4V x)], rfl, by
      have e := r4_2 x
      have nx : isX (r4V x) = false := rfl
      generalize r4V x = v at *
      simp [e__law_told_5, nx, e]⟩) (fun _ _ => rfl)
  have mm : (L.map (·.2.2.1)).map LV.str = L.map fun x => LV.str x.2.2.1 := by rw [List.map_map]; rfl
  rw [mm]
  generalize (L.map fun x => LV.str x.2.2.1) = V at *
  generalize L.map r4V = W at *
  simp [c__law_told_5, wipeL, body, newL]
end
def moreV : LV := .str ("more" : Str)
theorem more_fz {n : Nat} : fz (n + 1) moreV = true := by
  unfold moreV
  rw [fz_str]
  exact strOk_of (by decide)
def shownV (L : List LV) : LV := .lst [.lst L, .lst L]
theorem told_e {S : Sto} {r k h : Nat} {tvs : List (List Key × LV)} {M : List R4} {held : List LV} {cs : List Str} (w : Sm S r k tvs M) (hl : M.length ≤ 3000) (C : Cur cs) (cm : ∀ x ∈ M, x.2.2.1 ∈ cs) (hh : S[h]? = some (.lst held)) (low : lowVs S.length held = true) (hl2 : held.length < 1000) (z c : Str) (f l t : Int) :
    f__law_told [.ref r, .lst (M.map r4V), .str z, .str c, .tup [.int f, .int l], .ref h, .int t] S = .ok (.bl true) (S.set h (.lst (held ++ [shownV (curL tvs z ++ [moreV])]))) := by
  have hr : h ≠ r := fun e => by have := w.ins; rw [← e, hh] at this; cases this
  have hk : h ≠ k := fun e => by have := w.tab; rw [← e, hh] at this; cases this
  have ml : (mineR M z).length ≤ 100000 := Nat.le_trans (List.length_filter_le _ _) (by omega)
  have ll : (hereR M z c).length ≤ 100000 := Nat.le_trans (List.length_filter_le _ _) ml
  have an := answers_e w (by omega) z c f l t
  have sr : ∀ S, srtSetL [.lst (((mineR M z).map (·.2.2.1)).map .str)] S = .ok (.lst (curL tvs z)) S := fun S => by
    have few : (((mineR M z).map (·.2.2.1)).foldl addZ []).length ≤ 3 := by
      rw [← C.len]
      refine nodup_le _ _ (foldZ_nd _ _ List.nodup_nil) fun y hy => ?_
      rcases (foldZ_mem y _ _).mp hy with q | q
      · cases q
      · obtain ⟨x, hx, rfl⟩ := List.mem_map.mp q
        exact cm x (List.mem_filter.mp hx).1
    show srtSetG false _ _ = _
    rw [srtSet_ok (zs := (mineR M z).map (·.2.2.1)) ls_l (by rw [List.length_map]; exact Nat.lt_of_le_of_lt (List.length_filter_le _ _) (by omega)) (by omega)]
    unfold curL
    rw [curs_same w z]
    rfl
  have bf : (curL tvs z).all (fz 58) = true := by
    rw [List.all_eq_true]
    intro v hv
    obtain ⟨y, hy, rfl⟩ := List.mem_map.mp hv
    rw [curs_same w z] at hy
    have hy := (sortS_perm _).mem_iff.mp hy
    rcases (foldZ_mem y _ _).mp hy with q | q
    · cases q
    · obtain ⟨x, hx, rfl⟩ := List.mem_map.mp q
      rw [fz_str]
      exact (C.fine _ (cm x (List.mem_filter.mp hx).1)).ok
  have bl : (curL tvs z).length ≤ 100000 := by
    unfold curL
    rw [List.length_map, (sortS_perm _).length_eq]
    have := ownS_len tvs z
    have := w.len
    omega
  have lw0 : ∀ N, lowVs N (curL tvs z ++ [moreV]) = true := fun N => fzs_low (n := 58) (by rw [List.all_append, bf]; simp only [List.all_cons, List.all_nil, more_fz]; rfl)
  have own : (amtR (hereR M z c) fun m => decide (f ≤ m) && decide (m ≤ l)).sum = totR M z c fun m => decide (f ≤ m) && decide (m ≤ l) := amt_tot M z c _
  have sta : (amtR (hereR M z c) fun m => decide (m ≤ l)).sum = totR M z c fun m => decide (m ≤ l) := amt_tot M z c _
  obtain ⟨A, hA⟩ : ∃ A, A = [LV.int (totR M z c fun m => decide (f ≤ m) && decide (m ≤ l)), .int (totR M z c fun m => decide (m ≤ l)), .ref (S.length + 1)] := ⟨_, rfl⟩
  obtain ⟨S2, hS2⟩ : ∃ S2, S2 = S.set h (.lst (held ++ [.lst [.ref (S.length + 1), .lst (curL tvs z ++ [moreV])]])) ++ [.lst A, .lst (curL tvs z ++ [moreV])] := ⟨_, rfl⟩
  have w2 : Sm S2 r k tvs M := by
    rw [hS2]
    refine (w.mono (S' := S.set h _) (get_setn hr) (get_setn hk) fun ks n g => get_setn fun e => ?_).app
    obtain ⟨_, _, n', L, _, e2, q, _⟩ := w.ref g
    cases e2
    rw [← e, hh] at q
    cases q
  have b2 := curs0_e w2 (by omega) z
  have fin' := gc_held (U := [.lst A, .lst (curL tvs z ++ [moreV])]) (k := 1) (w := .lst (curL tvs z ++ [moreV])) (v := .bl true) hh low rfl (lw0 _) (lw0 _) rfl
  rw [← hS2] at fin'
  have cd : (sortS (ownS tvs z)).map LV.str = curL tvs z := rfl
  rw [cd] at b2
  have g0 : (S ++ [LO.lst A, .lst (curL tvs z)])[S.length]? = some (.lst A) := by rw [get_app0]; rfl
  have g1 : (S ++ [LO.lst A, .lst (curL tvs z)])[S.length + 1]? = some (.lst (curL tvs z)) := by rw [get_app]; rfl
  rw [← hA] at an
  have up := gtp_r (gs := gsCons (gNm 11) (gsCons (gNm 12) (gsCons (gNm 13) gsNil))) (ds := [some (.ref r), some (.lst (M.map r4V)), some (.str z), some (.str c), some (.tup [.int f, .int l]), some (.ref h), some (.int t), some (.int f), some (.int l), some (.lst ((mineR M z).map r4V)), some (.lst ((hereR M z c).map r4V)), none, none, none, none, none]) g0
  rw [show gsCons (gNm 11) (gsCons (gNm 12) (gsCons (gNm 13) gsNil)) A (S ++ [LO.lst A, .lst (curL tvs z)]) [some (.ref r), some (.lst (M.map r4V)), some (.str z), some (.str c), some (.tup [.int f, .int l]), some (.ref h), some (.int t), some (.int f), some (.int l), some (.lst ((mineR M z).map r4V)), some (.lst ((hereR M z c).map r4V)), none, none, none, none, none] = some [some (.ref r), some (.lst (M.map r4V)), some (.str z), some (.str c), some (.tup [.int f, .int l]), some (.ref h), some (.int t), some (.int f), some (.int l), some (.lst ((mineR M z).map r4V)), some (.lst ((hereR M z c).map r4V)), some (.int (totR M z c fun m => decide (f ≤ m) && decide (m ≤ l))), some (.int (totR M z c fun m => decide (m ≤ l))), some (.ref (S.length + 1)), none, none] from by rw [hA]; rfl] at up
  simp only at up
  have m1 := fun x9 x10 x11 x12 x13 x14 x15 => mine_e (S := S) (x0 := some (.ref r)) (x3 := some (.str c)) (x4 := some (.tup [.int f, .int l])) (x5 := some (.ref h)) (x6 := some (.int t)) (x7 := some (.int f)) (x8 := some (.int l)) (x9 := x9) (x10 := x10) (x11 := x11) (x12 := x12) (x13 := x13) (x14 := x14) (x15 := x15) M (by omega) z
  have m2 := fun x10 x11 x12 x13 x14 x15 => here_e (S := S) (x0 := some (.ref r)) (x1 := some (.lst (M.map r4V))) (x2 := some (.str z)) (x4 := some (.tup [.int f, .int l])) (x5 := some (.ref h)) (x6 := some (.int t)) (x7 := some (.int f)) (x8 := some (.int l)) (x10 := x10) (x11 := x11) (x12 := x12) (x13 := x13) (x14 := x14) (x15 := x15) (mineR M z) ml c
  have hd : (mineR M z).filter (fun x => decide (x.2.2.1 = c)) = hereR M z c := rfl
  rw [hd] at m2
  have m3 := fun S x0 x1 x2 x3 x4 x5 x6 x9 x11 x12 x13 x14 x15 => amt3_e (S := S) (x0 := x0) (x1 := x1) (x2 := x2) (x3 := x3) (x4 := x4) (x5 := x5) (x6 := x6) (x9 := x9) (x11 := x11) (x12 := x12) (x13 := x13) (x14 := x14) (x15 := x15) (hereR M z c) ll f l
  have m4 := fun S x0 x1 x2 x3 x4 x5 x6 x7 x9 x11 x12 x13 x14 x15 => amt4_e (S := S) (x0 := x0) (x1 := x1) (x2 := x2) (x3 := x3) (x4 := x4) (x5 := x5) (x6 := x6) (x7 := x7) (x9 := x9) (x11 := x11) (x12 := x12) (x13 := x13) (x14 := x14) (x15 := x15) (hereR M z c) ll l
  have m5 := fun S x0 x1 x2 x3 x4 x5 x6 x7 x8 x10 x11 x12 x13 x14 x15 => curs5_e (S := S) (x0 := x0) (x1 := x1) (x2 := x2) (x3 := x3) (x4 := x4) (x5 := x5) (x6 := x6) (x7 := x7) (x8 := x8) (x10 := x10) (x11 := x11) (x12 := x12) (x13 := x13) (x14 := x14) (x15 := x15) (mineR M z) ml
  have s3 : ∀ S, sumL [.lst ((amtR (hereR M z c) fun m => decide (f ≤ m) && decide (m ≤ l)).map .int)] S = _ := fun S => sum_l4 _
  have s4 : ∀ S, sumL [.lst ((amtR (hereR M z c) fun m => decide (m ≤ l)).map .int)] S = _ := fun S => sum_l4 _
  simp only [own] at s3
  simp only [sta] at s4
  generalize totR M z c (fun m => decide (f ≤ m) && decide (m ≤ l)) = o at *
  generalize totR M z c (fun m => decide (m ≤ l)) = q at *
  generalize (amtR (hereR M z c) fun m => decide (f ≤ m) && decide (m ≤ l)).map LV.int = V3 at *
  generalize (amtR (hereR M z c) fun m => decide (m ≤ l)).map LV.int = V4 at *
  generalize ((mineR M z).map (·.2.2.1)).map LV.str = V5 at *
  generalize (hereR M z c).map r4V = L10 at *
  generalize (mineR M z).map r4V = L9 at *
  generalize M.map r4V = L1 at *
  generalize curL tvs z = D at *
  have is : isiL [.ref (S.length + 1), .ty "list"] (S ++ [LO.lst A, .lst D]) = .ok (.bl true) (S ++ [LO.lst A, .lst D]) := by rw [isi_r g1]; rfl
  have ne : neL (.ref (S.length + 1)) (.lst D) (S ++ [LO.lst A, .lst D]) = .ok (.bl false) (S ++ [LO.lst A, .lst D]) := by rw [ne_refL g1, ne_same (by rw [fz_lst]; exact fzs_mono (by decide) bf)]
  have ap : appendL (.ref (S.length + 1)) [moreV] (S ++ [LO.lst A, .lst D]) = .ok .non (S ++ [LO.lst A, .lst (D ++ [moreV])]) := by
    rw [append_ok g1 (by omega), List.set_append_right _ _ (by omega)]
    simp
  have g2 : (S ++ [LO.lst A, .lst (D ++ [moreV])])[h]? = some (.lst held) := get_moreS hh
  have ad : addL (.lst D) (.lst [moreV]) (S ++ [LO.lst A, .lst (D ++ [moreV])]) = .ok (.lst (D ++ [moreV])) (S ++ [LO.lst A, .lst (D ++ [moreV])]) := by
    show addG false _ _ _ = _
    rw [add_ll (xs := D) (ys := [moreV]) ls_l ls_l (by simp; omega)]
    rfl
  have ap2 : appendL (.ref h) [.lst [.ref (S.length + 1), .lst (D ++ [moreV])]] (S ++ [LO.lst A, .lst (D ++ [moreV])]) = .ok .non S2 := by
    rw [append_ok g2 (by omega), set_old hh, hS2]
  have bm1' := fun fa ds => bm1_r (m := appendL) (fr := fa) (ds := ds) g1
  have bm2' := fun fa ds => bm1_r (m := appendL) (fr := fa) (ds := ds) g2
  have eq : eqL (.lst D) (.lst D) S2 = .ok (.bl true) S2 := eq_same (by rw [fz_lst]; exact fzs_mono (by decide) bf)
  have mv : (LV.str (Str.ofString "more")) = moreV := rfl
  have mt : meth1 (tabA [(100, f_Sums_currencies)]) (lCons (lVar 2) lNil) [some (.ref r), some (.lst L1), some (.str z), some (.str c), some (.tup [.int f, .int l]), some (.ref h), some (.int t), some (.int f), some (.int l), some (.lst L9), some (.lst L10), some (.int o), some (.int q), some (.ref (S.length + 1)), some (.lst D), none] (.ok (.ref r) S2) = .ok (.lst D) S2 := by
    rw [meth_t0 w2.ins]
    simp [b2]
  have k8 : r__law_told_8 [some (.ref r), some (.lst L1), some (.str z), some (.str c), some (.tup [.int f, .int l]), some (.ref h), some (.int t), some (.int f), some (.int l), some (.lst L9), some (.lst L10), some (.int o), some (.int q), some (.ref (S.length + 1)), some (.lst D), none] (S ++ [LO.lst A, .lst D]) = .rt (.bl true) S2 := by
    by_cases tt : t / 6 % 2 = 0
    · simp [mv, bm1', ap, ad, bm2', ap2, div_ii, mod_ii, tt]
    · simp [mv, bm1', ap, ad, bm2', ap2, div_ii, mod_ii, tt, mt, eq]
  have k4 : r__law_told_4 [some (.ref r), some (.lst L1), some (.str z), some (.str c), some (.tup [.int f, .int l]), some (.ref h), some (.int t), some (.int f), some (.int l), some (.lst L9), some (.lst L10), some (.int o), some (.int q), some (.ref (S.length + 1)), none, none] (S ++ [LO.lst A, .lst D]) = .rt (.bl true) S2 := by
    rw [← k8]
    simp [-r__law_told_8, law_whole_i, m3, s3, m4, s4, m5, sr, is, ne]
  have k1 : g__law_told [some (.ref r), some (.lst L1), some (.str z), some (.str c), some (.tup [.int f, .int l]), some (.ref h), some (.int t), none, none, none, none, none, none, none, none, none] S = .rt (.bl true) S2 := by
    rw [← k4]
    have nx : isX (LV.tup [.int f, .int l]) = false := rfl
    have gt : ∀ ds S, asgK (gTp (gsCons (gNm 7) (gsCons (gNm 8) gsNil))) ds (.tup [.int f, .int l]) S = .nx ((ds.set 7 (some (.int f))).set 8 (some (.int l))) S := fun ds S => rfl
    generalize LV.tup [.int f, .int l] = W at *
    simp [-r__law_told_4, g__law_told, nx, gt, m1, m2, an, up]
  unfold f__law_told
  rw [e_fn (n := 7) (by rfl)]
  show gcF S (fin (g__law_told [some (.ref r), some (.lst L1), some (.str z), some (.str c), some (.tup [.int f, .int l]), some (.ref h), some (.int t), none, none, none, none, none, none, none, none, none] S)) = _
  rw [k1]
  exact fin'
end K16


set_option Elab.async false
set_option linter.all false
set_option maxRecDepth 100000
set_option maxHeartbeats 4000000
namespace K16
open PySem PySem.Spec PyProof.Rows L2 LL
abbrev Tv := List (List Key × LV)
structure St (cs : List Str) (S : Sto) (tv : Nat → Tv) (M : Nat → List R4) (held : List LV) : Prop where
  sm : ∀ i, i < 2 → Sm S (2 * i) (2 * i + 1) (tv i) (M i)
  rw : S[4]? = some (.lst [.lst ((M 0).map r4V), .lst ((M 1).map r4V)])
  hd : S[5]? = some (.lst held)
  dj : ∀ i j, i < 2 → j < 2 → i ≠ j → ∀ ks ks' n, getK (tv i) ks = some (.ref n) → getK (tv j) ks' ≠ some (.ref n)
  cm : ∀ i, i < 2 → ∀ x ∈ M i, x.2.2.1 ∈ cs
  ho : ∀ v ∈ held, ∃ L : List LV, v = shownV L ∧ L.all (fz 58) = true
section
variable {cs : List Str} {S : Sto} {tv : Nat → Tv} {M : Nat → List R4} {held : List LV}
theorem curL_fz {r k : Nat} {tvs : Tv} {N : List R4} (w : Sm S r k tvs N) (C : Cur cs) (cm : ∀ x ∈ N, x.2.2.1 ∈ cs) (z : Str) : (curL tvs z ++ [moreV]).all (fz 58) = true := by
  rw [List.all_append, Bool.and_eq_true]
  refine ⟨?_, by simp only [List.all_cons, List.all_nil, more_fz]; rfl⟩
  rw [List.all_eq_true]
  intro v hv
  obtain ⟨y, hy, rfl⟩ := List.mem_map.mp hv
  rw [curs_same w z] at hy
  have hy := (sortS_perm _).mem_iff.mp hy
  rcases (foldZ_mem y _ _).mp hy with q | q
  · cases q
  · obtain ⟨x, hx, rfl⟩ := List.mem_map.mp q
    rw [fz_str]
    exact (C.fine _ (cm x (List.mem_filter.mp hx).1)).ok
theorem ref_kind {r k : Nat} {tvs : Tv} {N : List R4} (w : Sm S r k tvs N) {ks : List Key} {n : Nat} (g : getK tvs ks = some (.ref n)) : ∃ L, S[n]? = some (.dct (moD L)) := by
  obtain ⟨_, _, n', L, _, e, q, _⟩ := w.ref g
  cases e
  exact ⟨L, q⟩
theorem St.lowH (w : St cs S tv M held) (N : Nat) : lowVs N held = true := lows_all.mpr fun v hv => by
  obtain ⟨L, rfl, hL⟩ := w.ho v hv
  have q := fzs_low (k := N) hL
  show (lowVs N L && (lowVs N L && true)) = true
  rw [q]
  rfl
/-- the held list gets longer -/
theorem St.heldS (w : St cs S tv M held) {held' : List LV} (ho : ∀ v ∈ held', ∃ L : List LV, v = shownV L ∧ L.all (fz 58) = true) : St cs (S.set 5 (.lst held')) tv M held' where
  sm := fun i hi => (w.sm i hi).mono (get_setn (by omega)) (get_setn (by omega)) fun ks n g => get_setn fun e => by
    obtain ⟨L, q⟩ := ref_kind (w.sm i hi) g
    rw [← e, w.hd] at q
    cases q
  rw := by rw [get_setn (by decide)]; exact w.rw
  hd := get_set w.hd
  dj := w.dj
  cm := w.cm
  ho := ho
theorem St.told (w : St cs S tv M held) (C : Cur cs) {i : Nat} (hi : i < 2) (ml : (M i).length ≤ 3000) (hl : held.length < 1000) (z c : Str) (f l t : Int) :
    ∃ held', f__law_told [.ref (2 * i), .lst ((M i).map r4V), .str z, .str c, .tup [.int f, .int l], .ref 5, .int t] S = .ok (.bl true) (S.set 5 (.lst held')) ∧ St cs (S.set 5 (.lst held')) tv M held' ∧ held'.length = held.length + 1 := by
  refine ⟨_, told_e (w.sm i hi) ml C (w.cm i hi) w.hd (w.lowH _) hl z c f l t, w.heldS fun v hv => ?_, by simp⟩
  rcases List.mem_append.mp hv with hv | hv
  · exact w.ho v hv
  · rw [List.mem_singleton.mp hv]
    exact ⟨_, rfl, curL_fz (w.sm i hi) C (w.cm i hi) z⟩
def upF {α : Type} (f : Nat → α) (i : Nat) (x : α) : Nat → α := fun j => if j = i then x else f j
@[simp] theorem upF_same {α : Type} (f : Nat → α) (i : Nat) (x : α) : upF f i x i = x := if_pos rfl
theorem upF_other {α : Type} (f : Nat → α) {i j : Nat} (x : α) (h : j ≠ i) : upF f i x j = f j := if_neg h
/-- a booking is put, and its rows are kept -/
theorem St.put (w : St cs S tv M held) {i : Nat} (hi : i < 2) {rs : List Row} (rc : ∀ r ∈ rs, r.2.1 ∈ cs) (ml : (M i).length + rs.length ≤ 100000) {m d : Int} (hm : ∀ S, f_month_of [.int d] S = .ok (.int m) S) (u v v2 : LV) :
    ∃ S' t', f_Sums_put [.ref (2 * i), .tup [u, .int d, v, .tup (rs.map rowV), v2]] S = .ok .non S' ∧ S'[4]? = some (.lst [.lst ((M 0).map r4V), .lst ((M 1).map r4V)]) ∧
      ∀ rows, rows = .lst [.lst ((upF M i (M i ++ withM m rs) 0).map r4V), .lst ((upF M i (M i ++ withM m rs) 1).map r4V)] → St cs (S'.set 4 rows) (upF tv i t') (upF M i (M i ++ withM m rs)) held := by
  obtain ⟨S', t', e, s1, s2⟩ := put_e (w.sm i hi) ml hm u v v2
  have kin : ∀ {n : Nat} {o : LO}, S[n]? = some o → (∀ L, o ≠ .dct (moD L)) → n ≠ 2 * i + 1 → S'[n]? = some o := fun {n o} g nd ne => by
    rw [s2.old n (List.getElem?_eq_some_iff.mp g).1 ne fun ks gk => ?_]
    · exact g
    · obtain ⟨L, q⟩ := ref_kind (w.sm i hi) gk
      rw [g] at q
      exact nd L (Option.some.inj q)
  have r4 := kin w.rw (fun L => by intro z; cases z) (by omega)
  have h5 := kin w.hd (fun L => by intro z; cases z) (by omega)
  have oth : ∀ j, j < 2 → j ≠ i → Sm S' (2 * j) (2 * j + 1) (tv j) (M j) := fun j hj ne => by
    have sj := w.sm j hj
    refine sj.mono ?_ ?_ fun ks n g => ?_
    · rw [kin sj.ins (fun L => by intro z; cases z) (by omega), sj.ins]
    · rw [kin sj.tab (fun L => by intro z; cases z) (by omega), sj.tab]
    · refine s2.old n (sj.lt g) (fun z => ?_) fun ks' g' => w.dj j i hj hi ne ks ks' n g g'
      obtain ⟨L, q⟩ := ref_kind sj g
      rw [z, (w.sm i hi).tab] at q
      cases q
  refine ⟨S', t', e, r4, fun rows hr => ?_⟩
  have all : ∀ j, j < 2 → Sm S' (2 * j) (2 * j + 1) (upF tv i t' j) (upF M i (M i ++ withM m rs) j) := fun j hj => by
    by_cases q : j = i
    · subst q
      rw [upF_same, upF_same]
      exact s1
    · rw [upF_other _ _ q, upF_other _ _ q]
      exact oth j hj q
  refine ⟨fun j hj => ?_, by rw [hr]; exact get_set r4, by rw [get_setn (by decide)]; exact h5, fun j j2 hj hj2 ne ks ks' n g g' => ?_, fun j hj x hx => ?_, w.ho⟩
  · refine (all j hj).mono (get_setn (by omega)) (get_setn (by omega)) fun ks n g => get_setn fun z => ?_
    obtain ⟨L, q⟩ := ref_kind (all j hj) g
    rw [← z, r4] at q
    cases q
  · by_cases q : j = i
    · subst q
      rw [upF_same] at g
      rw [upF_other _ _ (Ne.symm ne)] at g'
      rcases s2.ref ks n g with k | k
      · exact w.dj j j2 hj hj2 ne ks ks' n k g'
      · have := (w.sm j2 hj2).lt g'
        omega
    · rw [upF_other _ _ q] at g
      by_cases q2 : j2 = i
      · subst q2
        rw [upF_same] at g'
        rcases s2.ref ks' n g' with k | k
        · exact w.dj j j2 hj hj2 ne ks ks' n g k
        · have := (w.sm j hj).lt g
          omega
      · rw [upF_other _ _ q2] at g'
        exact w.dj j j2 hj hj2 ne ks ks' n g g'
  · by_cases q : j = i
    · subst q
      rw [upF_same] at hx
      rcases List.mem_append.mp hx with hx | hx
      · exact w.cm j hj x hx
      · obtain ⟨r, hr, rfl⟩ := List.mem_map.mp hx
        exact rc r hr
    · rw [upF_other _ _ q] at hx
      exact w.cm j hj x hx
end
end K16


set_option Elab.async false
set_option linter.all false
set_option maxRecDepth 100000
set_option maxHeartbeats 4000000
namespace K16
open PySem PySem.Spec PyProof.Rows L2 LL
section
variable {ns : List Int} {P C B W T R R' rv : LV} {S S1 S2 S3 S4 S5 : Sto} {k x a q pl base t m d y0 y20 y21 y22 y23 : Int} {z c z' c' : Str} {V : List LV} {j7 j8 j9 j10 j11 j12 j13 j14 j15 j16 j17 : Option LV} {r : Nat} {fs fs' : List LV}
theorem turn_1 (nP : isX P = false) (nC : isX C = false) (nB : isX B = false) (nW : isX W = false)
    (hx : ixL (.scr ns) (.int k) S = .ok (.int x) S) (ha : x % 3 / 2 = a) (hl : lenL [P] S = .ok (.int pl) S) (hq : modL (.int (x / 3)) (.int pl) S = .ok (.int q) S) (hz : ixL P (.int q) S = .ok (.str z) S) (hc : ixL C (.int (x / 33 % 3)) S = .ok (.str c) S)
    (h0 : f__law_mixed [.int x, .int 0] S = .ok (.int y0) S) (hs : f__law_stretch [.int (y0 / 5), .int base] S = .ok W S) (h23 : f__law_mixed [.int x, .int 23] S = .ok (.int y23) S) (ht : y23 / 7 = t)
    (hB : ixL B (.int a) S = .ok (.ref r) S) (hR : ixL (.ref 4) (.int a) S = .ok R S) (nR : isX R = false) (ho : f__law_told [.ref r, R, .str z, .str c, W, .ref 5, .int t] S = .ok (.bl true) S1) :
    b_law_1 [some (.scr ns), some (.int base), some P, some C, some B, some (.ref 4), some (.ref 5), some (.int k), j8, j9, j10, j11, j12, j13, j14, j15, j16, j17] S = rb_law_1_7 [some (.scr ns), some (.int base), some P, some C, some B, some (.ref 4), some (.ref 5), some (.int k), some (.int x), some (.int a), some (.str z), some (.str c), some W, some (.int t), j14, j15, j16, j17] S1 := by
  simp [-rb_law_1_7, b_law_1, hx, div_ii, mod_ii, ha, hl, hq, hz, hc, h0, hs, h23, ht, nP, nC, nB, nW, hB, hR, nR, ho]
theorem turn_7 (nP : isX P = false) (nC : isX C = false) (nB : isX B = false) (nT : isX T = false)
    (h20 : f__law_mixed [.int x, .int 20] S1 = .ok (.int y20) S1) (hm : base + y20 / 3 % 4 = m) (h21 : f__law_mixed [.int x, .int 21] S1 = .ok (.int y21) S1) (hr : f__law_rows [.int (y21 / 4), P, C] S1 = .ok T S1)
    (h22 : f__law_mixed [.int x, .int 22] S1 = .ok (.int y22) S1) (hd : f__law_day [.int (y22 / 9), .int m] S1 = .ok (.int d) S1) (hB : ixL B (.int a) S1 = .ok (.ref r) S1) (hi : S1[r]? = some (.ins 100 fs))
    (hp : f_Sums_put [.ref r, .tup [.int k, .int d, .str ("" : Str), T, .non]] S1 = .ok .non S2) :
    rb_law_1_7 [some (.scr ns), some (.int base), some P, some C, some B, some (.ref 4), some (.ref 5), some (.int k), some (.int x), some (.int a), some (.str z), some (.str c), some W, some (.int t), j14, j15, j16, j17] S1 = rb_law_1_10 [some (.scr ns), some (.int base), some P, some C, some B, some (.ref 4), some (.ref 5), some (.int k), some (.int x), some (.int a), some (.str z), some (.str c), some W, some (.int t), some (.int m), some T, j16, j17] S2 := by
  have hp' : f_Sums_put [.ref r, .tup [.int k, .int d, .str (Str.ofString ""), T, .non]] S1 = .ok .non S2 := hp
  simp [-rb_law_1_10, div_ii, mod_ii, h20, hm, h21, hr, h22, hd, nP, nC, nB, nT, hB, meth_t0 hi, hp']
theorem turn_10 (nB : isX B = false) (nW : isX W = false) (nT : isX T = false) (nR : isX R = false) (nR' : isX R' = false) (nv : isX rv = false) (hR : ixL (.ref 4) (.int a) S2 = .ok R S2) (hc : c_law_2 [some (.scr ns), some (.int base), some P, some C, some B, some (.ref 4), some (.ref 5), some (.int k), some (.int x), some (.int a), some (.str z), some (.str c), some W, some (.int t), some (.int m), some T, j16, j17] S2 = .ok (.lst V) S2) (had : addL R (.lst V) S2 = .ok R' S2) (hp : putO (.ref 4) (.int a) R' S2 = some S3)
    (hB : ixL B (.int a) S3 = .ok (.ref r) S3) (hR3 : ixL (.ref 4) (.int a) S3 = .ok R' S3) (ho : f__law_told [.ref r, R', .str z, .str c, W, .ref 5, .int (t / 6)] S3 = .ok (.bl true) S4)
    (hB4 : ixL B (.int a) S4 = .ok (.ref r) S4) (hR4 : ixL (.ref 4) (.int a) S4 = .ok R' S4) (i0 : ixL T (.int 0) S4 = .ok rv S4) (r0 : ixL rv (.int 0) S4 = .ok (.str z') S4) (r1 : ixL rv (.int 1) S4 = .ok (.str c') S4)
    (ho2 : f__law_told [.ref r, R', .str z', .str c', .tup [.int m, .int m], .ref 5, .int (t / 36)] S4 = .ok (.bl true) S5) :
    rb_law_1_10 [some (.scr ns), some (.int base), some P, some C, some B, some (.ref 4), some (.ref 5), some (.int k), some (.int x), some (.int a), some (.str z), some (.str c), some W, some (.int t), some (.int m), some T, j16, j17] S2 = .nx [some (.scr ns), some (.int base), some P, some C, some B, some (.ref 4), some (.ref 5), some (.int k), some (.int x), some (.int a), some (.str z), some (.str c), some W, some (.int t), some (.int m), some T, j16, j17] S5 := by
  simp [hR, hc, had, e_sub, sub3_ok hp, div_ii, nB, nW, nT, nR, nR', nv, hB, hR3, ho, hB4, hR4, i0, r0, r1, ho2]
theorem comp_e {rs : List Row} (hT : T = .tup (rs.map rowV)) (hl : rs.length ≤ 1000) : c_law_2 [some (.scr ns), some (.int base), some P, some C, some B, some (.ref 4), some (.ref 5), some (.int k), some (.int x), some (.int a), some (.str z), some (.str c), some W, some (.int t), some (.int m), some T, j16, j17] S = .ok (.lst ((withM m rs).map r4V)) S := by
  have nT : isX T = false := by rw [hT]; rfl
  have it : iterO T S = .ok (itOf (rs.map rowV)) S := by rw [hT]; rfl
  have body := lcR_all (t := false) (lg := gNm 16) (fe := e_law_2) (ds := [some (.scr ns), some (.int base), some P, some C, some B, some (.ref 4), some (.ref 5), some (.int k), some (.int x), some (.int a), some (.str z), some (.str c), some W, some (.int t), some (.int m), some T, none, j17]) (S := S) (ws := rs) (g := rowV) (fun y => r4V (m, y.1, y.2.1, y.2.2)) .of (by omega) (fun y _ acc => ⟨[some (.scr ns), some (.int base), some P, some C, some B, some (.ref 4), some (.ref 5), some (.int k), some (.int x), some (.int a), some (.str z), some (.str c), some W, some (.int t), some (.int m), some T, some (rowV y), j17], rfl, by
      have nx : isX (rowV y) = false := rfl
      have ad : ∀ S, addL (.tup [.int m]) (rowV y) S = .ok (r4V (m, y.1, y.2.1, y.2.2)) S := fun S => rfl
      generalize rowV y = v at *
      simp [e_law_2, nx, ad]⟩) (fun _ _ => rfl)
  have mm : (withM m rs).map r4V = rs.map fun y => r4V (m, y.1, y.2.1, y.2.2) := by unfold withM; rw [List.map_map]; rfl
  rw [mm]
  generalize (rs.map fun y => r4V (m, y.1, y.2.1, y.2.2)) = V2 at *
  generalize rs.map rowV = V1 at *
  simp [c_law_2, wipeL, nT, it, body, newL]
end
end K16


set_option Elab.async false
set_option linter.all false
set_option maxRecDepth 100000
set_option maxHeartbeats 4000000
namespace K16
open PySem PySem.Spec PyProof.Rows L2 LL
abbrev J11 := Option LV × Option LV × Option LV × Option LV × Option LV × Option LV × Option LV × Option LV × Option LV × Option LV × Option LV
section
variable {ns : List Int} {ps cs : List Str} {base : Int} {S : Sto} {tv : Nat → Tv} {M : Nat → List R4} {held : List LV}
def slD (ns : List Int) (base : Int) (ps cs : List Str) (j : J11) : Sl := [some (.scr ns), some (.int base), some (.lst (ps.map .str)), some (.lst (cs.map .str)), some (.lst [.ref 0, .ref 2]), some (.ref 4), some (.ref 5), j.1, j.2.1, j.2.2.1, j.2.2.2.1, j.2.2.2.2.1, j.2.2.2.2.2.1, j.2.2.2.2.2.2.1, j.2.2.2.2.2.2.2.1, j.2.2.2.2.2.2.2.2.1, j.2.2.2.2.2.2.2.2.2.1, j.2.2.2.2.2.2.2.2.2.2]
theorem both_ix {a : Nat} (ha : a < 2) (S : Sto) : ixL (.lst [.ref 0, .ref 2]) (.int (a : Int)) S = .ok (.ref (2 * a)) S := by
  rcases (show a = 0 ∨ a = 1 by omega) with rfl | rfl
  · rfl
  · rfl
theorem rows_ix {a : Nat} (ha : a < 2) (h : S[4]? = some (.lst [.lst ((M 0).map r4V), .lst ((M 1).map r4V)])) : ixL (.ref 4) (.int (a : Int)) S = .ok (.lst ((M a).map r4V)) S := by
  rcases (show a = 0 ∨ a = 1 by omega) with rfl | rfl
  · exact ix_v (ls_r h) (by decide) rfl
  · exact ix_v (ls_r h) (by decide) rfl
theorem rows_put {a : Nat} (ha : a < 2) (h : S[4]? = some (.lst [.lst ((M 0).map r4V), .lst ((M 1).map r4V)])) (L : List R4) :
    putO (.ref 4) (.int (a : Int)) (.lst (L.map r4V)) S = some (S.set 4 (.lst [.lst ((upF M a L 0).map r4V), .lst ((upF M a L 1).map r4V)])) := by
  rcases (show a = 0 ∨ a = 1 by omega) with rfl | rfl
  · rw [put_l h (by decide) (by simp)]
    rfl
  · rw [put_l h (by decide) (by simp)]
    rfl
theorem step (hp : 1 ≤ ps.length) (hpl : ps.length ≤ 1000) (C : Cur cs) (b0 : 0 ≤ base) (b1 : base ≤ 4796) (w : St cs S tv M held) (ml : ∀ i, i < 2 → (M i).length ≤ 2000) (hl : held.length ≤ 900) {k x : Int} (hx : ∀ S, ixL (.scr ns) (.int k) S = .ok (.int x) S) (j : J11) :
    ∃ S' tv' M' held' j', turn (gNm 7) b_law_1 (.int k) (slD ns base ps cs j) S = .nx (slD ns base ps cs j') S' ∧ St cs S' tv' M' held' ∧ (∀ i, i < 2 → (M' i).length ≤ (M i).length + 6) ∧ held'.length = held.length + 3 := by
  obtain ⟨a, ha, a2⟩ : ∃ a : Nat, x % 3 / 2 = (a : Int) ∧ a < 2 := ⟨(x % 3 / 2).toNat, by omega, by omega⟩
  have q0 := Int.emod_nonneg (x / 3) (show (ps.length : Int) ≠ 0 by omega)
  have q1 := Int.emod_lt_of_pos (x / 3) (show 0 < (ps.length : Int) by omega)
  have hq : ∀ S, modL (.int (x / 3)) (.int (ps.length : Int)) S = .ok (.int (x / 3 % (ps.length : Int))) S := fun S => mod_ii (by omega)
  generalize x / 3 % (ps.length : Int) = q at *
  obtain ⟨z, hz⟩ : ∃ z, ps[q.toNat]? = some z := ⟨_, List.getElem?_eq_getElem (by omega)⟩
  have iz : ∀ S, ixL (.lst (ps.map .str)) (.int q) S = .ok (.str z) S := fun S => ix_v (xs := ps.map LV.str) rfl q0 (by rw [List.getElem?_map, hz]; rfl)
  have cl := C.len
  obtain ⟨c, hc⟩ : ∃ c, cs[(x / 33 % 3).toNat]? = some c := ⟨_, List.getElem?_eq_getElem (by omega)⟩
  have ic : ∀ S, ixL (.lst (cs.map .str)) (.int (x / 33 % 3)) S = .ok (.str c) S := fun S => ix_v (xs := cs.map LV.str) rfl (by omega) (by rw [List.getElem?_map, hc]; rfl)
  have ln : ∀ S, lenL [.lst (ps.map .str)] S = .ok (.int (ps.length : Int)) S := fun S => by
    have := ls_len0 (S := S) (vs := ps.map LV.str)
    rwa [List.length_map] at this
  have e0 := mixed_e x 0 (by decide) (by decide)
  have e20 := mixed_e x 20 (by decide) (by decide)
  have e21 := mixed_e x 21 (by decide) (by decide)
  have e22 := mixed_e x 22 (by decide) (by decide)
  have e23 := mixed_e x 23 (by decide) (by decide)
  obtain ⟨f, l, hs⟩ := stretch_e (mixv x 0 / 5) base S
  obtain ⟨t, ht⟩ : ∃ t, mixv x 23 / 7 = t := ⟨_, rfl⟩
  obtain ⟨h1, o1, w1, l1⟩ := w.told C a2 (Nat.le_trans (ml a a2) (by omega)) (by omega) z c f l t
  have n20 := mixv_nn x 20
  obtain ⟨m, hm⟩ : ∃ m, base + mixv x 20 / 3 % 4 = m := ⟨_, rfl⟩
  obtain ⟨rs, r2, r6, rc, hr⟩ := rows_e hp hpl C (mixv x 21 / 4) (by have := mixv_nn x 21; omega) (by have := mixv_nn x 21; have := mixv_lt x 21; omega) (S.set 5 (.lst h1))
  obtain ⟨d, d0, dm, hd⟩ := day_e (mixv x 22 / 9) m (by omega) (by omega)
  obtain ⟨S2, t', hpu, rw2, mk3⟩ := w1.put a2 rc (by have := ml a a2; omega) dm (.int k) (.str ("" : Str)) .non
  have w3 := mk3 _ rfl
  have pu := rows_put (M := M) a2 rw2 (M a ++ withM m rs)
  have mlen : ∀ i, i < 2 → (upF M a (M a ++ withM m rs) i).length ≤ (M i).length + 6 := fun i hi => by
    by_cases e : i = a
    · rw [e, upF_same, List.length_append]
      unfold withM
      rw [List.length_map]
      omega
    · rw [upF_other _ _ e]
      omega
  obtain ⟨h3, o3, w4, l3⟩ := w3.told C a2 (Nat.le_trans (mlen a a2) (by have := ml a a2; omega)) (by omega) z c f l (t / 6)
  obtain ⟨y, hy⟩ : ∃ y, rs[0]? = some y := ⟨_, List.getElem?_eq_getElem (by omega)⟩
  obtain ⟨h4, o4, w5, l4⟩ := w4.told C a2 (Nat.le_trans (mlen a a2) (by have := ml a a2; omega)) (by omega) y.1 y.2.1 m m (t / 36)
  have i0 : ∀ S, ixL (.tup (rs.map rowV)) (.int 0) S = .ok (rowV y) S := fun S => ix_t (xs := rs.map rowV) (by decide) (by rw [List.getElem?_map]; show (rs[0]?).map rowV = _; rw [hy]; rfl)
  have had : addL (.lst ((M a).map r4V)) (.lst ((withM m rs).map r4V)) S2 = .ok (.lst ((M a ++ withM m rs).map r4V)) S2 := by
    show addG false _ _ _ = _
    rw [add_ll ls_l ls_l (by unfold withM; rw [List.length_map, List.length_map, List.length_map]; have := ml a a2; omega), List.map_append]
    rfl
  refine ⟨_, _, _, _, (some (.int k), some (.int x), some (.int a), some (.str z), some (.str c), some (.tup [.int f, .int l]), some (.int t), some (.int m), some (.tup (rs.map rowV)), j.2.2.2.2.2.2.2.2.2.1, j.2.2.2.2.2.2.2.2.2.2), ?_, w5, mlen, by omega⟩
  rw [turn_nm]
  have k1 := turn_1 (ns := ns) (base := base) (P := .lst (ps.map .str)) (C := .lst (cs.map .str)) (B := .lst [.ref 0, .ref 2]) (W := .tup [.int f, .int l]) (R := .lst ((M a).map r4V)) (S := S) (S1 := S.set 5 (.lst h1)) (k := k) (x := x) (a := a) (q := q) (pl := ps.length) (t := t) (y0 := mixv x 0) (y23 := mixv x 23) (z := z) (c := c) (j8 := j.2.1) (j9 := j.2.2.1) (j10 := j.2.2.2.1) (j11 := j.2.2.2.2.1) (j12 := j.2.2.2.2.2.1) (j13 := j.2.2.2.2.2.2.1) (j14 := j.2.2.2.2.2.2.2.1) (j15 := j.2.2.2.2.2.2.2.2.1) (j16 := j.2.2.2.2.2.2.2.2.2.1) (j17 := j.2.2.2.2.2.2.2.2.2.2) (r := 2 * a) rfl rfl rfl rfl (hx S) ha (ln S) (hq S) (iz S) (ic S) (e0 S) hs (e23 S) ht (both_ix a2 S) (rows_ix a2 w.rw) rfl o1
  have k7 := turn_7 (ns := ns) (base := base) (P := .lst (ps.map .str)) (C := .lst (cs.map .str)) (B := .lst [.ref 0, .ref 2]) (W := .tup [.int f, .int l]) (T := .tup (rs.map rowV)) (S1 := S.set 5 (.lst h1)) (S2 := S2) (k := k) (x := x) (a := a) (t := t) (m := m) (d := d) (y20 := mixv x 20) (y21 := mixv x 21) (y22 := mixv x 22) (z := z) (c := c) (j14 := j.2.2.2.2.2.2.2.1) (j15 := j.2.2.2.2.2.2.2.2.1) (j16 := j.2.2.2.2.2.2.2.2.2.1) (j17 := j.2.2.2.2.2.2.2.2.2.2) (r := 2 * a) rfl rfl rfl rfl (e20 _) hm (e21 _) hr (e22 _) (hd _) (both_ix a2 _) (w1.sm a a2).ins hpu
  have k10 := turn_10 (ns := ns) (base := base) (P := .lst (ps.map .str)) (C := .lst (cs.map .str)) (B := .lst [.ref 0, .ref 2]) (W := .tup [.int f, .int l]) (T := .tup (rs.map rowV)) (R := .lst ((M a).map r4V)) (R' := .lst ((M a ++ withM m rs).map r4V)) (rv := rowV y) (S2 := S2) (k := k) (x := x) (a := a) (t := t) (m := m) (z := z) (c := c) (j16 := j.2.2.2.2.2.2.2.2.2.1) (j17 := j.2.2.2.2.2.2.2.2.2.2) (r := 2 * a) rfl rfl rfl rfl rfl rfl (rows_ix a2 rw2) (comp_e rfl (by omega)) had pu (both_ix a2 _) (by
    have := rows_ix a2 w3.rw
    rwa [upF_same] at this) (by rw [upF_same] at o3; exact o3) (both_ix a2 _) (by
    have := rows_ix a2 w4.rw
    rwa [upF_same] at this) (i0 _) rfl rfl (by rw [upF_same] at o4; exact o4)
  have all := k1.trans (k7.trans k10)
  have hd2 : List.set (slD ns base ps cs j) 7 (some (.int k)) = [some (.scr ns), some (.int base), some (.lst (ps.map .str)), some (.lst (cs.map .str)), some (.lst [.ref 0, .ref 2]), some (.ref 4), some (.ref 5), some (.int k), j.2.1, j.2.2.1, j.2.2.2.1, j.2.2.2.2.1, j.2.2.2.2.2.1, j.2.2.2.2.2.2.1, j.2.2.2.2.2.2.2.1, j.2.2.2.2.2.2.2.2.1, j.2.2.2.2.2.2.2.2.2.1, j.2.2.2.2.2.2.2.2.2.2] := rfl
  rw [hd2, all]
  rfl
end
end K16


set_option Elab.async false
set_option linter.all false
set_option maxRecDepth 100000
set_option maxHeartbeats 4000000
namespace K16
open PySem PySem.Spec PyProof.Rows L2 LL
theorem cut_map {α : Type} (f : α → LV) (xs : List α) (lo hi : Option Int) : ∃ ys : List α, cutL (xs.map f) lo hi = ys.map f ∧ ys.length ≤ xs.length := by
  unfold cutL
  rw [List.length_map]
  exact ⟨_, by rw [← List.map_drop, ← List.map_take], by rw [List.length_take, List.length_drop]; omega⟩
theorem all_held {S : Sto} {ds : Sl} {held : List LV} {h : Nat} (hh : S[h]? = some (.lst held)) (hl : held.length < 9000) (ho : ∀ v ∈ held, ∃ L : List LV, v = shownV L ∧ L.all (fz 58) = true) (h17 : 17 < ds.length) :
    lcR false (gNm 17) lYes e_law_5 ds (.ok (itRef h held.length) S) = .ok (.lst (held.map fun _ => .bl true)) S :=
  lcR_all (t := false) (lg := gNm 17) (fe := e_law_5) (S := S) (ds := ds) (ws := held) (g := id) (fun _ => .bl true) (by rw [List.map_id]; exact .ref hh) (by omega) (fun v hv acc => by
    obtain ⟨R, rfl, hR⟩ := ho v hv
    refine ⟨ds.set 17 (some (shownV R)), rfl, ?_⟩
    have nx : isX (shownV R) = false := rfl
    have i0 : ∀ S, ixL (shownV R) (.int 0) S = .ok (.lst R) S := fun S => rfl
    have i1 : ∀ S, ixL (shownV R) (.int 1) S = .ok (.lst R) S := fun S => rfl
    have eq : ∀ S, eqL (.lst R) (.lst R) S = .ok (.bl true) S := fun S => eq_same (by rw [fz_lst]; exact fzs_mono (by decide) hR)
    have g : (ds.set 17 (some (shownV R)))[17]? = some (some (shownV R)) := List.getElem?_set_self h17
    have lv : ∀ S, lVar 17 (ds.set 17 (some (shownV R))) S = .ok (shownV R) S := fun S => by unfold lVar; simp [g, nx]
    unfold e_law_5
    simp [lv, i0, i1, eq]) (fun _ _ => rfl)
section
variable {ns : List Int} {ps cs : List Str} {base : Int} {S : Sto} {tv : Nat → Tv} {M : Nat → List R4} {held : List LV}
/-- the loop over the cells -/
theorem loop (hp : 1 ≤ ps.length) (hpl : ps.length ≤ 1000) (C : Cur cs) (b0 : 0 ≤ base) (b1 : base ≤ 4796) (w : St cs S tv M held) (m0 : ∀ i, i < 2 → (M i).length = 0) (h0 : held.length = 0) (n : Nat) (hn : n ≤ 14) (hl : n = 0 ∨ 4 + n ≤ ns.length) (j : J11) :
    ∃ S' tv' M' held' j', forS (gNm 7) b_law_1 (slD ns base ps cs j) (.ok (itOf (rng 4 n)) S) = .nx (slD ns base ps cs j') S' ∧ St cs S' tv' M' held' ∧ (∀ i, i < 2 → (M' i).length ≤ 90) ∧ held'.length ≤ 50 := by
  obtain ⟨a, ⟨p1, p2, p3⟩, j', lp⟩ := for_rel (lg := gNm 7) (fb := b_law_1) (l := itOf (rng 4 n)) (ws := List.range n) (g := fun j : Nat => .int (4 + (j : Int))) (fun (_ : Sto × (Nat → Tv) × (Nat → List R4) × List LV) (j : J11) => slD ns base ps cs j) (fun a => a.1)
    (fun i a => St cs a.1 a.2.1 a.2.2.1 a.2.2.2 ∧ (∀ s, s < 2 → (a.2.2.1 s).length ≤ 6 * i) ∧ a.2.2.2.length ≤ 3 * i) (fun _ _ _ => .of) (fun i b hb a j ⟨q1, q2, q3⟩ => by
      have hi : i < (List.range n).length := (List.getElem?_eq_some_iff.mp hb).1
      rw [List.length_range] at hi
      have bi : b = i := by
        have := hb
        rw [List.getElem?_range (by omega)] at this
        exact (Option.some.inj this).symm
      subst bi
      have hx : ∀ S, ixL (.scr ns) (.int (4 + (b : Int))) S = .ok (.int (cell ns (4 + (b : Int)))) S := fun S => ix_c (by omega) (by omega)
      obtain ⟨S', tv', M', held', j', e, w', l1, l2⟩ := step hp hpl C b0 b1 q1 (fun s hs => by have := q2 s hs; omega) (by omega) hx j
      exact ⟨(S', tv', M', held'), ⟨w', fun s hs => by have := l1 s hs; have := q2 s hs; show (M' s).length ≤ _; omega, by show held'.length ≤ _; omega⟩, j', e⟩) (S, tv, M, held) j ⟨w, fun s hs => by show (M s).length ≤ _; rw [m0 s hs]; omega, by show held.length ≤ _; omega⟩
  rw [List.length_range] at p2 p3
  exact ⟨a.1, a.2.1, a.2.2.1, a.2.2.2, j', lp, p1, fun i hi => by have := p2 i hi; omega, by omega⟩
/-- the last questions of one -/
theorem last_in (C : Cur cs) {a : Nat} (ha : a < 2) (ys : List Str) (w : St cs S tv M held) (ml : ∀ i, i < 2 → (M i).length ≤ 90) (hl : held.length + ys.length ≤ 900) (j : J11) :
    ∃ (S' : Sto) (held' : List LV) (j' : J11), forS (gNm 10) b_law_4 [some (.scr ns), some (.int base), some (.lst (ps.map .str)), some (.lst (cs.map .str)), some (.lst [.ref 0, .ref 2]), some (.ref 4), some (.ref 5), j.1, j.2.1, some (.int (a : Int)), j.2.2.2.1, j.2.2.2.2.1, j.2.2.2.2.2.1, j.2.2.2.2.2.2.1, j.2.2.2.2.2.2.2.1, j.2.2.2.2.2.2.2.2.1, j.2.2.2.2.2.2.2.2.2.1, j.2.2.2.2.2.2.2.2.2.2] (.ok (itOf (ys.map .str)) S) = .nx [some (.scr ns), some (.int base), some (.lst (ps.map .str)), some (.lst (cs.map .str)), some (.lst [.ref 0, .ref 2]), some (.ref 4), some (.ref 5), j'.1, j'.2.1, some (.int (a : Int)), j'.2.2.2.1, j'.2.2.2.2.1, j'.2.2.2.2.2.1, j'.2.2.2.2.2.2.1, j'.2.2.2.2.2.2.2.1, j'.2.2.2.2.2.2.2.2.1, j'.2.2.2.2.2.2.2.2.2.1, j'.2.2.2.2.2.2.2.2.2.2] S' ∧ St cs S' tv M held' ∧ held'.length ≤ held.length + ys.length := by
  obtain ⟨c, hc⟩ : ∃ c, cs[a]? = some c := ⟨_, List.getElem?_eq_getElem (by rw [C.len]; omega)⟩
  have ic : ∀ S, ixL (.lst (cs.map .str)) (.int (a : Int)) S = .ok (.str c) S := fun S => ix_v (xs := cs.map LV.str) rfl (by omega) (by rw [List.getElem?_map, Int.toNat_natCast, hc]; rfl)
  obtain ⟨b, ⟨p1, p2⟩, j', lp⟩ := for_rel (lg := gNm 10) (fb := b_law_4) (l := itOf (ys.map .str)) (ws := ys) (g := LV.str) (fun (_ : Sto × List LV) (j : J11) => [some (.scr ns), some (.int base), some (.lst (ps.map .str)), some (.lst (cs.map .str)), some (.lst [.ref 0, .ref 2]), some (.ref 4), some (.ref 5), j.1, j.2.1, some (.int (a : Int)), j.2.2.2.1, j.2.2.2.2.1, j.2.2.2.2.2.1, j.2.2.2.2.2.2.1, j.2.2.2.2.2.2.2.1, j.2.2.2.2.2.2.2.2.1, j.2.2.2.2.2.2.2.2.2.1, j.2.2.2.2.2.2.2.2.2.2]) (fun b => b.1)
    (fun i b => St cs b.1 tv M b.2 ∧ b.2.length ≤ held.length + i) (fun _ _ _ => .of) (fun i y hy b j ⟨q1, q2⟩ => by
      have li := (List.getElem?_eq_some_iff.mp hy).1
      obtain ⟨h1, o1, w1, l1⟩ := q1.told C ha (Nat.le_trans (ml a ha) (by omega)) (by omega) y c base (base + 3) (base + ((M a).length : Int))
      refine ⟨(b.1.set 5 (.lst h1), h1), ⟨w1, by show h1.length ≤ _; omega⟩, (j.1, j.2.1, j.2.2.1, some (.str y), j.2.2.2.2.1, j.2.2.2.2.2.1, j.2.2.2.2.2.2.1, j.2.2.2.2.2.2.2.1, j.2.2.2.2.2.2.2.2.1, j.2.2.2.2.2.2.2.2.2.1, j.2.2.2.2.2.2.2.2.2.2), ?_⟩
      have bx := both_ix ha b.1
      have rx := rows_ix ha q1.rw
      have ln : lenL [.lst ((M a).map r4V)] b.1 = .ok (.int ((M a).length : Int)) b.1 := by
        have := ls_len0 (S := b.1) (vs := (M a).map r4V)
        rwa [List.length_map] at this
      rw [turn_nm]
      generalize (M a).map r4V = R at *
      generalize ps.map LV.str = P1 at *
      generalize cs.map LV.str = C1 at *
      simp [b_law_4, bx, rx, ic, ln, o1]) (S, held) j ⟨w, by show held.length ≤ _; omega⟩
  exact ⟨b.1, b.2, j', lp, p1, p2⟩
theorem last_e (C : Cur cs) (hpl : ps.length ≤ 100) (w : St cs S tv M held) (ml : ∀ i, i < 2 → (M i).length ≤ 90) (hl : held.length ≤ 50) (j : J11) :
    ∃ S', r_law_7 (slD ns base ps cs j) S = .rt (.bl true) S' := by
  obtain ⟨ys, hy, yl⟩ := cut_map LV.str ps none (some 4)
  have sl : ∀ S, slG false (.lst (ps.map .str)) none (some 4) S = .ok (.lst (ys.map .str)) S := fun S => by
    rw [sl_ls (xs := ps.map .str) ls_l, hy]
    rfl
  have ad : ∀ S, addL (.lst (ys.map .str)) (.lst [.str (Str.ofString "nobody")]) S = .ok (.lst ((ys ++ [("nobody" : Str)]).map .str)) S := fun S => by
    show addG false _ _ _ = _
    rw [add_ll ls_l ls_l (by simp; omega), List.map_append]
    rfl
  have rg : ∀ S, rng1O [.int 2] S = .ok (itOf (rng 0 2)) S := fun S => rng1_e (by decide) (by decide)
  obtain ⟨b, ⟨p1, p2⟩, j', lp⟩ := for_rel (lg := gNm 9) (fb := b_law_3) (l := itOf (rng 0 2)) (ws := List.range 2) (g := fun j : Nat => .int (0 + (j : Int))) (fun (_ : Sto × List LV) (j : J11) => slD ns base ps cs j) (fun b => b.1)
    (fun i b => St cs b.1 tv M b.2 ∧ b.2.length ≤ held.length + 101 * i) (fun _ _ _ => .of) (fun i y hy b j ⟨q1, q2⟩ => by
      have hi : i < (List.range 2).length := (List.getElem?_eq_some_iff.mp hy).1
      rw [List.length_range] at hi
      have bi : y = i := by
        have := hy
        rw [List.getElem?_range (by omega)] at this
        exact (Option.some.inj this).symm
      subst bi
      have e0 : (0 : Int) + (y : Int) = (y : Int) := by omega
      obtain ⟨S', h', j', l4, w', l'⟩ := last_in (ns := ns) (ps := ps) (base := base) C hi (ys ++ [("nobody" : Str)]) q1 ml (by simp; omega) (j.1, j.2.1, some (.int (y : Int)), j.2.2.2.1, j.2.2.2.2.1, j.2.2.2.2.2.1, j.2.2.2.2.2.2.1, j.2.2.2.2.2.2.2.1, j.2.2.2.2.2.2.2.2.1, j.2.2.2.2.2.2.2.2.2.1, j.2.2.2.2.2.2.2.2.2.2)
      rw [List.length_append, List.length_singleton] at l'
      refine ⟨(S', h'), ⟨w', by show h'.length ≤ _; omega⟩, (j'.1, j'.2.1, some (.int (y : Int)), j'.2.2.2.1, j'.2.2.2.2.1, j'.2.2.2.2.2.1, j'.2.2.2.2.2.2.1, j'.2.2.2.2.2.2.2.1, j'.2.2.2.2.2.2.2.2.1, j'.2.2.2.2.2.2.2.2.2.1, j'.2.2.2.2.2.2.2.2.2.2), ?_⟩
      rw [turn_nm, e0]
      simp only at l4
      unfold slD
      generalize (ys ++ [("nobody" : Str)]).map LV.str = Y at *
      generalize ys.map LV.str = Y0 at *
      generalize ps.map LV.str = P1 at *
      generalize cs.map LV.str = C1 at *
      simp [b_law_3, sl, ad, l4]) (S, held) j ⟨w, by show held.length ≤ _; omega⟩
  rw [List.length_range] at p2
  have ih := iter_r p1.hd
  have ah := fun ds h => all_held (ds := ds) p1.hd (by omega) p1.ho h
  have ab : ∀ S, allL [.lst (b.2.map fun _ => LV.bl true)] S = .ok (.bl true) S := fun S => by
    have := all_bls (S := S) (v := .lst (b.2.map fun _ => LV.bl true)) (bs := b.2.map fun _ => true) (by rw [List.map_map]; rfl)
    rw [this]
    simp
  refine ⟨b.1, ?_⟩
  have k8 : r_law_8 (slD ns base ps cs j') b.1 = .rt (.bl true) b.1 := by
    unfold slD
    generalize ps.map LV.str = P1 at *
    generalize cs.map LV.str = C1 at *
    generalize (b.2.map fun _ => LV.bl true) = H3 at *
    simp [c_law_5, ih, wipeL, ah, ab]
  rw [← k8]
  simp only at lp
  generalize slD ns base ps cs j' = D' at *
  generalize slD ns base ps cs j = D0 at *
  simp [-r_law_8, rg, lp]
end
theorem law_true (ns : List Int) (h : ns.length ≤ 63) : ∃ S, f_law [.scr ns] [] = .ok (.bl true) S := by
  have c0 := cell_at_e ns 0 (by decide)
  have c3 := cell_at_e ns 3 (by decide)
  obtain ⟨base, hb, b0, b1⟩ : ∃ base, base = cell ns 0 % 4797 ∧ 0 ≤ base ∧ base ≤ 4796 := ⟨_, rfl, by omega, by omega⟩
  obtain ⟨ps, P, p2, p22, hp⟩ := paths_e ns (2 + cell ns 0 / 4797 % 8) (by omega) (by omega) []
  obtain ⟨cs, C, hc⟩ := currencies_e (cell ns 3) []
  have mk0 : mkO 100 f_Sums___init__ [] [] = .ok (.ref 0) [.ins 100 [.ref 1], .dcT []] := sums_make []
  have mk1 : mkO 100 f_Sums___init__ [] [.ins 100 [.ref 1], .dcT []] = .ok (.ref 2) [.ins 100 [.ref 1], .dcT [], .ins 100 [.ref 3], .dcT []] := sums_make [.ins 100 [.ref 1], .dcT []]
  obtain ⟨S0, hS0⟩ : ∃ S0 : Sto, S0 = [.ins 100 [.ref 1], .dcT [], .ins 100 [.ref 3], .dcT [], .lst [.lst [], .lst []], .lst []] := ⟨_, rfl⟩
  have w0 : St cs S0 (fun _ => []) (fun _ => []) [] := by
    rw [hS0]
    refine ⟨fun i hi => ?_, rfl, rfl, fun i j _ _ _ ks ks' n g => (by cases g), fun i _ x hx => (by cases hx), fun v hv => (by cases hv)⟩
    rcases (show i = 0 ∨ i = 1 by omega) with rfl | rfl
    · exact (sums_new []).app (U := [.ins 100 [.ref 3], .dcT [], .lst [.lst [], .lst []], .lst []])
    · exact (sums_new [.ins 100 [.ref 1], .dcT []]).app (U := [.lst [.lst [], .lst []], .lst []])
  obtain ⟨mn, hmn, mn2⟩ : ∃ mn : Int, (∀ S, minU [.int (ns.length : Int), .int 18] S = .ok (.int mn) S) ∧ (mn = ns.length ∧ ns.length ≤ 18 ∨ mn = 18 ∧ 18 ≤ ns.length) := by
    by_cases q : (18 : Int) < (ns.length : Int)
    · exact ⟨18, fun S => by simp; omega, .inr ⟨rfl, by omega⟩⟩
    · exact ⟨ns.length, fun S => by simp; omega, .inl ⟨rfl, by omega⟩⟩
  obtain ⟨n, hn, hl, rg⟩ : ∃ n : Nat, n ≤ 14 ∧ (n = 0 ∨ 4 + n ≤ ns.length) ∧ ∀ S, rng2O [.int 4, .int mn] S = .ok (itOf (rng 4 n)) S :=
    ⟨(mn - 4).toNat, by omega, by omega, fun S => rng2_e (by decide) (by decide) (by omega) (by omega)⟩
  obtain ⟨S1, tv1, M1, h1, j1, lp, w1, m1, l1⟩ := loop (ns := ns) (ps := ps) (by omega) (by omega) C b0 b1 w0 (fun _ _ => rfl) rfl n hn hl (none, none, none, none, none, none, none, none, none, none, none)
  obtain ⟨S2, t2⟩ := last_e (ns := ns) (ps := ps) (base := base) C (by omega) w1 m1 l1 j1
  have ln : ∀ S, lenL [.scr ns] S = .ok (.int (ns.length : Int)) S := fun S => rfl
  have lp' : forS (gNm 7) b_law_1 [some (.scr ns), some (.int base), some (.lst (ps.map .str)), some (.lst (cs.map .str)), some (.lst [.ref 0, .ref 2]), some (.ref 4), some (.ref 5), none, none, none, none, none, none, none, none, none, none, none] (.ok (itOf (rng 4 n)) S0) = .nx (slD ns base ps cs j1) S1 := lp
  have key : f_law [.scr ns] [] = gcF [] (fin (r_law_7 (slD ns base ps cs j1) S1)) := by
    rw [hS0] at lp'
    generalize slD ns base ps cs j1 = SD at *
    generalize ps.map LV.str = P1 at *
    generalize cs.map LV.str = C1 at *
    simp [-r_law_7, f_law, e_fn, g_law, c0, c3, mod_ii, div_ii, ← hb, hp, hc, mk0, mk1, ln, hmn, rg, lp']
  rw [key, t2]
  exact gc_bl
end K16


set_option Elab.async false
set_option linter.all false
set_option maxRecDepth 100000
set_option maxHeartbeats 4000000

namespace K16
open PySem PySem.Spec PyProof.Rows L2 LL
theorem all_mk {l : PySem.W.OpenLaw} {w : World} {K : PySem.W.Frag} {h : Heap} {mg : Str → Option Value} {fa : Addr} (X : K.In h) (G : h.Ns mainGlobals mg) (hfa : mg "law" = some (.ref fa))
    {kC_Sums : Addr} (kg_Sums : PySem.W.nsIn K mainGlobals "Sums" = some (some (.ref kC_Sums))) (kp_Sums : PySem.W.plainGet K kC_Sums Str.empty = true) (kh_Sums : PySem.W.hasDictIn K kC_Sums = true) (ko_Sums : PySem.W.plainOver K kC_Sums = true) (ks_Sums : PySem.W.findIn K (.ref kC_Sums) "__setattr__" = some (some (.builtin "object.__setattr__")))
    (kn_Sums_kept : PySem.W.findIn K (.ref kC_Sums) "kept" = some none)
    (km_Sums : PySem.W.makesIn K kC_Sums = true) (kk_Sums : PySem.W.keepIn K (.ref kC_Sums) = true)
    {f0 : Addr} {od0 an0 : Option Addr} {sl0 : Array (Option Value)} {oc0 kV0 dc0 pm0 cd0 ct0 : Value}
    (a0 : PySem.W.nsIn K mainGlobals "has_leap_day" = some (some (.ref f0)))
    (l0 : K.lookup f0 = some ⟨oc0, od0, .func (PySem.W.fnOf "has_leap_day" "has_leap_day" (defArgs s_has_leap_day) (defBody s_has_leap_day) (defScope s_has_leap_day) .none kV0 dc0 pm0 an0 cd0 ct0), sl0⟩) (c0 : PySem.W.codeIn K cd0 "has_leap_day" = true) (k0 : PySem.W.keepIn K (.ref f0) = true)
    {f1 : Addr} {od1 an1 : Option Addr} {sl1 : Array (Option Value)} {oc1 kV1 dc1 pm1 cd1 ct1 : Value}
    (a1 : PySem.W.nsIn K mainGlobals "days_ahead" = some (some (.ref f1)))
    (l1 : K.lookup f1 = some ⟨oc1, od1, .func (PySem.W.fnOf "days_ahead" "days_ahead" (defArgs s_days_ahead) (defBody s_days_ahead) (defScope s_days_ahead) .none kV1 dc1 pm1 an1 cd1 ct1), sl1⟩) (c1 : PySem.W.codeIn K cd1 "days_ahead" = true) (k1 : PySem.W.keepIn K (.ref f1) = true)
    {f2 : Addr} {od2 an2 : Option Addr} {sl2 : Array (Option Value)} {oc2 kV2 dc2 pm2 cd2 ct2 : Value}
    (a2 : PySem.W.nsIn K mainGlobals "days_in" = some (some (.ref f2)))
    (l2 : K.lookup f2 = some ⟨oc2, od2, .func (PySem.W.fnOf "days_in" "days_in" (defArgs s_days_in) (defBody s_days_in) (defScope s_days_in) .none kV2 dc2 pm2 an2 cd2 ct2), sl2⟩) (c2 : PySem.W.codeIn K cd2 "days_in" = true) (k2 : PySem.W.keepIn K (.ref f2) = true)
    {f3 : Addr} {od3 an3 : Option Addr} {sl3 : Array (Option Value)} {oc3 kV3 dc3 pm3 cd3 ct3 : Value}
    (a3 : PySem.W.nsIn K mainGlobals "parts_of" = some (some (.ref f3)))
    (l3 : K.lookup f3 = some ⟨oc3, od3, .func (PySem.W.fnOf "parts_of" "parts_of" (defArgs s_parts_of) (defBody s_parts_of) (defScope s_parts_of) .none kV3 dc3 pm3 an3 cd3 ct3), sl3⟩) (c3 : PySem.W.codeIn K cd3 "parts_of" = true) (k3 : PySem.W.keepIn K (.ref f3) = true)
    {f4 : Addr} {od4 an4 : Option Addr} {sl4 : Array (Option Value)} {oc4 kV4 dc4 pm4 cd4 ct4 : Value}
    (a4 : PySem.W.nsIn K mainGlobals "month_of" = some (some (.ref f4)))
    (l4 : K.lookup f4 = some ⟨oc4, od4, .func (PySem.W.fnOf "month_of" "month_of" (defArgs s_month_of) (defBody s_month_of) (defScope s_month_of) .none kV4 dc4 pm4 an4 cd4 ct4), sl4⟩) (c4 : PySem.W.codeIn K cd4 "month_of" = true) (k4 : PySem.W.keepIn K (.ref f4) = true)
    {f5 : Addr} {od5 an5 : Option Addr} {sl5 : Array (Option Value)} {oc5 kV5 dc5 pm5 cd5 ct5 : Value}
    (a5 : PySem.W.findIn K (.ref kC_Sums) "__init__" = some (some (.ref f5))) (i5 : PySem.W.isFn K (.ref f5) = true)
    (l5 : K.lookup f5 = some ⟨oc5, od5, .func (PySem.W.fnOf "__init__" "Sums.__init__" (defArgs s_Sums___init__) (defBody s_Sums___init__) (defScope s_Sums___init__) .none kV5 dc5 pm5 an5 cd5 ct5), sl5⟩) (c5 : PySem.W.codeIn K cd5 "Sums.__init__" = true) (k5 : PySem.W.keepIn K (.ref f5) = true)
    {f6 : Addr} {od6 an6 : Option Addr} {sl6 : Array (Option Value)} {oc6 kV6 dc6 pm6 cd6 ct6 : Value}
    (a6 : PySem.W.findIn K (.ref kC_Sums) "put" = some (some (.ref f6))) (i6 : PySem.W.isFn K (.ref f6) = true)
    (l6 : K.lookup f6 = some ⟨oc6, od6, .func (PySem.W.fnOf "put" "Sums.put" (defArgs s_Sums_put) (defBody s_Sums_put) (defScope s_Sums_put) .none kV6 dc6 pm6 an6 cd6 ct6), sl6⟩) (c6 : PySem.W.codeIn K cd6 "Sums.put" = true) (k6 : PySem.W.keepIn K (.ref f6) = true)
    {f7 : Addr} {od7 an7 : Option Addr} {sl7 : Array (Option Value)} {oc7 kV7 dc7 pm7 cd7 ct7 : Value}
    (a7 : PySem.W.findIn K (.ref kC_Sums) "own" = some (some (.ref f7))) (i7 : PySem.W.isFn K (.ref f7) = true)
    (l7 : K.lookup f7 = some ⟨oc7, od7, .func (PySem.W.fnOf "own" "Sums.own" (defArgs s_Sums_own) (defBody s_Sums_own) (defScope s_Sums_own) .none kV7 dc7 pm7 an7 cd7 ct7), sl7⟩) (c7 : PySem.W.codeIn K cd7 "Sums.own" = true) (k7 : PySem.W.keepIn K (.ref f7) = true)
    {f8 : Addr} {od8 an8 : Option Addr} {sl8 : Array (Option Value)} {oc8 kV8 dc8 pm8 cd8 ct8 : Value}
    (a8 : PySem.W.findIn K (.ref kC_Sums) "standing" = some (some (.ref f8))) (i8 : PySem.W.isFn K (.ref f8) = true)
    (l8 : K.lookup f8 = some ⟨oc8, od8, .func (PySem.W.fnOf "standing" "Sums.standing" (defArgs s_Sums_standing) (defBody s_Sums_standing) (defScope s_Sums_standing) .none kV8 dc8 pm8 an8 cd8 ct8), sl8⟩) (c8 : PySem.W.codeIn K cd8 "Sums.standing" = true) (k8 : PySem.W.keepIn K (.ref f8) = true)
    {f9 : Addr} {od9 an9 : Option Addr} {sl9 : Array (Option Value)} {oc9 kV9 dc9 pm9 cd9 ct9 : Value}
    (a9 : PySem.W.findIn K (.ref kC_Sums) "currencies" = some (some (.ref f9))) (i9 : PySem.W.isFn K (.ref f9) = true)
    (l9 : K.lookup f9 = some ⟨oc9, od9, .func (PySem.W.fnOf "currencies" "Sums.currencies" (defArgs s_Sums_currencies) (defBody s_Sums_currencies) (defScope s_Sums_currencies) .none kV9 dc9 pm9 an9 cd9 ct9), sl9⟩) (c9 : PySem.W.codeIn K cd9 "Sums.currencies" = true) (k9 : PySem.W.keepIn K (.ref f9) = true)
    {f10 : Addr} {od10 an10 : Option Addr} {sl10 : Array (Option Value)} {oc10 kV10 dc10 pm10 cd10 ct10 : Value}
    (a10 : PySem.W.nsIn K mainGlobals "_law_cell_at" = some (some (.ref f10)))
    (l10 : K.lookup f10 = some ⟨oc10, od10, .func (PySem.W.fnOf "_law_cell_at" "_law_cell_at" (defArgs s__law_cell_at) (defBody s__law_cell_at) (defScope s__law_cell_at) .none kV10 dc10 pm10 an10 cd10 ct10), sl10⟩) (c10 : PySem.W.codeIn K cd10 "_law_cell_at" = true) (k10 : PySem.W.keepIn K (.ref f10) = true)
    {f11 : Addr} {od11 an11 : Option Addr} {sl11 : Array (Option Value)} {oc11 kV11 dc11 pm11 cd11 ct11 : Value}
    (a11 : PySem.W.nsIn K mainGlobals "_law_mixed" = some (some (.ref f11)))
    (l11 : K.lookup f11 = some ⟨oc11, od11, .func (PySem.W.fnOf "_law_mixed" "_law_mixed" (defArgs s__law_mixed) (defBody s__law_mixed) (defScope s__law_mixed) .none kV11 dc11 pm11 an11 cd11 ct11), sl11⟩) (c11 : PySem.W.codeIn K cd11 "_law_mixed" = true) (k11 : PySem.W.keepIn K (.ref f11) = true)
    {f12 : Addr} {od12 an12 : Option Addr} {sl12 : Array (Option Value)} {oc12 kV12 dc12 pm12 cd12 ct12 : Value}
    (a12 : PySem.W.nsIn K mainGlobals "_law_whole" = some (some (.ref f12)))
    (l12 : K.lookup f12 = some ⟨oc12, od12, .func (PySem.W.fnOf "_law_whole" "_law_whole" (defArgs s__law_whole) (defBody s__law_whole) (defScope s__law_whole) .none kV12 dc12 pm12 an12 cd12 ct12), sl12⟩) (c12 : PySem.W.codeIn K cd12 "_law_whole" = true) (k12 : PySem.W.keepIn K (.ref f12) = true)
    {f13 : Addr} {od13 an13 : Option Addr} {sl13 : Array (Option Value)} {oc13 kV13 dc13 pm13 cd13 ct13 : Value}
    (a13 : PySem.W.nsIn K mainGlobals "_law_names" = some (some (.ref f13)))
    (l13 : K.lookup f13 = some ⟨oc13, od13, .func (PySem.W.fnOf "_law_names" "_law_names" (defArgs s__law_names) (defBody s__law_names) (defScope s__law_names) .none kV13 dc13 pm13 an13 cd13 ct13), sl13⟩) (c13 : PySem.W.codeIn K cd13 "_law_names" = true) (k13 : PySem.W.keepIn K (.ref f13) = true)
    {f14 : Addr} {od14 an14 : Option Addr} {sl14 : Array (Option Value)} {oc14 kV14 dc14 pm14 cd14 ct14 : Value}
    (a14 : PySem.W.nsIn K mainGlobals "_law_paths" = some (some (.ref f14)))
    (l14 : K.lookup f14 = some ⟨oc14, od14, .func (PySem.W.fnOf "_law_paths" "_law_paths" (defArgs s__law_paths) (defBody s__law_paths) (defScope s__law_paths) .none kV14 dc14 pm14 an14 cd14 ct14), sl14⟩) (c14 : PySem.W.codeIn K cd14 "_law_paths" = true) (k14 : PySem.W.keepIn K (.ref f14) = true)
    {f15 : Addr} {od15 an15 : Option Addr} {sl15 : Array (Option Value)} {oc15 kV15 dc15 pm15 cd15 ct15 : Value}
    (a15 : PySem.W.nsIn K mainGlobals "_law_currencies" = some (some (.ref f15)))
    (l15 : K.lookup f15 = some ⟨oc15, od15, .func (PySem.W.fnOf "_law_currencies" "_law_currencies" (defArgs s__law_currencies) (defBody s__law_currencies) (defScope s__law_currencies) .none kV15 dc15 pm15 an15 cd15 ct15), sl15⟩) (c15 : PySem.W.codeIn K cd15 "_law_currencies" = true) (k15 : PySem.W.keepIn K (.ref f15) = true)
    {f16 : Addr} {od16 an16 : Option Addr} {sl16 : Array (Option Value)} {oc16 kV16 dc16 pm16 cd16 ct16 : Value}
    (a16 : PySem.W.nsIn K mainGlobals "_law_first" = some (some (.ref f16)))
    (l16 : K.lookup f16 = some ⟨oc16, od16, .func (PySem.W.fnOf "_law_first" "_law_first" (defArgs s__law_first) (defBody s__law_first) (defScope s__law_first) .none kV16 dc16 pm16 an16 cd16 ct16), sl16⟩) (c16 : PySem.W.codeIn K cd16 "_law_first" = true) (k16 : PySem.W.keepIn K (.ref f16) = true)
    {f17 : Addr} {od17 an17 : Option Addr} {sl17 : Array (Option Value)} {oc17 kV17 dc17 pm17 cd17 ct17 : Value}
    (a17 : PySem.W.nsIn K mainGlobals "_law_day" = some (some (.ref f17)))
    (l17 : K.lookup f17 = some ⟨oc17, od17, .func (PySem.W.fnOf "_law_day" "_law_day" (defArgs s__law_day) (defBody s__law_day) (defScope s__law_day) .none kV17 dc17 pm17 an17 cd17 ct17), sl17⟩) (c17 : PySem.W.codeIn K cd17 "_law_day" = true) (k17 : PySem.W.keepIn K (.ref f17) = true)
    {f18 : Addr} {od18 an18 : Option Addr} {sl18 : Array (Option Value)} {oc18 kV18 dc18 pm18 cd18 ct18 : Value}
    (a18 : PySem.W.nsIn K mainGlobals "_law_amount" = some (some (.ref f18)))
    (l18 : K.lookup f18 = some ⟨oc18, od18, .func (PySem.W.fnOf "_law_amount" "_law_amount" (defArgs s__law_amount) (defBody s__law_amount) (defScope s__law_amount) .none kV18 dc18 pm18 an18 cd18 ct18), sl18⟩) (c18 : PySem.W.codeIn K cd18 "_law_amount" = true) (k18 : PySem.W.keepIn K (.ref f18) = true)
    {f19 : Addr} {od19 an19 : Option Addr} {sl19 : Array (Option Value)} {oc19 kV19 dc19 pm19 cd19 ct19 : Value}
    (a19 : PySem.W.nsIn K mainGlobals "_law_rows" = some (some (.ref f19)))
    (l19 : K.lookup f19 = some ⟨oc19, od19, .func (PySem.W.fnOf "_law_rows" "_law_rows" (defArgs s__law_rows) (defBody s__law_rows) (defScope s__law_rows) .none kV19 dc19 pm19 an19 cd19 ct19), sl19⟩) (c19 : PySem.W.codeIn K cd19 "_law_rows" = true) (k19 : PySem.W.keepIn K (.ref f19) = true)
    {f20 : Addr} {od20 an20 : Option Addr} {sl20 : Array (Option Value)} {oc20 kV20 dc20 pm20 cd20 ct20 : Value}
    (a20 : PySem.W.nsIn K mainGlobals "_law_stretch" = some (some (.ref f20)))
    (l20 : K.lookup f20 = some ⟨oc20, od20, .func (PySem.W.fnOf "_law_stretch" "_law_stretch" (defArgs s__law_stretch) (defBody s__law_stretch) (defScope s__law_stretch) .none kV20 dc20 pm20 an20 cd20 ct20), sl20⟩) (c20 : PySem.W.codeIn K cd20 "_law_stretch" = true) (k20 : PySem.W.keepIn K (.ref f20) = true)
    {f21 : Addr} {od21 an21 : Option Addr} {sl21 : Array (Option Value)} {oc21 kV21 dc21 pm21 cd21 ct21 : Value}
    (a21 : PySem.W.nsIn K mainGlobals "_law_answers" = some (some (.ref f21)))
    (l21 : K.lookup f21 = some ⟨oc21, od21, .func (PySem.W.fnOf "_law_answers" "_law_answers" (defArgs s__law_answers) (defBody s__law_answers) (defScope s__law_answers) .none kV21 dc21 pm21 an21 cd21 ct21), sl21⟩) (c21 : PySem.W.codeIn K cd21 "_law_answers" = true) (k21 : PySem.W.keepIn K (.ref f21) = true)
    {f22 : Addr} {od22 an22 : Option Addr} {sl22 : Array (Option Value)} {oc22 kV22 dc22 pm22 cd22 ct22 : Value}
    (a22 : PySem.W.nsIn K mainGlobals "_law_told" = some (some (.ref f22)))
    (l22 : K.lookup f22 = some ⟨oc22, od22, .func (PySem.W.fnOf "_law_told" "_law_told" (defArgs s__law_told) (defBody s__law_told) (defScope s__law_told) .none kV22 dc22 pm22 an22 cd22 ct22), sl22⟩) (c22 : PySem.W.codeIn K cd22 "_law_told" = true) (k22 : PySem.W.keepIn K (.ref f22) = true)
    {f23 : Addr} {od23 an23 : Option Addr} {sl23 : Array (Option Value)} {oc23 kV23 dc23 pm23 cd23 ct23 : Value}
    (a23 : PySem.W.nsIn K mainGlobals "law" = some (some (.ref f23)))
    (l23 : K.lookup f23 = some ⟨oc23, od23, .func (PySem.W.fnOf "law" "law" (defArgs s_law) (defBody s_law) (defScope s_law) .none kV23 dc23 pm23 an23 cd23 ct23), sl23⟩) (c23 : PySem.W.codeIn K cd23 "law" = true) (k23 : PySem.W.keepIn K (.ref f23) = true)
    (zb_all : PySem.W.nsIn K mainGlobals "all" = some none)
    (zb_bool : PySem.W.nsIn K mainGlobals "bool" = some none)
    (zb_int : PySem.W.nsIn K mainGlobals "int" = some none)
    (zb_isinstance : PySem.W.nsIn K mainGlobals "isinstance" = some none)
    (zb_len : PySem.W.nsIn K mainGlobals "len" = some none)
    (zb_list : PySem.W.nsIn K mainGlobals "list" = some none)
    (zb_min : PySem.W.nsIn K mainGlobals "min" = some none)
    (zb_range : PySem.W.nsIn K mainGlobals "range" = some none)
    (zb_set : PySem.W.nsIn K mainGlobals "set" = some none)
    (zb_sorted : PySem.W.nsIn K mainGlobals "sorted" = some none)
    (zb_sum : PySem.W.nsIn K mainGlobals "sum" = some none)
    (zb_tuple : PySem.W.nsIn K mainGlobals "tuple" = some none)
    {tt_FIRST_YEAR : Tok} (vc_FIRST_YEAR : PySem.W.nsIn K mainGlobals "FIRST_YEAR" = some (some (.int 2000 tt_FIRST_YEAR)))
    {ta_LONG : Addr} {td_LONG : Option Addr} {ti_LONG : Array Value} {tn_LONG : Nat} {ts_LONG : Array (Option Value)} (vc_LONG : PySem.W.nsIn K mainGlobals "LONG" = some (some (.ref ta_LONG))) (vl_LONG : K.lookup ta_LONG = some ⟨.type "tuple", td_LONG, .seq ti_LONG tn_LONG, ts_LONG⟩) (vz_LONG : ti_LONG.size ≤ sizeLine) (vr_LONG : Vals [.int 31, .int 28, .int 31, .int 30, .int 31, .int 30, .int 31, .int 31, .int 30, .int 31, .int 30, .int 31] ti_LONG.toList)
    : ∃ fd : FuncData, (∀ (s : Shared) (v : Value), BindsTo s fd ⟨[v], []⟩ [("_law_script", v)]) ∧ ∀ base : Heap, K.In base → base.Ns mainGlobals mg → FnOk l.prog w K mg base (L2N.CX l.prog w) 12 fa fd ["_law_script"] (spTop K) := by
  have e : f23 = fa := by
    have q := (PySem.W.mg_of X G a23).symm.trans hfa
    injection q with q
    injection q
  subst e
  let t : Txt K mg := {
    C_Sums := kC_Sums,
    L_Sums := ⟨kp_Sums, kh_Sums, ko_Sums, ks_Sums⟩,
    G_Sums := PySem.W.mg_of X G kg_Sums,
    A_Sums_kept := kn_Sums_kept,
    a_has_leap_day := f0,
    d_has_leap_day := _,
    F_has_leap_day := fun_mk (st := s_has_leap_day) l0 c0 k0,
    b_has_leap_day := (fun_mk (st := s_has_leap_day) l0 c0 k0).binds (ps := ["year"]) fun _ _ _ _ _ _ us hl => match us, hl with | [_], _ => rfl,
    m_has_leap_day := PySem.W.mg_of X G a0,
    a_days_ahead := f1,
    d_days_ahead := _,
    F_days_ahead := fun_mk (st := s_days_ahead) l1 c1 k1,
    b_days_ahead := (fun_mk (st := s_days_ahead) l1 c1 k1).binds (ps := ["year"]) fun _ _ _ _ _ _ us hl => match us, hl with | [_], _ => rfl,
    m_days_ahead := PySem.W.mg_of X G a1,
    a_days_in := f2,
    d_days_in := _,
    F_days_in := fun_mk (st := s_days_in) l2 c2 k2,
    b_days_in := (fun_mk (st := s_days_in) l2 c2 k2).binds (ps := ["year", "month"]) fun _ _ _ _ _ _ us hl => match us, hl with | [_, _], _ => rfl,
    m_days_in := PySem.W.mg_of X G a2,
    a_parts_of := f3,
    d_parts_of := _,
    F_parts_of := fun_mk (st := s_parts_of) l3 c3 k3,
    b_parts_of := (fun_mk (st := s_parts_of) l3 c3 k3).binds (ps := ["day"]) fun _ _ _ _ _ _ us hl => match us, hl with | [_], _ => rfl,
    m_parts_of := PySem.W.mg_of X G a3,
    a_month_of := f4,
    d_month_of := _,
    F_month_of := fun_mk (st := s_month_of) l4 c4 k4,
    b_month_of := (fun_mk (st := s_month_of) l4 c4 k4).binds (ps := ["day"]) fun _ _ _ _ _ _ us hl => match us, hl with | [_], _ => rfl,
    m_month_of := PySem.W.mg_of X G a4,
    Mk_Sums := ⟨km_Sums, a5, i5, kk_Sums⟩,
    a_Sums___init__ := f5,
    d_Sums___init__ := _,
    F_Sums___init__ := fun_mk (st := s_Sums___init__) l5 c5 k5,
    b_Sums___init__ := (fun_mk (st := s_Sums___init__) l5 c5 k5).binds (ps := ["self"]) fun _ _ _ _ _ _ us hl => match us, hl with | [_], _ => rfl,
    E_Sums_put := ⟨a6, i6, k6⟩,
    a_Sums_put := f6,
    d_Sums_put := _,
    F_Sums_put := fun_mk (st := s_Sums_put) l6 c6 k6,
    b_Sums_put := (fun_mk (st := s_Sums_put) l6 c6 k6).binds (ps := ["self", "booking"]) fun _ _ _ _ _ _ us hl => match us, hl with | [_, _], _ => rfl,
    E_Sums_own := ⟨a7, i7, k7⟩,
    a_Sums_own := f7,
    d_Sums_own := _,
    F_Sums_own := fun_mk (st := s_Sums_own) l7 c7 k7,
    b_Sums_own := (fun_mk (st := s_Sums_own) l7 c7 k7).binds (ps := ["self", "path", "currency", "first", "last"]) fun _ _ _ _ _ _ us hl => match us, hl with | [_, _, _, _, _], _ => rfl,
    E_Sums_standing := ⟨a8, i8, k8⟩,
    a_Sums_standing := f8,
    d_Sums_standing := _,
    F_Sums_standing := fun_mk (st := s_Sums_standing) l8 c8 k8,
    b_Sums_standing := (fun_mk (st := s_Sums_standing) l8 c8 k8).binds (ps := ["self", "path", "currency", "month"]) fun _ _ _ _ _ _ us hl => match us, hl with | [_, _, _, _], _ => rfl,
    E_Sums_currencies := ⟨a9, i9, k9⟩,
    a_Sums_currencies := f9,
    d_Sums_currencies := _,
    F_Sums_currencies := fun_mk (st := s_Sums_currencies) l9 c9 k9,
    b_Sums_currencies := (fun_mk (st := s_Sums_currencies) l9 c9 k9).binds (ps := ["self", "path"]) fun _ _ _ _ _ _ us hl => match us, hl with | [_, _], _ => rfl,
    a__law_cell_at := f10,
    d__law_cell_at := _,
    F__law_cell_at := fun_mk (st := s__law_cell_at) l10 c10 k10,
    b__law_cell_at := (fun_mk (st := s__law_cell_at) l10 c10 k10).binds (ps := ["_law_script", "_law_k"]) fun _ _ _ _ _ _ us hl => match us, hl with | [_, _], _ => rfl,
    m__law_cell_at := PySem.W.mg_of X G a10,
    a__law_mixed := f11,
    d__law_mixed := _,
    F__law_mixed := fun_mk (st := s__law_mixed) l11 c11 k11,
    b__law_mixed := (fun_mk (st := s__law_mixed) l11 c11 k11).binds (ps := ["_law_cell", "_law_k"]) fun _ _ _ _ _ _ us hl => match us, hl with | [_, _], _ => rfl,
    m__law_mixed := PySem.W.mg_of X G a11,
    a__law_whole := f12,
    d__law_whole := _,
    F__law_whole := fun_mk (st := s__law_whole) l12 c12 k12,
    b__law_whole := (fun_mk (st := s__law_whole) l12 c12 k12).binds (ps := ["_law_found"]) fun _ _ _ _ _ _ us hl => match us, hl with | [_], _ => rfl,
    m__law_whole := PySem.W.mg_of X G a12,
    a__law_names := f13,
    d__law_names := _,
    F__law_names := fun_mk (st := s__law_names) l13 c13 k13,
    b__law_names := (fun_mk (st := s__law_names) l13 c13 k13).binds (ps := ["_law_cell"]) fun _ _ _ _ _ _ us hl => match us, hl with | [_], _ => rfl,
    m__law_names := PySem.W.mg_of X G a13,
    a__law_paths := f14,
    d__law_paths := _,
    F__law_paths := fun_mk (st := s__law_paths) l14 c14 k14,
    b__law_paths := (fun_mk (st := s__law_paths) l14 c14 k14).binds (ps := ["_law_script", "_law_many"]) fun _ _ _ _ _ _ us hl => match us, hl with | [_, _], _ => rfl,
    m__law_paths := PySem.W.mg_of X G a14,
    a__law_currencies := f15,
    d__law_currencies := _,
    F__law_currencies := fun_mk (st := s__law_currencies) l15 c15 k15,
    b__law_currencies := (fun_mk (st := s__law_currencies) l15 c15 k15).binds (ps := ["_law_cell"]) fun _ _ _ _ _ _ us hl => match us, hl with | [_], _ => rfl,
    m__law_currencies := PySem.W.mg_of X G a15,
    a__law_first := f16,
    d__law_first := _,
    F__law_first := fun_mk (st := s__law_first) l16 c16 k16,
    b__law_first := (fun_mk (st := s__law_first) l16 c16 k16).binds (ps := ["_law_month"]) fun _ _ _ _ _ _ us hl => match us, hl with | [_], _ => rfl,
    m__law_first := PySem.W.mg_of X G a16,
    a__law_day := f17,
    d__law_day := _,
    F__law_day := fun_mk (st := s__law_day) l17 c17 k17,
    b__law_day := (fun_mk (st := s__law_day) l17 c17 k17).binds (ps := ["_law_cell", "_law_month"]) fun _ _ _ _ _ _ us hl => match us, hl with | [_, _], _ => rfl,
    m__law_day := PySem.W.mg_of X G a17,
    a__law_amount := f18,
    d__law_amount := _,
    F__law_amount := fun_mk (st := s__law_amount) l18 c18 k18,
    b__law_amount := (fun_mk (st := s__law_amount) l18 c18 k18).binds (ps := ["_law_cell"]) fun _ _ _ _ _ _ us hl => match us, hl with | [_], _ => rfl,
    m__law_amount := PySem.W.mg_of X G a18,
    a__law_rows := f19,
    d__law_rows := _,
    F__law_rows := fun_mk (st := s__law_rows) l19 c19 k19,
    b__law_rows := (fun_mk (st := s__law_rows) l19 c19 k19).binds (ps := ["_law_cell", "_law_paths_here", "_law_currencies_here"]) fun _ _ _ _ _ _ us hl => match us, hl with | [_, _, _], _ => rfl,
    m__law_rows := PySem.W.mg_of X G a19,
    a__law_stretch := f20,
    d__law_stretch := _,
    F__law_stretch := fun_mk (st := s__law_stretch) l20 c20 k20,
    b__law_stretch := (fun_mk (st := s__law_stretch) l20 c20 k20).binds (ps := ["_law_cell", "_law_base"]) fun _ _ _ _ _ _ us hl => match us, hl with | [_, _], _ => rfl,
    m__law_stretch := PySem.W.mg_of X G a20,
    a__law_answers := f21,
    d__law_answers := _,
    F__law_answers := fun_mk (st := s__law_answers) l21 c21 k21,
    b__law_answers := (fun_mk (st := s__law_answers) l21 c21 k21).binds (ps := ["_law_found", "_law_path", "_law_currency", "_law_stretch_here", "_law_turn"]) fun _ _ _ _ _ _ us hl => match us, hl with | [_, _, _, _, _], _ => rfl,
    m__law_answers := PySem.W.mg_of X G a21,
    a__law_told := f22,
    d__law_told := _,
    F__law_told := fun_mk (st := s__law_told) l22 c22 k22,
    b__law_told := (fun_mk (st := s__law_told) l22 c22 k22).binds (ps := ["_law_found", "_law_rows_here", "_law_path", "_law_currency", "_law_stretch_here", "_law_held", "_law_turn"]) fun _ _ _ _ _ _ us hl => match us, hl with | [_, _, _, _, _, _, _], _ => rfl,
    m__law_told := PySem.W.mg_of X G a22,
    a_law := f23,
    d_law := _,
    F_law := fun_mk (st := s_law) l23 c23 k23,
    b_law := (fun_mk (st := s_law) l23 c23 k23).binds (ps := ["_law_script"]) fun _ _ _ _ _ _ us hl => match us, hl with | [_], _ => rfl,
    m_law := PySem.W.mg_of X G a23,
    z_all := PySem.W.mg_none_of X G zb_all,
    z_bool := PySem.W.mg_none_of X G zb_bool,
    z_int := PySem.W.mg_none_of X G zb_int,
    z_isinstance := PySem.W.mg_none_of X G zb_isinstance,
    z_len := PySem.W.mg_none_of X G zb_len,
    z_list := PySem.W.mg_none_of X G zb_list,
    z_min := PySem.W.mg_none_of X G zb_min,
    z_range := PySem.W.mg_none_of X G zb_range,
    z_set := PySem.W.mg_none_of X G zb_set,
    z_sorted := PySem.W.mg_none_of X G zb_sorted,
    z_sum := PySem.W.mg_none_of X G zb_sum,
    z_tuple := PySem.W.mg_none_of X G zb_tuple,
    c_FIRST_YEAR := ⟨_, PySem.W.mg_of X G vc_FIRST_YEAR, ⟨_, rfl⟩⟩,
    c_LONG := ⟨ta_LONG, PySem.W.mg_of X G vc_LONG, fun H => .inr ⟨_, _, _, vl_LONG, rfl, rfl, vz_LONG, vr_LONG⟩⟩ }
  exact ⟨t.d_law, fun s v => .of_eq rfl, fun base _ _ => top_law (ok_law t) fun ns hn => law_true ns hn⟩
end K16
open PySem PySem.W PyProof.Rows
set_option maxHeartbeats 0 in
theorem PySem.Challenge.cw_evenhall_k16_sums_by_months_holds : PySem.Challenge.rw_evenhall_k16_sums_by_months.Holds := by
  w_on; o_law; k_head; (case hw => w_witness2)
  k_fill
  refine L2.walk_of (l := PySem.Challenge.rw_evenhall_k16_sums_by_months) (n := 63) (k := 12) (x := "_law_script") (CX := fun w => L2N.CX PySem.Challenge.pw_evenhall_k16_sums_by_months w) (sp := fun w => LL.spTop _) rfl (by decide) rfl ⟨rfl, by decide, by decide⟩ (fun w h Y => PySem.W.kIn_of Y) ?F (fun _ _ a ns hl hO hS => LL.top_sp hl hO hS) (fun _ _ _ _ _ h => LL.top_no h)
  case F =>
    intro w mg fa h KX G hmg
    refine' K16.all_mk KX G hmg ?kg_Sums ?kp_Sums ?kh_Sums ?ko_Sums ?ks_Sums ?kn_Sums_kept ?km_Sums ?kk_Sums ?a0 ?l0 ?c0 ?k0 ?a1 ?l1 ?c1 ?k1 ?a2 ?l2 ?c2 ?k2 ?a3 ?l3 ?c3 ?k3 ?a4 ?l4 ?c4 ?k4 ?a5 ?i5 ?l5 ?c5 ?k5 ?a6 ?i6 ?l6 ?c6 ?k6 ?a7 ?i7 ?l7 ?c7 ?k7 ?a8 ?i8 ?l8 ?c8 ?k8 ?a9 ?i9 ?l9 ?c9 ?k9 ?a10 ?l10 ?c10 ?k10 ?a11 ?l11 ?c11 ?k11 ?a12 ?l12 ?c12 ?k12 ?a13 ?l13 ?c13 ?k13 ?a14 ?l14 ?c14 ?k14 ?a15 ?l15 ?c15 ?k15 ?a16 ?l16 ?c16 ?k16 ?a17 ?l17 ?c17 ?k17 ?a18 ?l18 ?c18 ?k18 ?a19 ?l19 ?c19 ?k19 ?a20 ?l20 ?c20 ?k20 ?a21 ?l21 ?c21 ?k21 ?a22 ?l22 ?c22 ?k22 ?a23 ?l23 ?c23 ?k23 ?zb_all ?zb_bool ?zb_int ?zb_isinstance ?zb_len ?zb_list ?zb_min ?zb_range ?zb_set ?zb_sorted ?zb_sum ?zb_tuple ?vc_FIRST_YEAR ?vc_LONG ?vl_LONG ?vz_LONG ?vr_LONG
    (case kg_Sums => k_is); (case kp_Sums => k_is); (case kh_Sums => k_is); (case ko_Sums => k_is); (case ks_Sums => k_is); (case kn_Sums_kept => k_is); (case km_Sums => k_is); (case kk_Sums => k_is); (case a0 => k_is); (case l0 => k_is); (case c0 => k_is); (case k0 => k_is); (case a1 => k_is); (case l1 => k_is); (case c1 => k_is); (case k1 => k_is); (case a2 => k_is); (case l2 => k_is); (case c2 => k_is); (case k2 => k_is); (case a3 => k_is); (case l3 => k_is); (case c3 => k_is); (case k3 => k_is); (case a4 => k_is); (case l4 => k_is); (case c4 => k_is); (case k4 => k_is); (case a5 => k_is); (case i5 => k_is); (case l5 => k_is); (case c5 => k_is); (case k5 => k_is); (case a6 => k_is); (case i6 => k_is); (case l6 => k_is); (case c6 => k_is); (case k6 => k_is); (case a7 => k_is); (case i7 => k_is); (case l7 => k_is); (case c7 => k_is); (case k7 => k_is); (case a8 => k_is); (case i8 => k_is); (case l8 => k_is); (case c8 => k_is); (case k8 => k_is); (case a9 => k_is); (case i9 => k_is); (case l9 => k_is); (case c9 => k_is); (case k9 => k_is); (case a10 => k_is); (case l10 => k_is); (case c10 => k_is); (case k10 => k_is); (case a11 => k_is); (case l11 => k_is); (case c11 => k_is); (case k11 => k_is); (case a12 => k_is); (case l12 => k_is); (case c12 => k_is); (case k12 => k_is); (case a13 => k_is); (case l13 => k_is); (case c13 => k_is); (case k13 => k_is); (case a14 => k_is); (case l14 => k_is); (case c14 => k_is); (case k14 => k_is); (case a15 => k_is); (case l15 => k_is); (case c15 => k_is); (case k15 => k_is); (case a16 => k_is); (case l16 => k_is); (case c16 => k_is); (case k16 => k_is); (case a17 => k_is); (case l17 => k_is); (case c17 => k_is); (case k17 => k_is); (case a18 => k_is); (case l18 => k_is); (case c18 => k_is); (case k18 => k_is); (case a19 => k_is); (case l19 => k_is); (case c19 => k_is); (case k19 => k_is); (case a20 => k_is); (case l20 => k_is); (case c20 => k_is); (case k20 => k_is); (case a21 => k_is); (case l21 => k_is); (case c21 => k_is); (case k21 => k_is); (case a22 => k_is); (case l22 => k_is); (case c22 => k_is); (case k22 => k_is); (case a23 => k_is); (case l23 => k_is); (case c23 => k_is); (case k23 => k_is); (case zb_all => k_is); (case zb_bool => k_is); (case zb_int => k_is); (case zb_isinstance => k_is); (case zb_len => k_is); (case zb_list => k_is); (case zb_min => k_is); (case zb_range => k_is); (case zb_set => k_is); (case zb_sorted => k_is); (case zb_sum => k_is); (case zb_tuple => k_is); (case vc_FIRST_YEAR => k_is); (case vc_LONG => k_is); (case vl_LONG => k_is)
    (case vz_LONG => decide); (case vr_LONG => repeat (first | exact .nil | refine .cons ⟨_, rfl⟩ ?_))

