import PyProof.Rows.All
import Wide.All
import OpenK.AllK
import Wide.FinOn
import HandS.ForMost
import HandS.Walk
import HandS.IsInst
import HandS.SetKeys
import HandS.Style
import HandS.RaiseMore
import HandS.TupLen
import HandS.SortInts
import HandS.DictComp
import HandS.Property
import HandS.Conv
import KE.SortData
import HandS.Wide
import PyProof.InstNe
import HandS.WordsDict
import HandS.Text
import PyProof.StrOps2
import KE.RegKIsAll
import PySem.Challenge.RW_instepagain_k05_readers
set_option Elab.async false
set_option linter.all false
set_option maxRecDepth 100000
set_option maxHeartbeats 2000000
/-! DL: values as data (trees, and pointers into a small store), over the hand layer. -/
namespace DL
open PySem PySem.Spec PyProof.Rows L2

/-- a value as data: scalars, things that never change any more, a pointer to a thing that may change, the script -/
inductive D where
  | non | bl (b : Bool) | int (i : Int) | str (x : Str)
  | lst (xs : List D) | tup (xs : List D) | ktp (xs : List D) | dK (kvs : List (Key × D)) | dT (kvs : List (List Key × D)) | obj (c : Nat) (fs : List (Str × D))
  | ptr (k : Nat) | scr | ty (n : String) | cls (c : Nat)
  deriving Inhabited
/-- a thing that may change -/
inductive Ob where
  | lst (xs : List D) | dK (kvs : List (Key × D)) | dT (kvs : List (List Key × D)) | ins (c : Nat) (fs : List (Str × D))
  /-- dicts that a loop walks -/
  | lkK (kvs : List (Key × D)) | lkT (kvs : List (List Key × D))
  deriving Inhabited
/-- which object stands in a dict that is walked -/
abbrev Lk := Nat → Option (Obj × HO)
/-- how many own classes (but for errors) the text has -/
abbrev nCls : Nat := 2
structure Ctx where
  cls : Nat → Addr
  ns : List Int
def keyD : Key → D
  | .inl i => .int i
  | .inr x => .str x
def keyT (ks : List Key) : D := .tup (ks.map keyD)

section
variable (K : PySem.W.Frag) (C : Ctx) (F : Hp) (π : List Addr)
mutual
def Rep : D → V → Prop
  | .non, v => v = .non
  | .bl b, v => v = .bl b
  | .int i, v => v = .int i
  | .str x, v => v = .str x
  | .lst xs, v => ∃ a vs, v = .ref a ∧ F a = some (.lst vs) ∧ RepA xs vs
  | .tup xs, v => ∃ a vs, v = .ref a ∧ F a = some (.tup vs) ∧ RepA xs vs
  | .ktp xs, v => ∃ a vs, v = .ref a ∧ SqT K F a vs ∧ RepA xs vs
  | .dK kvs, v => ∃ a l, v = .ref a ∧ F a = some (.dK l) ∧ RepK kvs l
  | .dT kvs, v => ∃ a l, v = .ref a ∧ F a = some (.dT l) ∧ RepT kvs l
  | .obj c fs, v => ∃ a dx l, v = .ref a ∧ F a = some (.ins (C.cls c) dx l) ∧ RepF fs l
  | .ptr k, v => ∃ a, v = .ref a ∧ π[k]? = some a
  | .scr, v => ∃ a, v = .ref a ∧ SqL K F a (C.ns.map V.int)
  | .ty n, v => v = .ty n
  | .cls c, v => v = .ref (C.cls c)
def RepA : List D → List V → Prop
  | [], vs => vs = []
  | x :: xs, vs => ∃ v r, vs = v :: r ∧ Rep x v ∧ RepA xs r
def RepK : List (Key × D) → List (Key × V) → Prop
  | [], l => l = []
  | (k, x) :: r, l => ∃ v l', l = (k, v) :: l' ∧ Rep x v ∧ RepK r l'
def RepT : List (List Key × D) → List (List Key × V) → Prop
  | [], l => l = []
  | (k, x) :: r, l => ∃ v l', l = (k, v) :: l' ∧ Rep x v ∧ RepT r l'
def RepF : List (Str × D) → List (Str × V) → Prop
  | [], l => l = []
  | (f, x) :: r, l => ∃ v l', l = (f, v) :: l' ∧ Rep x v ∧ RepF r l'
end
def ObR (lo : Option (Obj × HO)) (H : Hp) (p : Addr) : Ob → Prop
  | .lkK kvs => ∃ o l, lo = some (o, .dK l) ∧ H p = some (.frz o (.dK l)) ∧ RepK K C F π kvs l
  | .lkT kvs => ∃ o l, lo = some (o, .dT l) ∧ H p = some (.frz o (.dT l)) ∧ RepT K C F π kvs l
  | .lst xs => ∃ vs, H p = some (.lst vs) ∧ RepA K C F π xs vs
  | .dK kvs => ∃ l, H p = some (.dK l) ∧ RepK K C F π kvs l
  | .dT kvs => ∃ l, H p = some (.dT l) ∧ RepT K C F π kvs l
  | .ins c fs => ∃ dx l, H p = some (.ins (C.cls c) dx l) ∧ RepF K C F π fs l
end

section
variable {K : PySem.W.Frag} {C : Ctx} {F F' F2 : Hp} {π π' π2 : List Addr}
theorem pre_get {l l' : List Addr} (h : l <+: l') {k : Nat} {a : Addr} (e : l[k]? = some a) : l'[k]? = some a := by
  obtain ⟨t, rfl⟩ := h
  rw [List.getElem?_append_left (List.getElem?_eq_some_iff.mp e).1]
  exact e
mutual
theorem Rep.mono (e : Same F F') (h : π <+: π') : ∀ (d : D) (v : V), Rep K C F π d v → Rep K C F' π' d v
  | .non, v, r => r
  | .bl b, v, r => r
  | .int i, v, r => r
  | .str x, v, r => r
  | .lst xs, v, r => by
    obtain ⟨a, vs, q1, q2, q3⟩ := r
    exact ⟨a, vs, q1, e _ _ q2, RepA.mono e h xs vs q3⟩
  | .tup xs, v, r => by
    obtain ⟨a, vs, q1, q2, q3⟩ := r
    exact ⟨a, vs, q1, e _ _ q2, RepA.mono e h xs vs q3⟩
  | .ktp xs, v, r => by
    obtain ⟨a, vs, q1, q2, q3⟩ := r
    refine ⟨a, vs, q1, ?_, RepA.mono e h xs vs q3⟩
    rcases q2 with (q2 | ⟨o, q2⟩) | q2
    · exact .inl (.inl (e _ _ q2))
    · exact .inl (.inr ⟨o, e _ _ q2⟩)
    · exact .inr q2
  | .dK kvs, v, r => by
    obtain ⟨a, l, q1, q2, q3⟩ := r
    exact ⟨a, l, q1, e _ _ q2, RepK.mono e h kvs l q3⟩
  | .dT kvs, v, r => by
    obtain ⟨a, l, q1, q2, q3⟩ := r
    exact ⟨a, l, q1, e _ _ q2, RepT.mono e h kvs l q3⟩
  | .obj c fs, v, r => by
    obtain ⟨a, dx, l, q1, q2, q3⟩ := r
    exact ⟨a, dx, l, q1, e _ _ q2, RepF.mono e h fs l q3⟩
  | .ptr k, v, r => by
    obtain ⟨a, q1, q2⟩ := r
    exact ⟨a, q1, pre_get h q2⟩
  | .scr, v, r => by
    obtain ⟨a, q1, q2⟩ := r
    exact ⟨a, q1, Same.seq e q2⟩
  | .ty n, v, r => r
  | .cls c, v, r => r
theorem RepA.mono (e : Same F F') (h : π <+: π') : ∀ (xs : List D) (vs : List V), RepA K C F π xs vs → RepA K C F' π' xs vs
  | [], vs, r => r
  | x :: xs, vs, r => by
    obtain ⟨v, t, q1, q2, q3⟩ := r
    exact ⟨v, t, q1, Rep.mono e h x v q2, RepA.mono e h xs t q3⟩
theorem RepK.mono (e : Same F F') (h : π <+: π') : ∀ (xs : List (Key × D)) (l : List (Key × V)), RepK K C F π xs l → RepK K C F' π' xs l
  | [], l, r => r
  | (k, x) :: xs, l, r => by
    obtain ⟨v, t, q1, q2, q3⟩ := r
    exact ⟨v, t, q1, Rep.mono e h x v q2, RepK.mono e h xs t q3⟩
theorem RepT.mono (e : Same F F') (h : π <+: π') : ∀ (xs : List (List Key × D)) (l : List (List Key × V)), RepT K C F π xs l → RepT K C F' π' xs l
  | [], l, r => r
  | (k, x) :: xs, l, r => by
    obtain ⟨v, t, q1, q2, q3⟩ := r
    exact ⟨v, t, q1, Rep.mono e h x v q2, RepT.mono e h xs t q3⟩
theorem RepF.mono (e : Same F F') (h : π <+: π') : ∀ (xs : List (Str × D)) (l : List (Str × V)), RepF K C F π xs l → RepF K C F' π' xs l
  | [], l, r => r
  | (f, x) :: xs, l, r => by
    obtain ⟨v, t, q1, q2, q3⟩ := r
    exact ⟨v, t, q1, Rep.mono e h x v q2, RepF.mono e h xs t q3⟩
end
theorem ObR.mono {lo : Option (Obj × HO)} {H : Hp} {p : Addr} (e : Same F F') (h : π <+: π') : ∀ {o : Ob}, ObR K C F π lo H p o → ObR K C F' π' lo H p o
  | .lst xs, ⟨vs, q, r⟩ => ⟨vs, q, RepA.mono e h xs vs r⟩
  | .dK xs, ⟨vs, q, r⟩ => ⟨vs, q, RepK.mono e h xs vs r⟩
  | .dT xs, ⟨vs, q, r⟩ => ⟨vs, q, RepT.mono e h xs vs r⟩
  | .ins c xs, ⟨dx, vs, q, r⟩ => ⟨dx, vs, q, RepF.mono e h xs vs r⟩
  | .lkK xs, ⟨o, vs, z, q, r⟩ => ⟨o, vs, z, q, RepK.mono e h xs vs r⟩
  | .lkT xs, ⟨o, vs, z, q, r⟩ => ⟨o, vs, z, q, RepT.mono e h xs vs r⟩
theorem ObR.heap {lo : Option (Obj × HO)} {H H' : Hp} {p : Addr} (e : H' p = H p) : ∀ {o : Ob}, ObR K C F π lo H p o → ObR K C F π lo H' p o
  | .lst xs, ⟨vs, q, r⟩ => ⟨vs, e.trans q, r⟩
  | .dK xs, ⟨vs, q, r⟩ => ⟨vs, e.trans q, r⟩
  | .dT xs, ⟨vs, q, r⟩ => ⟨vs, e.trans q, r⟩
  | .ins c xs, ⟨dx, vs, q, r⟩ => ⟨dx, vs, e.trans q, r⟩
  | .lkK xs, ⟨o, vs, z, q, r⟩ => ⟨o, vs, z, e.trans q, r⟩
  | .lkT xs, ⟨o, vs, z, q, r⟩ => ⟨o, vs, z, e.trans q, r⟩
theorem ObR.there {lo : Option (Obj × HO)} {H : Hp} {p : Addr} : ∀ {o : Ob}, ObR K C F π lo H p o → ∃ x, H p = some x
  | .lst xs, ⟨vs, q, _⟩ => ⟨_, q⟩
  | .dK xs, ⟨vs, q, _⟩ => ⟨_, q⟩
  | .dT xs, ⟨vs, q, _⟩ => ⟨_, q⟩
  | .ins c xs, ⟨dx, vs, q, _⟩ => ⟨_, q⟩
  | .lkK xs, ⟨o, vs, z, q, _⟩ => ⟨_, q⟩
  | .lkT xs, ⟨o, vs, z, q, _⟩ => ⟨_, q⟩
theorem RepA.length : ∀ {xs : List D} {vs : List V}, RepA K C F π xs vs → vs.length = xs.length
  | [], vs, r => by rw [show vs = [] from r]; rfl
  | x :: xs, vs, r => by
    obtain ⟨v, t, rfl, _, q⟩ := r
    rw [List.length_cons, List.length_cons, RepA.length q]
theorem RepA.get : ∀ {xs : List D} {vs : List V} {i : Nat} {d : D}, RepA K C F π xs vs → xs[i]? = some d → ∃ v, vs[i]? = some v ∧ Rep K C F π d v
  | [], vs, i, d, r, h => by simp at h
  | x :: xs, vs, 0, d, r, h => by
    obtain ⟨v, t, rfl, q, _⟩ := r
    simp at h
    subst h
    exact ⟨v, rfl, q⟩
  | x :: xs, vs, i + 1, d, r, h => by
    obtain ⟨v, t, rfl, _, q⟩ := r
    obtain ⟨u, h1, h2⟩ := RepA.get (i := i) (d := d) q (by simpa using h)
    exact ⟨u, by simpa using h1, h2⟩
theorem RepA.append : ∀ {xs ys : List D} {vs us : List V}, RepA K C F π xs vs → RepA K C F π ys us → RepA K C F π (xs ++ ys) (vs ++ us)
  | [], ys, vs, us, r, s => by rw [show vs = [] from r]; exact s
  | x :: xs, ys, vs, us, r, s => by
    obtain ⟨v, t, rfl, q1, q2⟩ := r
    exact ⟨v, t ++ us, rfl, q1, RepA.append q2 s⟩
theorem RepA.one {x : D} {v : V} (r : Rep K C F π x v) : RepA K C F π [x] [v] := ⟨v, [], rfl, r, rfl⟩
theorem RepA.set {y : D} {u : V} (r : Rep K C F π y u) : ∀ {xs : List D} {vs : List V} (i : Nat), RepA K C F π xs vs → RepA K C F π (xs.set i y) (vs.set i u)
  | [], vs, i, q => by rw [show vs = [] from q]; exact rfl
  | x :: xs, vs, 0, q => by
    obtain ⟨v, t, rfl, q1, q2⟩ := q
    exact ⟨u, t, rfl, r, q2⟩
  | x :: xs, vs, i + 1, q => by
    obtain ⟨v, t, rfl, q1, q2⟩ := q
    exact ⟨v, t.set i u, rfl, q1, RepA.set r i q2⟩
theorem RepA.take : ∀ {xs : List D} {vs : List V} (n : Nat), RepA K C F π xs vs → RepA K C F π (xs.take n) (vs.take n)
  | [], vs, n, q => by rw [show vs = [] from q]; cases n <;> exact rfl
  | x :: xs, vs, 0, q => rfl
  | x :: xs, vs, n + 1, q => by
    obtain ⟨v, t, rfl, q1, q2⟩ := q
    exact ⟨v, t.take n, rfl, q1, RepA.take n q2⟩
theorem RepA.drop : ∀ {xs : List D} {vs : List V} (n : Nat), RepA K C F π xs vs → RepA K C F π (xs.drop n) (vs.drop n)
  | [], vs, n, q => by rw [show vs = [] from q]; cases n <;> exact rfl
  | x :: xs, vs, 0, q => q
  | x :: xs, vs, n + 1, q => by
    obtain ⟨v, t, rfl, q1, q2⟩ := q
    exact RepA.drop n q2

/-- the world: F what never changes any more, π the addresses of the store's things S, all in the heap H -/
structure Wd (K : PySem.W.Frag) (C : Ctx) (Λ : Lk) (F : Hp) (π : List Addr) (S : List Ob) (H : Hp) : Prop where
  ext : Same F H
  len : π.length = S.length
  nd : π.Nodup
  fr : ∀ p ∈ π, F p = none
  ob : ∀ k o p, S[k]? = some o → π[k]? = some p → ObR K C F π (Λ k) H p o

variable {Λ : Lk} {S : List Ob} {H H' : Hp}
theorem Wd.at (w : Wd K C Λ F π S H) {k : Nat} {o : Ob} (h : S[k]? = some o) : ∃ p, π[k]? = some p ∧ ObR K C F π (Λ k) H p o := by
  have hk : k < π.length := by
    rw [w.len]
    exact (List.getElem?_eq_some_iff.mp h).1
  exact ⟨π[k], List.getElem?_eq_getElem hk, w.ob k o _ h (List.getElem?_eq_getElem hk)⟩
theorem Wd.obj (w : Wd K C Λ F π S H) {k : Nat} {p : Addr} (h : π[k]? = some p) : ∃ o, S[k]? = some o ∧ ObR K C F π (Λ k) H p o := by
  have hk : k < S.length := by
    rw [← w.len]
    exact (List.getElem?_eq_some_iff.mp h).1
  exact ⟨S[k], List.getElem?_eq_getElem hk, w.ob k _ _ (List.getElem?_eq_getElem hk) h⟩
theorem Wd.notin (w : Wd K C Λ F π S H) {p : Addr} (h : H p = none) : p ∉ π := fun hm => by
  obtain ⟨k, hk, e⟩ := List.mem_iff_getElem.mp hm
  obtain ⟨o, _, q⟩ := w.obj (k := k) (p := p) (by rw [List.getElem?_eq_getElem hk, e])
  obtain ⟨x, hx⟩ := q.there
  rw [h] at hx
  cases hx
theorem Wd.frozen (w : Wd K C Λ F π S H) {p : Addr} (h : H p = none) : F p = none := Same.free w.ext h
theorem same_new {p : Addr} {o : HO} (h : F p = none) : Same F (upd F p o) := fun a u e => by
  rw [upd_ne (ne_of_none e h)]
  exact e
theorem same_upd {p : Addr} {o : HO} (e : Same F F') : Same (upd F p o) (upd F' p o) := fun a u h => by
  by_cases q : a = p
  · subst q
    rw [upd_same] at h ⊢
    exact h
  · rw [upd_ne q] at h ⊢
    exact e a u h
theorem upd_eq {G : Hp} {p : Addr} {o : HO} (h : G p = some o) : upd G p o = G := by
  funext a
  unfold upd
  split
  · rename_i e
    rw [e, h]
  · rfl
/-- a new thing that will never change -/
theorem Wd.tree (w : Wd K C Λ F π S H) {p : Addr} {o : HO} (h : H p = none) : Wd K C Λ (upd F p o) π S (upd H p o) where
  ext := same_upd w.ext
  len := w.len
  nd := w.nd
  fr := fun q hq => by
    have e : q ≠ p := fun e => w.notin h (by rw [← e]; exact hq)
    rw [upd_ne e]
    exact w.fr q hq
  ob := fun k ob q h1 h2 => by
    refine ObR.mono (same_new (w.frozen h)) (List.prefix_refl _) (ObR.heap (upd_ne fun e => ?_) (w.ob k ob q h1 h2))
    exact w.notin h (e ▸ List.mem_of_getElem? h2)
/-- the heap has grown by things that nobody asks for -/
theorem Wd.junk (w : Wd K C Λ F π S H) (e : Same H H') : Wd K C Λ F π S H' where
  ext := w.ext.trans e
  len := w.len
  nd := w.nd
  fr := w.fr
  ob := fun k ob q h1 h2 => by
    have r := w.ob k ob q h1 h2
    obtain ⟨x, hx⟩ := r.there
    exact ObR.heap ((e _ _ hx).trans hx.symm) r
/-- a new thing that may change -/
theorem Wd.new (w : Wd K C Λ F π S H) {p : Addr} {o : HO} {ob : Ob} (h : H p = none) (r : ObR K C F (π ++ [p]) (Λ S.length) (upd H p o) p ob) : Wd K C Λ F (π ++ [p]) (S ++ [ob]) (upd H p o) where
  ext := w.ext.trans (same_new h)
  len := by rw [List.length_append, List.length_append, w.len]; rfl
  nd := by
    refine List.nodup_append.mpr ⟨w.nd, by simp, fun a ha b hb => ?_⟩
    rw [List.mem_singleton.mp hb]
    exact fun e => w.notin h (e ▸ ha)
  fr := fun q hq => by
    rcases List.mem_append.mp hq with hq | hq
    · exact w.fr q hq
    · rw [List.mem_singleton.mp hq]
      exact w.frozen h
  ob := fun k o2 q h1 h2 => by
    by_cases hk : k < S.length
    · rw [List.getElem?_append_left hk] at h1
      have hk' : k < π.length := by rw [w.len]; exact hk
      rw [List.getElem?_append_left hk'] at h2
      refine ObR.mono (fun _ _ z => z) (List.prefix_append _ _) (ObR.heap (upd_ne fun e => ?_) (w.ob k o2 q h1 h2))
      exact w.notin h (e ▸ List.mem_of_getElem? h2)
    · have hl := (List.getElem?_eq_some_iff.mp h1).1
      rw [List.length_append, List.length_singleton] at hl
      have e : k = S.length := by omega
      subst e
      rw [List.getElem?_append_right (Nat.le_refl _), Nat.sub_self] at h1
      rw [← w.len, List.getElem?_append_right (Nat.le_refl _), Nat.sub_self] at h2
      cases h1
      cases h2
      exact r
theorem nodup_at {l : List Addr} (h : l.Nodup) {i j : Nat} {a : Addr} (hi : l[i]? = some a) (hj : l[j]? = some a) : i = j := by
  obtain ⟨h1, e1⟩ := List.getElem?_eq_some_iff.mp hi
  obtain ⟨h2, e2⟩ := List.getElem?_eq_some_iff.mp hj
  exact (List.getElem_inj h).mp (e1.trans e2.symm)
/-- a thing of the store changes -/
theorem Wd.put (w : Wd K C Λ F π S H) {k : Nat} {p : Addr} {o : HO} {ob : Ob} (hp : π[k]? = some p) (r : ObR K C F π (Λ k) (upd H p o) p ob) : Wd K C Λ F π (S.set k ob) (upd H p o) where
  ext := fun a u e => by
    rw [upd_ne (ne_of_none e (w.fr p (List.mem_of_getElem? hp)))]
    exact w.ext a u e
  len := by rw [List.length_set]; exact w.len
  nd := w.nd
  fr := w.fr
  ob := fun j o2 q h1 h2 => by
    by_cases e : j = k
    · subst e
      rw [hp] at h2
      cases h2
      have hj : j < S.length := by
        have := (List.getElem?_eq_some_iff.mp h1).1
        rwa [List.length_set] at this
      rw [List.getElem?_set_self hj] at h1
      cases h1
      exact r
    · rw [List.getElem?_set_ne (fun z => e z.symm)] at h1
      exact ObR.heap (upd_ne fun z => e (nodup_at w.nd (z ▸ h2) hp)) (w.ob j o2 q h1 h2)
end

/-- from one world to a later one: what was there stays, but for the store's things -/
structure Ext (F : Hp) (π : List Addr) (H : Hp) (F' : Hp) (π' : List Addr) (H' : Hp) : Prop where
  f : Same F F'
  p : π <+: π'
  k : ∀ a o, H a = some o → a ∉ π → H' a = some o
  n : ∀ a o, H a = some o → a ∉ π → a ∉ π'
  m : ∀ a o, H a = some o → a ∉ π → F a = none → (∃ us, o = .tup us) ∨ F' a = none
structure Sub (F : Hp) (π : List Addr) (F' : Hp) (π' : List Addr) : Prop where
  f : Same F F'
  p : π <+: π'
theorem Ext.sub {F F' : Hp} {π π' : List Addr} {H H' : Hp} (e : Ext F π H F' π' H') : Sub F π F' π' := ⟨e.f, e.p⟩
theorem Sub.trans {F F1 F2 : Hp} {π π1 π2 : List Addr} (a : Sub F π F1 π1) (b : Sub F1 π1 F2 π2) : Sub F π F2 π2 := ⟨a.f.trans b.f, a.p.trans b.p⟩
theorem Ext.refl (F : Hp) (π : List Addr) (H : Hp) : Ext F π H F π H := ⟨Same.refl _, List.prefix_refl _, fun _ _ h _ => h, fun _ _ _ h => h, fun _ _ _ _ h => .inr h⟩
theorem Ext.trans {F F1 F2 : Hp} {π π1 π2 : List Addr} {H H1 H2 : Hp} (a : Ext F π H F1 π1 H1) (b : Ext F1 π1 H1 F2 π2 H2) : Ext F π H F2 π2 H2 :=
  ⟨a.f.trans b.f, a.p.trans b.p, fun x o h n => b.k x o (a.k x o h n) (a.n x o h n), fun x o h n => b.n x o (a.k x o h n) (a.n x o h n), fun x o h n z => (a.m x o h n z).elim .inl fun y => b.m x o (a.k x o h n) (a.n x o h n) y⟩
theorem Ext.mL {F F' : Hp} {π π' : List Addr} {H H' : Hp} (e : Ext F π H F' π' H') {a : Addr} {vs : List V} (h : H a = some (.lst vs)) (n : a ∉ π) (z : F a = none) : F' a = none := (e.m a _ h n z).resolve_left fun ⟨_, q⟩ => nomatch q
theorem Ext.mK {F F' : Hp} {π π' : List Addr} {H H' : Hp} (e : Ext F π H F' π' H') {a : Addr} {vs : List (Key × V)} (h : H a = some (.dK vs)) (n : a ∉ π) (z : F a = none) : F' a = none := (e.m a _ h n z).resolve_left fun ⟨_, q⟩ => nomatch q
theorem Ext.tree {F : Hp} {π : List Addr} {H : Hp} {p : Addr} {o : HO} (h : H p = none) (hf : F p = none) : Ext F π H (upd F p o) π (upd H p o) :=
  ⟨same_new hf, List.prefix_refl _, fun a u q _ => (upd_ne (ne_of_none q h)).trans q, fun _ _ _ n => n, fun a u q _ z => .inr ((upd_ne (ne_of_none q h)).trans z)⟩
theorem Ext.junk {F : Hp} {π : List Addr} {H H' : Hp} (h : Same H H') : Ext F π H F π H' :=
  ⟨Same.refl _, List.prefix_refl _, fun a u q _ => h _ _ q, fun _ _ _ n => n, fun a u q _ z => .inr z⟩
theorem Ext.new {F : Hp} {π : List Addr} {H : Hp} {p : Addr} {o : HO} (h : H p = none) : Ext F π H F (π ++ [p]) (upd H p o) :=
  ⟨Same.refl _, List.prefix_append _ _, fun a u q _ => (upd_ne (ne_of_none q h)).trans q, fun a u q n z => by
    rcases List.mem_append.mp z with z | z
    · exact n z
    · rw [List.mem_singleton.mp z, h] at q
      exact (nomatch q), fun a u q _ z => .inr z⟩
theorem Ext.put {F : Hp} {π : List Addr} {H : Hp} {k : Nat} {p : Addr} {o : HO} (h : π[k]? = some p) : Ext F π H F π (upd H p o) :=
  ⟨Same.refl _, List.prefix_refl _, fun a u q n => (upd_ne fun z => n (by rw [z]; exact List.mem_of_getElem? h)).trans q, fun _ _ _ n => n, fun a u q _ z => .inr z⟩

/-! ### the names -/
abbrev SE := List (Option D)
def EnvR (K : PySem.W.Frag) (C : Ctx) (F : Hp) (π : List Addr) (σ : L2.St) (E : SE) : Prop :=
  E.length = σ.length ∧ ∀ (i : Nat) (d : D), E[i]? = some (some d) → ∃ v, σ[i]? = some (some v) ∧ Rep K C F π d v
section
variable {K : PySem.W.Frag} {C : Ctx} {F F' : Hp} {π π' : List Addr} {σ : L2.St} {E : SE}
theorem EnvR.mono (e : Same F F') (h : π <+: π') (r : EnvR K C F π σ E) : EnvR K C F' π' σ E :=
  ⟨r.1, fun i d q => let ⟨v, a, b⟩ := r.2 i d q; ⟨v, a, Rep.mono e h d v b⟩⟩
theorem EnvR.set (r : EnvR K C F π σ E) (i : Nat) {d : D} {v : V} (q : Rep K C F π d v) : EnvR K C F π (σ.set i (some v)) (E.set i (some d)) := by
  refine ⟨by rw [List.length_set, List.length_set]; exact r.1, fun j d' h => ?_⟩
  by_cases e : i = j
  · subst e
    have hi : i < E.length := by
      have := (List.getElem?_eq_some_iff.mp h).1
      rwa [List.length_set] at this
    rw [List.getElem?_set_self hi] at h
    cases h
    exact ⟨v, by rw [List.getElem?_set_self (by rw [← r.1]; exact hi)], q⟩
  · rw [List.getElem?_set_ne e] at h ⊢
    exact r.2 j d' h
theorem EnvR.clear (r : EnvR K C F π σ E) (i : Nat) (x : Option V) : EnvR K C F π (σ.set i x) (E.set i none) := by
  refine ⟨by rw [List.length_set, List.length_set]; exact r.1, fun j d' h => ?_⟩
  by_cases e : i = j
  · subst e
    have hi : i < E.length := by
      have := (List.getElem?_eq_some_iff.mp h).1
      rwa [List.length_set] at this
    rw [List.getElem?_set_self hi] at h
    cases h
  · rw [List.getElem?_set_ne e] at h ⊢
    exact r.2 j d' h
def wipeE (E : SE) : List Nat → SE
  | [] => E
  | v :: vs => (wipeE E vs).set v none
theorem EnvR.wipe (r : EnvR K C F π σ E) : ∀ vs : List Nat, EnvR K C F π (L2.wipe σ vs) (wipeE E vs)
  | [] => r
  | v :: vs => (EnvR.wipe r vs).clear v none
end

/-! ### what a piece computes -/
abbrev DF (α : Type) := SE → List Ob → Option (α × List Ob)
inductive Out where
  | nx (E : SE) | rt (d : D) | bk (E : SE) | ct (E : SE)
abbrev DFS := SE → List Ob → Option (Out × List Ob)
section
variable (K : PySem.W.Frag) (C : Ctx)
/-- behind a computation from (F, π): the value's data d, the store S' -/
def Post (Λ : Lk) (F : Hp) (π : List Addr) (H : Hp) (S' : List Ob) (d : D) (Q : VK) : Prop :=
  ∀ v F' π' H', Ext F π H F' π' H' → Wd K C Λ F' π' S' H' → Rep K C F' π' d v → Q v H'
def PostA (Λ : Lk) (F : Hp) (π : List Addr) (H : Hp) (S' : List Ob) (ds : List D) (Q : List V → Hp → Prop) : Prop :=
  ∀ vs F' π' H', Ext F π H F' π' H' → Wd K C Λ F' π' S' H' → RepA K C F' π' ds vs → Q vs H'
def PostB (Λ : Lk) (F : Hp) (π : List Addr) (H : Hp) (S' : List Ob) (b : Bool) (Q : Bool → Hp → Prop) : Prop :=
  ∀ F' π' H', Ext F π H F' π' H' → Wd K C Λ F' π' S' H' → Q b H'
def PostO (Λ : Lk) (F : Hp) (π : List Addr) (H : Hp) (S' : List Ob) (b : Option Int) (Q : Option Int → Hp → Prop) : Prop :=
  ∀ F' π' H', Ext F π H F' π' H' → Wd K C Λ F' π' S' H' → Q b H'
def PostS (Λ : Lk) (F : Hp) (π : List Addr) (H : Hp) (S' : List Ob) (o : Out) (Dn : Ends) : Prop :=
  match o with
  | .nx E' => ∀ σ' F' π' H', Ext F π H F' π' H' → Wd K C Λ F' π' S' H' → EnvR K C F' π' σ' E' → Dn.nx σ' H'
  | .rt d => Post K C Λ F π H S' d Dn.rt
  | .bk E' => ∀ σ' F' π' H', Ext F π H F' π' H' → Wd K C Λ F' π' S' H' → EnvR K C F' π' σ' E' → Dn.bk σ' H'
  | .ct E' => ∀ σ' F' π' H', Ext F π H F' π' H' → Wd K C Λ F' π' S' H' → EnvR K C F' π' σ' E' → Dn.ct σ' H'
structure At (Λ : Lk) (F : Hp) (π : List Addr) (S : List Ob) (H : Hp) (σ : L2.St) (E : SE) : Prop where
  w : Wd K C Λ F π S H
  r : EnvR K C F π σ E
def Snd (t : TE) (f : DF D) : Prop := ∀ E S d S', f E S = some (d, S') → ∀ Λ F π H σ, At K C Λ F π S H σ E → ∀ Q : VK, Post K C Λ F π H S' d Q → t σ H Q
def SndA (t : TA) (f : DF (List D)) : Prop := ∀ E S d S', f E S = some (d, S') → ∀ Λ F π H σ, At K C Λ F π S H σ E → ∀ Q : List V → Hp → Prop, PostA K C Λ F π H S' d Q → t σ H Q
def SndT (t : TT) (f : DF Bool) : Prop := ∀ E S d S', f E S = some (d, S') → ∀ Λ F π H σ, At K C Λ F π S H σ E → ∀ Q : Bool → Hp → Prop, PostB K C Λ F π H S' d Q → t σ H Q
def SndO (t : TO) (f : DF (Option Int)) : Prop := ∀ E S d S', f E S = some (d, S') → ∀ Λ F π H σ, At K C Λ F π S H σ E → ∀ Q : Option Int → Hp → Prop, PostO K C Λ F π H S' d Q → t σ H Q
def SndS (t : TS) (f : DFS) : Prop := ∀ E S o S', f E S = some (o, S') → ∀ Λ F π H σ, At K C Λ F π S H σ E → ∀ Dn : Ends, PostS K C Λ F π H S' o Dn → t Dn σ H
end
def DE (X : Cx) (C : Ctx) (e : Expr) (f : DF D) : Prop := ∃ t, PE X e t ∧ Snd X.K C t f
def DA (X : Cx) (C : Ctx) (es : List Expr) (f : DF (List D)) : Prop := ∃ t, PA X es t ∧ SndA X.K C t f
def DT (X : Cx) (C : Ctx) (e : Expr) (f : DF Bool) : Prop := ∃ t, PT X e t ∧ SndT X.K C t f
def DO (X : Cx) (C : Ctx) (e : Option Expr) (f : DF (Option Int)) : Prop := ∃ t, PO X e t ∧ SndO X.K C t f
def DSt (X : Cx) (C : Ctx) (s : Stmt) (f : DFS) : Prop := ∃ t, PS X s t ∧ SndS X.K C t f
def DB (X : Cx) (C : Ctx) (s : List Stmt) (f : DFS) : Prop := ∃ t, PSs X s t ∧ SndS X.K C t f
section
variable {K : PySem.W.Frag} {C : Ctx} {Λ : Lk} {F F' : Hp} {π π' : List Addr} {H H' : Hp} {S S' : List Ob} {d : D} {Q : VK}
theorem Post.step (p : Post K C Λ F π H S' d Q) (e : Ext F π H F' π' H') : Post K C Λ F' π' H' S' d Q := fun v F2 π2 H2 e2 => p v F2 π2 H2 (e.trans e2)
theorem PostA.step {ds : List D} {Q : List V → Hp → Prop} (p : PostA K C Λ F π H S' ds Q) (e : Ext F π H F' π' H') : PostA K C Λ F' π' H' S' ds Q := fun v F2 π2 H2 e2 => p v F2 π2 H2 (e.trans e2)
theorem PostB.step {b : Bool} {Q : Bool → Hp → Prop} (p : PostB K C Λ F π H S' b Q) (e : Ext F π H F' π' H') : PostB K C Λ F' π' H' S' b Q := fun F2 π2 H2 e2 => p F2 π2 H2 (e.trans e2)
theorem PostO.step {b : Option Int} {Q : Option Int → Hp → Prop} (p : PostO K C Λ F π H S' b Q) (e : Ext F π H F' π' H') : PostO K C Λ F' π' H' S' b Q := fun F2 π2 H2 e2 => p F2 π2 H2 (e.trans e2)
theorem PostS.step : ∀ {o : Out} {Dn : Ends}, PostS K C Λ F π H S' o Dn → Ext F π H F' π' H' → PostS K C Λ F' π' H' S' o Dn
  | .nx _, _, p, e => fun σ F2 π2 H2 e2 => p σ F2 π2 H2 (e.trans e2)
  | .rt _, _, p, e => Post.step p e
  | .bk _, _, p, e => fun σ F2 π2 H2 e2 => p σ F2 π2 H2 (e.trans e2)
  | .ct _, _, p, e => fun σ F2 π2 H2 e2 => p σ F2 π2 H2 (e.trans e2)
theorem At.step {σ : L2.St} {E : SE} (a : At K C Λ F π S H σ E) (e : Ext F π H F' π' H') (w : Wd K C Λ F' π' S' H') : At K C Λ F' π' S' H' σ E := ⟨w, a.r.mono e.f e.p⟩
theorem Post.val {v : V} (p : Post K C Λ F π H S d Q) (w : Wd K C Λ F π S H) (r : Rep K C F π d v) : Q v H := p v F π H (Ext.refl _ _ _) w r
end
end DL

set_option Elab.async false
set_option linter.all false
set_option maxRecDepth 100000
set_option maxHeartbeats 2000000
/-! DL: rules for expressions. -/
namespace DL
open PySem PySem.Spec PyProof.Rows L2

theorem OpR.or {X : Cx} {f : Value → Value → Sem Value} {r r' : R2} (h : OpR X f r) (h' : OpR X f r') : OpR X f (fun x y H Q => r x y H Q ∨ r' x y H Q) := by
  intro pins s σ H x y v u Q I rx ry q
  rcases q with q | q
  · exact h pins s σ H x y v u Q I rx ry q
  · exact h' pins s σ H x y v u Q I rx ry q

/-! ### things seen through the store -/
def lstOf (S : List Ob) : D → Option (List D)
  | .lst xs => some xs
  | .ptr k => match S[k]? with
    | some (.lst xs) => some xs
    | _ => none
  | _ => none
section
variable {K : PySem.W.Frag} {C : Ctx} {Λ : Lk} {F F' : Hp} {π π' : List Addr} {S S' : List Ob} {H H' : Hp} {d : D} {v : V} {xs : List D}
theorem lstOf_ok (w : Wd K C Λ F π S H) (r : Rep K C F π d v) (h : lstOf S d = some xs) : ∃ a vs, v = .ref a ∧ H a = some (.lst vs) ∧ RepA K C F π xs vs := by
  cases d with
  | lst ys =>
    cases h
    obtain ⟨a, vs, q1, q2, q3⟩ := r
    exact ⟨a, vs, q1, w.ext _ _ q2, q3⟩
  | ptr k =>
    obtain ⟨a, q1, q2⟩ := r
    obtain ⟨o, q3, q4⟩ := w.obj q2
    have h : (match S[k]? with
      | some (.lst xs) => some xs
      | _ => none) = some xs := h
    rw [q3] at h
    cases o with
    | lst ys =>
      cases h
      obtain ⟨vs, q5, q6⟩ := q4
      exact ⟨a, vs, q1, q5, q6⟩
    | _ => cases h
  | _ => cases h
/-- a tuple, also one of the module's own -/
def tupOf : D → Option (List D)
  | .tup xs => some xs
  | .ktp xs => some xs
  | _ => none
theorem tup_ok (w : Wd K C Λ F π S H) (r : Rep K C F π d v) (h : tupOf d = some xs) : ∃ a vs, v = .ref a ∧ SqT K H a vs ∧ RepA K C F π xs vs := by
  cases d with
  | tup ys =>
    cases h
    obtain ⟨a, vs, q1, q2, q3⟩ := r
    exact ⟨a, vs, q1, .inl (.inl (w.ext _ _ q2)), q3⟩
  | ktp ys =>
    cases h
    obtain ⟨a, vs, q1, q2, q3⟩ := r
    refine ⟨a, vs, q1, ?_, q3⟩
    rcases q2 with (q2 | ⟨o, q2⟩) | q2
    · exact .inl (.inl (w.ext _ _ q2))
    · exact .inl (.inr ⟨o, w.ext _ _ q2⟩)
    · exact .inr q2
  | _ => cases h
/-- a list or a tuple -/
def seqOf (S : List Ob) (d : D) : Option (List D) := match tupOf d with
  | some xs => some xs
  | none => lstOf S d
theorem seqOf_ok (w : Wd K C Λ F π S H) (r : Rep K C F π d v) (h : seqOf S d = some xs) : ∃ a vs, v = .ref a ∧ (SqL K H a vs ∨ SqT K H a vs) ∧ RepA K C F π xs vs := by
  unfold seqOf at h
  split at h
  · rename_i ys hy
    cases h
    obtain ⟨a, vs, q1, q2, q3⟩ := tup_ok w r hy
    exact ⟨a, vs, q1, .inr q2, q3⟩
  · obtain ⟨a, vs, q1, q2, q3⟩ := lstOf_ok w r h
    exact ⟨a, vs, q1, .inl (.inl (.inl q2)), q3⟩

/-! ### new lists -/
theorem same_mid {p : Addr} {o : HO} (e : Same F H) (h : H p = some o) : Same (upd F p o) H := fun a u q => by
  by_cases z : a = p
  · subst z
    rw [upd_same] at q
    cases q
    exact h
  · rw [upd_ne z] at q
    exact e a u q
theorem Wd.freeze (w : Wd K C Λ F π S H) {p : Addr} {o : HO} (hf : F p = none) (hp : p ∉ π) (h : H p = some o) : Wd K C Λ (upd F p o) π S H where
  ext := same_mid w.ext h
  len := w.len
  nd := w.nd
  fr := fun q hq => by
    have e : q ≠ p := fun e => hp (by rw [← e]; exact hq)
    rw [upd_ne e]
    exact w.fr q hq
  ob := fun k ob q h1 h2 => ObR.mono (same_new hf) (List.prefix_refl _) (w.ob k ob q h1 h2)
theorem Wd.adopt (w : Wd K C Λ F π S H) {p : Addr} {ob : Ob} (hf : F p = none) (hp : p ∉ π) (r : ObR K C F (π ++ [p]) (Λ S.length) H p ob) : Wd K C Λ F (π ++ [p]) (S ++ [ob]) H where
  ext := w.ext
  len := by rw [List.length_append, List.length_append, w.len]; rfl
  nd := by
    refine List.nodup_append.mpr ⟨w.nd, by simp, fun a ha b hb => ?_⟩
    rw [List.mem_singleton.mp hb]
    exact fun e => hp (e ▸ ha)
  fr := fun q hq => by
    rcases List.mem_append.mp hq with hq | hq
    · exact w.fr q hq
    · rw [List.mem_singleton.mp hq]
      exact hf
  ob := fun k o2 q h1 h2 => by
    by_cases hk : k < S.length
    · rw [List.getElem?_append_left hk] at h1
      have hk' : k < π.length := by rw [w.len]; exact hk
      rw [List.getElem?_append_left hk'] at h2
      exact ObR.mono (fun _ _ z => z) (List.prefix_append _ _) (w.ob k o2 q h1 h2)
    · have hl := (List.getElem?_eq_some_iff.mp h1).1
      rw [List.length_append, List.length_singleton] at hl
      have e : k = S.length := by omega
      subst e
      rw [List.getElem?_append_right (Nat.le_refl _), Nat.sub_self] at h1
      rw [← w.len, List.getElem?_append_right (Nat.le_refl _), Nat.sub_self] at h2
      cases h1
      cases h2
      exact r
end
section
variable (K : PySem.W.Frag) (C : Ctx)
/-- behind it a new list stands, of the data xs -/
def PostN (Λ : Lk) (F : Hp) (π : List Addr) (H : Hp) (S' : List Ob) (xs : List D) (Q : VK) : Prop :=
  ∀ p vs F' π' H', Ext F π H F' π' H' → Wd K C Λ F' π' S' H' → H p = none → F' p = none → p ∉ π' → H' p = some (.lst vs) → RepA K C F' π' xs vs → Q (.ref p) H'
def SndN (t : TE) (f : DF (List D)) : Prop := ∀ E S xs S', f E S = some (xs, S') → ∀ Λ F π H σ, At K C Λ F π S H σ E → ∀ Q : VK, PostN K C Λ F π H S' xs Q → t σ H Q
end
def DN (X : Cx) (C : Ctx) (e : Expr) (f : DF (List D)) : Prop := ∃ t, PE X e t ∧ SndN X.K C t f
section
variable {K : PySem.W.Frag} {C : Ctx} {Λ : Lk} {F F' : Hp} {π π' : List Addr} {S S' : List Ob} {H H' : Hp} {xs : List D} {Q : VK}
theorem PostN.step (p : PostN K C Λ F π H S' xs Q) (e : Ext F π H F' π' H') : PostN K C Λ F' π' H' S' xs Q := fun a vs F2 π2 H2 e2 w n hf hp => by
  refine p a vs F2 π2 H2 (e.trans e2) w ?_ hf hp
  cases q : H a with
  | none => rfl
  | some o =>
    have z : a ∉ π := fun z => hp ((e.p.trans e2.p).subset z)
    rw [e.k a o q z] at n
    cases n
/-- as a list that will not change -/
theorem Post.tree (p : Post K C Λ F π H S' (.lst xs) Q) : PostN K C Λ F π H S' xs Q := fun a vs F2 π2 H2 e w n hf hp ha r =>
  p (.ref a) (upd F2 a (.lst vs)) π2 H2 ⟨e.f.trans (same_new hf), e.p, e.k, e.n, fun x o h z q => (e.m x o h z q).imp id fun y => (upd_ne (ne_of_none h n)).trans y⟩ (w.freeze hf hp ha) ⟨a, vs, rfl, upd_same, RepA.mono (same_new hf) (List.prefix_refl _) _ _ r⟩
theorem Post.new (p : Post K C Λ F π H (S' ++ [.lst xs]) (.ptr S'.length) Q) : PostN K C Λ F π H S' xs Q := fun a vs F2 π2 H2 e w n hf hp ha r =>
  p (.ref a) F2 (π2 ++ [a]) H2 ⟨e.f, e.p.trans (List.prefix_append _ _), e.k, fun x o h z q => by
      rcases List.mem_append.mp q with q | q
      · exact e.n x o h z q
      · rw [List.mem_singleton.mp q, n] at h
        exact (nomatch h), e.m⟩ (w.adopt hf hp ⟨vs, ha, RepA.mono (Same.refl _) (List.prefix_append _ _) _ _ r⟩)
    ⟨a, rfl, by rw [← w.len, List.getElem?_append_right (Nat.le_refl _), Nat.sub_self]; rfl⟩
/-- a new list at once -/
theorem PostN.at (p : PostN K C Λ F π H S' xs Q) {a : Addr} {vs : List V} (w : Wd K C Λ F π S' H) (h : H a = none) (r : RepA K C F π xs vs) : Q (.ref a) (upd H a (.lst vs)) :=
  p a vs F π (upd H a (.lst vs)) (Ext.junk (same_new h)) (w.junk (same_new h)) h (w.frozen h) (w.notin h) upd_same r
theorem Post.tupAt {ds : List D} (p : Post K C Λ F π H S' (.tup ds) Q) {a : Addr} {vs : List V} (w : Wd K C Λ F π S' H) (h : H a = none) (r : RepA K C F π ds vs) : Q (.ref a) (upd H a (.tup vs)) :=
  p (.ref a) (upd F a (.tup vs)) π (upd H a (.tup vs)) (Ext.tree h (w.frozen h)) (w.tree h) ⟨a, vs, rfl, upd_same, RepA.mono (same_new (w.frozen h)) (List.prefix_refl _) _ _ r⟩
end
section
variable {X : Cx} {C : Ctx} {e a b : Expr} {f fa fb : DF D} {pos : Pos}
def dTree (f : DF (List D)) : DF D := fun E S => (f E S).map fun p => (.lst p.1, p.2)
def dNew (f : DF (List D)) : DF D := fun E S => (f E S).map fun p => (.ptr p.2.length, p.2 ++ [.lst p.1])
theorem de_tree {f : DF (List D)} (h : DN X C e f) : DE X C e (dTree f) := by
  obtain ⟨t, h1, h2⟩ := h
  refine ⟨t, h1, fun E S d S' q Λ F π H σ w Q p => ?_⟩
  obtain ⟨⟨xs, S1⟩, q1, q2⟩ := Option.map_eq_some_iff.mp q
  cases q2
  exact h2 E S xs S1 q1 Λ F π H σ w Q p.tree
theorem de_new {f : DF (List D)} (h : DN X C e f) : DE X C e (dNew f) := by
  obtain ⟨t, h1, h2⟩ := h
  refine ⟨t, h1, fun E S d S' q Λ F π H σ w Q p => ?_⟩
  obtain ⟨⟨xs, S1⟩, q1, q2⟩ := Option.map_eq_some_iff.mp q
  cases q2
  exact h2 E S xs S1 q1 Λ F π H σ w Q p.new

/-! ### names, constants -/
def dVar (i : Nat) : DF D := fun E S => match E[i]? with
  | some (some d) => some (d, S)
  | _ => none
theorem de_var (i : Nat) {x : Str} (hN : X.N[i]? = some x := by rfl) (hv : Vis X.env.scope x := by first | exact Or.inl rfl | exact Or.inr (Or.inl rfl) | exact Or.inr (Or.inr rfl)) (hd : (x == ("__debug__" : Str)) = false := by decide)
    (hcd : (x == ("__classdict__" : Str)) = false := by decide) : DE X C (.Name x pos) (dVar i) := by
  refine ⟨_, pe_var hN hv hd hcd, fun E S d S' q Λ F π H σ w Q p => ?_⟩
  unfold dVar at q
  split at q
  · rename_i d' h
    cases q
    obtain ⟨v, h1, h2⟩ := w.r.2 i d h
    exact ⟨v, h1, p.val w.w h2⟩
  · cases q
def dC (d : D) : DF D := fun _ S => some (d, S)
theorem de_c {t : TE} {d : D} {v : V} (h : PE X e (tC v)) (r : ∀ F π, Rep X.K C F π d v) : DE X C e (dC d) := by
  refine ⟨_, h, fun E S d' S' q Λ F π H σ w Q p => ?_⟩
  cases q
  exact p.val w.w (r F π)
theorem de_int {i : Int} {j} : DE X C (.Constant (.int i) j pos) (dC (.int i)) := de_c (t := tC (.int i)) pe_int fun _ _ => rfl
theorem de_bl {i : Bool} {j} : DE X C (.Constant (.bool i) j pos) (dC (.bl i)) := de_c (t := tC (.bl i)) pe_bl fun _ _ => rfl
theorem de_str {i : Str} {j} : DE X C (.Constant (.str i) j pos) (dC (.str i)) := de_c (t := tC (.str i)) pe_str fun _ _ => rfl
theorem de_non {j} : DE X C (.Constant .none j pos) (dC .non) := de_c (t := tC .non) pe_non fun _ _ => rfl

/-! ### operators -/
def Op2 (K : PySem.W.Frag) (C : Ctx) (r : R2) (g : List Ob → D → D → Option D) : Prop :=
  ∀ Λ F π S H dx dy x y d, g S dx dy = some d → Wd K C Λ F π S H → Rep K C F π dx x → Rep K C F π dy y → ∀ Q : VK, Post K C Λ F π H S d Q → r x y H Q
def dBin (g : List Ob → D → D → Option D) (fa fb : DF D) : DF D := fun E S =>
  (fa E S).bind fun p => (fb E p.2).bind fun q => (g q.2 p.1 q.1).map fun d => (d, q.2)
theorem snd_bin {K : PySem.W.Frag} {r : R2} {g : List Ob → D → D → Option D} {ta tb : TE} (ho : Op2 K C r g) (ha : Snd K C ta fa) (hb : Snd K C tb fb) : Snd K C (tOp r ta tb) (dBin g fa fb) := by
  intro E S d S' q Λ F π H σ w Q p
  obtain ⟨⟨x, S1⟩, q1, q⟩ := Option.bind_eq_some_iff.mp q
  obtain ⟨⟨y, S2⟩, q2, q⟩ := Option.bind_eq_some_iff.mp q
  obtain ⟨d', q3, q⟩ := Option.map_eq_some_iff.mp q
  cases q
  refine ha E S x S1 q1 Λ F π H σ w _ fun v F1 π1 H1 e1 w1 r1 => ?_
  refine hb E S1 y _ q2 Λ F1 π1 H1 σ (w.step e1 w1) _ fun u F2 π2 H2 e2 w2 r2 => ?_
  exact ho Λ F2 π2 _ H2 x y v u d q3 w2 (Rep.mono e2.f e2.p _ _ r1) r2 Q (p.step (e1.trans e2))
theorem de_op {op : Operator} {r : R2} {g : List Ob → D → D → Option D} (ho : OpR X (binaryOp op) r) (hg : Op2 X.K C r g) (ha : DE X C a fa) (hb : DE X C b fb) : DE X C (.BinOp a op b pos) (dBin g fa fb) := by
  obtain ⟨ta, a1, a2⟩ := ha
  obtain ⟨tb, b1, b2⟩ := hb
  exact ⟨_, pe_op ho a1 b1, snd_bin hg a2 b2⟩
theorem de_cmp {op : CmpOp} {r : R2} {g : List Ob → D → D → Option D} (ho : OpR X (compareOp op) r) (hg : Op2 X.K C r g) (ha : DE X C a fa) (hb : DE X C b fb) (hm : behindInMarks op b = false := by first | exact nomark _ | rfl) : DE X C (.Compare a [op] [b] pos) (dBin g fa fb) := by
  obtain ⟨ta, a1, a2⟩ := ha
  obtain ⟨tb, b1, b2⟩ := hb
  exact ⟨_, pe_cmpR ho a1 b1 hm, snd_bin hg a2 b2⟩
/-- a bool as a test -/
def dTest (f : DF D) : DF Bool := fun E S => (f E S).bind fun p => match p.1 with
  | .bl b => some (b, p.2)
  | _ => none
theorem snd_test {K : PySem.W.Frag} {t : TE} (h : Snd K C t f) : SndT K C (tTest t) (dTest f) := by
  intro E S d S' q Λ F π H σ w Q p
  obtain ⟨⟨x, S1⟩, q1, q⟩ := Option.bind_eq_some_iff.mp q
  cases x with
  | bl b =>
    cases q
    refine h E S _ S1 q1 Λ F π H σ w _ fun v F1 π1 H1 e1 w1 r1 => ?_
    exact ⟨_, r1, p F1 π1 H1 e1 w1⟩
  | _ => cases q
theorem dt_cmp {op : CmpOp} {r : R2} {g : List Ob → D → D → Option D} (ho : OpR X (compareOp op) r) (hg : Op2 X.K C r g) (ha : DE X C a fa) (hb : DE X C b fb) (hm : behindInMarks op b = false := by first | exact nomark _ | rfl) : DT X C (.Compare a [op] [b] pos) (dTest (dBin g fa fb)) := by
  obtain ⟨ta, a1, a2⟩ := ha
  obtain ⟨tb, b1, b2⟩ := hb
  exact ⟨_, pt_cmpR ho a1 b1 hm, snd_test (snd_bin hg a2 b2)⟩
theorem dt_val (h : DE X C e f) (he : ∀ whole, isTrue e X.env whole = (do let v ← whole; standAt e.pos; holding [v] (truthy v)) := by intro _; rfl) : DT X C e (dTest f) := by
  obtain ⟨t, h1, h2⟩ := h
  exact ⟨_, pt_val h1 he, snd_test h2⟩

/-- + -/
def opAdd (S : List Ob) : D → D → Option D
  | .int i, .int j => some (.int (i + j))
  | .str x, .str y => if x.length + y.length ≤ sizeLine then some (.str (x ++ y)) else none
  | x, y => match lstOf S x, lstOf S y with
    | some a, some b => if a.length + b.length ≤ sizeLine then some (.lst (a ++ b)) else none
    | _, _ => none
abbrev rAdd3 : R2 := fun x y H Q => (rI0 fun i j => .int (i + j)) x y H Q ∨ ((fun x y H Q => ∃ i j, x = .str i ∧ y = .str j ∧ i.length + j.length ≤ sizeLine ∧ Q (.str (i ++ j)) H) x y H Q ∨ rCat x y H Q)
theorem or_add : OpR X (binaryOp .Add) rAdd3 := op_add.or (op_add_str.or op_cat)
theorem cat_case {K : PySem.W.Frag} {Λ : Lk} {F : Hp} {π : List Addr} {S : List Ob} {H : Hp} {dx dy d : D} {x y : V} {Q : VK} (w : Wd K C Λ F π S H) (rx : Rep K C F π dx x) (ry : Rep K C F π dy y)
    (h : (match lstOf S dx, lstOf S dy with
      | some a, some b => if a.length + b.length ≤ sizeLine then some (D.lst (a ++ b)) else none
      | _, _ => none) = some d) (p : Post K C Λ F π H S d Q) : rCat x y H Q := by
  split at h
  · rename_i xs ys hx hy
    split at h
    · rename_i hz
      cases h
      obtain ⟨l, vs, rfl, l2, l3⟩ := lstOf_ok w rx hx
      obtain ⟨m, us, rfl, m2, m3⟩ := lstOf_ok w ry hy
      exact ⟨l, m, vs, us, rfl, rfl, l2, m2, by rw [l3.length, m3.length]; exact hz, fun a ha => (Post.tree p).at w ha (l3.append m3)⟩
    · cases h
  · cases h
theorem o2_add {K : PySem.W.Frag} : Op2 K C rAdd3 opAdd := by
  intro Λ F π S H dx dy x y d h w rx ry Q p
  unfold opAdd at h
  split at h
  · cases h
    exact .inl ⟨_, _, rx, ry, p.val w rfl⟩
  · split at h
    · rename_i hz
      cases h
      exact .inr (.inl ⟨_, _, rx, ry, hz, p.val w rfl⟩)
    · cases h
  · exact .inr (.inr (cat_case w rx ry h p))
theorem de_add (ha : DE X C a fa) (hb : DE X C b fb) : DE X C (.BinOp a .Add b pos) (dBin opAdd fa fb) := de_op or_add o2_add ha hb
def opSub (_ : List Ob) : D → D → Option D
  | .int i, .int j => some (.int (i - j))
  | _, _ => none
theorem o2_sub {K : PySem.W.Frag} : Op2 K C (rI0 fun i j => .int (i - j)) opSub := by
  intro Λ F π S H dx dy x y d h w rx ry Q p
  unfold opSub at h
  split at h
  · cases h
    exact ⟨_, _, rx, ry, p.val w rfl⟩
  · cases h
theorem de_sub (ha : DE X C a fa) (hb : DE X C b fb) : DE X C (.BinOp a .Sub b pos) (dBin opSub fa fb) := de_op op_sub o2_sub ha hb
def opMod (_ : List Ob) : D → D → Option D
  | .int i, .int j => if 0 < j then some (.int (i % j)) else none
  | _, _ => none
theorem o2_mod {K : PySem.W.Frag} : Op2 K C (rI (fun _ j => 0 < j) fun i j => .int (i % j)) opMod := by
  intro Λ F π S H dx dy x y d h w rx ry Q p
  unfold opMod at h
  split at h
  · split at h
    · rename_i hz
      cases h
      exact ⟨_, _, rx, ry, hz, p.val w rfl⟩
    · cases h
  · cases h
theorem de_mod (ha : DE X C a fa) (hb : DE X C b fb) : DE X C (.BinOp a .Mod b pos) (dBin opMod fa fb) := de_op op_mod o2_mod ha hb

/-! ### order of ints -/
def opCmp (c : Int → Int → Bool) (_ : List Ob) : D → D → Option D
  | .int i, .int j => some (.bl (c i j))
  | _, _ => none
theorem o2_cmp {K : PySem.W.Frag} (c : Int → Int → Bool) : Op2 K C (rI0 fun i j => .bl (c i j)) (opCmp c) := by
  intro Λ F π S H dx dy x y d h w rx ry Q p
  unfold opCmp at h
  split at h
  · cases h
    exact ⟨_, _, rx, ry, p.val w rfl⟩
  · cases h
abbrev opLt := opCmp fun i j => decide (i < j)
abbrev opLe := opCmp fun i j => decide (i ≤ j)
abbrev opGt := opCmp fun i j => decide (j < i)
abbrev opGe := opCmp fun i j => decide (j ≤ i)
theorem de_lt (ha : DE X C a fa) (hb : DE X C b fb) : DE X C (.Compare a [.Lt] [b] pos) (dBin opLt fa fb) := de_cmp op_lt (o2_cmp _) ha hb
theorem dt_lt (ha : DE X C a fa) (hb : DE X C b fb) : DT X C (.Compare a [.Lt] [b] pos) (dTest (dBin opLt fa fb)) := dt_cmp op_lt (o2_cmp _) ha hb
theorem de_le (ha : DE X C a fa) (hb : DE X C b fb) : DE X C (.Compare a [.LtE] [b] pos) (dBin opLe fa fb) := de_cmp op_le (o2_cmp _) ha hb
theorem dt_le (ha : DE X C a fa) (hb : DE X C b fb) : DT X C (.Compare a [.LtE] [b] pos) (dTest (dBin opLe fa fb)) := dt_cmp op_le (o2_cmp _) ha hb
theorem de_gt (ha : DE X C a fa) (hb : DE X C b fb) : DE X C (.Compare a [.Gt] [b] pos) (dBin opGt fa fb) := de_cmp op_gt (o2_cmp _) ha hb
theorem dt_gt (ha : DE X C a fa) (hb : DE X C b fb) : DT X C (.Compare a [.Gt] [b] pos) (dTest (dBin opGt fa fb)) := dt_cmp op_gt (o2_cmp _) ha hb
theorem de_ge (ha : DE X C a fa) (hb : DE X C b fb) : DE X C (.Compare a [.GtE] [b] pos) (dBin opGe fa fb) := de_cmp op_ge (o2_cmp _) ha hb
theorem dt_ge (ha : DE X C a fa) (hb : DE X C b fb) : DT X C (.Compare a [.GtE] [b] pos) (dTest (dBin opGe fa fb)) := dt_cmp op_ge (o2_cmp _) ha hb

/-! ### tests joined -/
variable {f1 f2 : DF Bool}
def dAnd (f1 f2 : DF Bool) : DF Bool := fun E S => (f1 E S).bind fun p => if p.1 = true then f2 E p.2 else some (false, p.2)
def dOr (f1 f2 : DF Bool) : DF Bool := fun E S => (f1 E S).bind fun p => if p.1 = true then some (true, p.2) else f2 E p.2
def dNot (f1 : DF Bool) : DF Bool := fun E S => (f1 E S).map fun p => (!p.1, p.2)
/-- whatever its whole is -/
def DW (X : Cx) (C : Ctx) (e : Expr) (f : DF Bool) : Prop := ∃ t, PW X e t ∧ SndT X.K C t f
theorem DW.dt (h : DW X C e f1) : DT X C e f1 := let ⟨t, h1, h2⟩ := h; ⟨t, h1.pt, h2⟩
theorem dw_and1 (ha : DT X C a f1) : DW X C (.BoolOp .And [a] pos) f1 := let ⟨_, h1, h2⟩ := ha; ⟨_, pw_and1 h1, h2⟩
theorem dw_or1 (ha : DT X C a f1) : DW X C (.BoolOp .Or [a] pos) f1 := let ⟨_, h1, h2⟩ := ha; ⟨_, pw_or1 h1, h2⟩
theorem dw_and {rest : List Expr} (ha : DT X C a f1) (hb : DW X C (.BoolOp .And (b :: rest) pos) f2) : DW X C (.BoolOp .And (a :: b :: rest) pos) (dAnd f1 f2) := by
  obtain ⟨ta, a1, a2⟩ := ha
  obtain ⟨tb, b1, b2⟩ := hb
  refine ⟨_, pw_and a1 b1, fun E S d S' q Λ F π H σ w Q p => ?_⟩
  obtain ⟨⟨x, S1⟩, q1, q⟩ := Option.bind_eq_some_iff.mp q
  refine a2 E S x S1 q1 Λ F π H σ w _ fun F1 π1 H1 e1 w1 => ?_
  cases x with
  | true => exact b2 E S1 d S' q Λ F1 π1 H1 σ (w.step e1 w1) Q (p.step e1)
  | false =>
    cases q
    exact p F1 π1 H1 e1 w1
theorem dw_or {rest : List Expr} (ha : DT X C a f1) (hb : DW X C (.BoolOp .Or (b :: rest) pos) f2) : DW X C (.BoolOp .Or (a :: b :: rest) pos) (dOr f1 f2) := by
  obtain ⟨ta, a1, a2⟩ := ha
  obtain ⟨tb, b1, b2⟩ := hb
  refine ⟨_, pw_or a1 b1, fun E S d S' q Λ F π H σ w Q p => ?_⟩
  obtain ⟨⟨x, S1⟩, q1, q⟩ := Option.bind_eq_some_iff.mp q
  refine a2 E S x S1 q1 Λ F π H σ w _ fun F1 π1 H1 e1 w1 => ?_
  cases x with
  | false => exact b2 E S1 d S' q Λ F1 π1 H1 σ (w.step e1 w1) Q (p.step e1)
  | true =>
    cases q
    exact p F1 π1 H1 e1 w1
theorem dt_not (ha : DT X C a f1) : DT X C (.UnaryOp .Not a pos) (dNot f1) := by
  obtain ⟨ta, a1, a2⟩ := ha
  refine ⟨_, pt_not a1, fun E S d S' q Λ F π H σ w Q p => ?_⟩
  obtain ⟨⟨x, S1⟩, q1, q⟩ := Option.map_eq_some_iff.mp q
  cases q
  exact a2 E S x _ q1 Λ F π H σ w _ fun F1 π1 H1 e1 w1 => p F1 π1 H1 e1 w1
/-- the same as values -/
def dAndV (fa fb : DF D) : DF D := fun E S => (fa E S).bind fun p => match p.1 with
  | .bl true => fb E p.2
  | .bl false => some (.bl false, p.2)
  | _ => none
def dOrV (fa fb : DF D) : DF D := fun E S => (fa E S).bind fun p => match p.1 with
  | .bl false => fb E p.2
  | .bl true => some (.bl true, p.2)
  | _ => none
def dNotV (fa : DF D) : DF D := fun E S => (fa E S).bind fun p => match p.1 with
  | .bl b => some (.bl (!b), p.2)
  | _ => none
theorem de_one {op} (h : DE X C a fa) : DE X C (.BoolOp op [a] pos) fa := let ⟨_, h1, h2⟩ := h; ⟨_, pe_one h1, h2⟩
theorem de_and {rest : List Expr} (ha : DE X C a fa) (hb : DE X C (.BoolOp .And (b :: rest) pos) fb) : DE X C (.BoolOp .And (a :: b :: rest) pos) (dAndV fa fb) := by
  obtain ⟨ta, a1, a2⟩ := ha
  obtain ⟨tb, b1, b2⟩ := hb
  refine ⟨_, pe_and a1 b1, fun E S d S' q Λ F π H σ w Q p => ?_⟩
  obtain ⟨⟨x, S1⟩, q1, q⟩ := Option.bind_eq_some_iff.mp q
  refine a2 E S x S1 q1 Λ F π H σ w _ fun v F1 π1 H1 e1 w1 r1 => ?_
  cases x with
  | bl c =>
    refine ⟨c, r1, ?_⟩
    cases c with
    | true => exact b2 E S1 d S' q Λ F1 π1 H1 σ (w.step e1 w1) Q (p.step e1)
    | false =>
      cases q
      exact p _ F1 π1 H1 e1 w1 rfl
  | _ => cases q
theorem de_or {rest : List Expr} (ha : DE X C a fa) (hb : DE X C (.BoolOp .Or (b :: rest) pos) fb) : DE X C (.BoolOp .Or (a :: b :: rest) pos) (dOrV fa fb) := by
  obtain ⟨ta, a1, a2⟩ := ha
  obtain ⟨tb, b1, b2⟩ := hb
  refine ⟨_, pe_or a1 b1, fun E S d S' q Λ F π H σ w Q p => ?_⟩
  obtain ⟨⟨x, S1⟩, q1, q⟩ := Option.bind_eq_some_iff.mp q
  refine a2 E S x S1 q1 Λ F π H σ w _ fun v F1 π1 H1 e1 w1 r1 => ?_
  cases x with
  | bl c =>
    refine ⟨c, r1, ?_⟩
    cases c with
    | false => exact b2 E S1 d S' q Λ F1 π1 H1 σ (w.step e1 w1) Q (p.step e1)
    | true =>
      cases q
      exact p _ F1 π1 H1 e1 w1 rfl
  | _ => cases q
theorem de_not (ha : DE X C a fa) : DE X C (.UnaryOp .Not a pos) (dNotV fa) := by
  obtain ⟨ta, a1, a2⟩ := ha
  refine ⟨_, pe_not a1, fun E S d S' q Λ F π H σ w Q p => ?_⟩
  obtain ⟨⟨x, S1⟩, q1, q⟩ := Option.bind_eq_some_iff.mp q
  cases x with
  | bl c =>
    cases q
    refine a2 E S _ _ q1 Λ F π H σ w _ fun v F1 π1 H1 e1 w1 r1 => ?_
    exact ⟨c, r1, p _ F1 π1 H1 e1 w1 rfl⟩
  | _ => cases q
def dIf (f1 : DF Bool) (fa fb : DF D) : DF D := fun E S => (f1 E S).bind fun p => if p.1 = true then fa E p.2 else fb E p.2
theorem de_if {c : Expr} (hc : DT X C c f1) (ha : DE X C a fa) (hb : DE X C b fb) : DE X C (.IfExp c a b pos) (dIf f1 fa fb) := by
  obtain ⟨tc, c1, c2⟩ := hc
  obtain ⟨ta, a1, a2⟩ := ha
  obtain ⟨tb, b1, b2⟩ := hb
  refine ⟨_, pe_ifExp c1 a1 b1, fun E S d S' q Λ F π H σ w Q p => ?_⟩
  obtain ⟨⟨x, S1⟩, q1, q⟩ := Option.bind_eq_some_iff.mp q
  refine c2 E S x S1 q1 Λ F π H σ w _ fun F1 π1 H1 e1 w1 => ?_
  cases x with
  | true => exact a2 E S1 d S' q Λ F1 π1 H1 σ (w.step e1 w1) Q (p.step e1)
  | false => exact b2 E S1 d S' q Λ F1 π1 H1 σ (w.step e1 w1) Q (p.step e1)

/-! ### argument lists, displays -/
def dNil : DF (List D) := fun _ S => some ([], S)
def dCons (f : DF D) (g : DF (List D)) : DF (List D) := fun E S => (f E S).bind fun p => (g E p.2).map fun q => (p.1 :: q.1, q.2)
theorem da_nil : DA X C [] dNil := by
  refine ⟨_, pa_nil, fun E S d S' q Λ F π H σ w Q p => ?_⟩
  cases q
  exact p [] F π H (Ext.refl _ _ _) w.w rfl
theorem da_cons {es : List Expr} {g : DF (List D)} (ha : DE X C a fa) (hr : DA X C es g) (hs : starEach (a :: es) X.env = (false, eval a X.env) :: starEach es X.env := by rfl) : DA X C (a :: es) (dCons fa g) := by
  obtain ⟨ta, a1, a2⟩ := ha
  obtain ⟨tb, b1, b2⟩ := hr
  refine ⟨_, pa_cons a1 b1 hs, fun E S d S' q Λ F π H σ w Q p => ?_⟩
  obtain ⟨⟨x, S1⟩, q1, q⟩ := Option.bind_eq_some_iff.mp q
  obtain ⟨⟨xs, S2⟩, q2, q⟩ := Option.map_eq_some_iff.mp q
  cases q
  refine a2 E S x S1 q1 Λ F π H σ w _ fun v F1 π1 H1 e1 w1 r1 => ?_
  refine b2 E S1 xs _ q2 Λ F1 π1 H1 σ (w.step e1 w1) _ fun vs F2 π2 H2 e2 w2 r2 => ?_
  exact p (v :: vs) F2 π2 H2 (e1.trans e2) w2 ⟨v, vs, rfl, Rep.mono e2.f e2.p _ _ r1, r2⟩
/-- a bounded list -/
def few (f : DF (List D)) : DF (List D) := fun E S => (f E S).bind fun p => if p.1.length ≤ sizeLine then some p else none
theorem dn_lst {es : List Expr} {g : DF (List D)} (h : DA X C es g) : DN X C (.List es pos) (few g) := by
  obtain ⟨t, h1, h2⟩ := h
  refine ⟨_, pe_lst h1, fun E S d S' q Λ F π H σ w Q p => ?_⟩
  obtain ⟨⟨xs, S1⟩, q1, q⟩ := Option.bind_eq_some_iff.mp q
  split at q
  · rename_i hz
    cases q
    refine h2 E S d S' q1 Λ F π H σ w _ fun vs F1 π1 H1 e1 w1 r1 => ?_
    exact ⟨by rw [r1.length]; exact hz, fun a ha => (p.step e1).at w1 ha r1⟩
  · cases q
def dTup (g : DF (List D)) : DF D := fun E S => (few g E S).map fun p => (.tup p.1, p.2)
theorem de_tup {es : List Expr} {g : DF (List D)} {x1} (h : DA X C es g) : DE X C (.Tuple es x1 pos) (dTup g) := by
  obtain ⟨t, h1, h2⟩ := h
  refine ⟨_, pe_tup h1, fun E S d S' q Λ F π H σ w Q p => ?_⟩
  obtain ⟨⟨xs, S1⟩, q1, q⟩ := Option.map_eq_some_iff.mp q
  cases q
  obtain ⟨⟨xs', S1'⟩, q1, q⟩ := Option.bind_eq_some_iff.mp q1
  split at q
  · rename_i hz
    cases q
    refine h2 E S xs _ q1 Λ F π H σ w _ fun vs F1 π1 H1 e1 w1 r1 => ?_
    exact ⟨by rw [r1.length]; exact hz, fun a ha => (p.step e1).tupAt w1 ha r1⟩
  · cases q

/-! ### calls -/
def CallS (K : PySem.W.Frag) (C : Ctx) (r : List V → Hp → VK → Prop) (g : List Ob → List D → Option D) : Prop :=
  ∀ Λ F π S H ds vs d, g S ds = some d → Wd K C Λ F π S H → RepA K C F π ds vs → ∀ Q : VK, Post K C Λ F π H S d Q → r vs H Q
def CallSN (K : PySem.W.Frag) (C : Ctx) (r : List V → Hp → VK → Prop) (g : List Ob → List D → Option (List D)) : Prop :=
  ∀ Λ F π S H ds vs d, g S ds = some d → Wd K C Λ F π S H → RepA K C F π ds vs → ∀ Q : VK, PostN K C Λ F π H S d Q → r vs H Q
def dCB {α : Type} (g : List Ob → List D → Option α) (fa : DF (List D)) : DF α := fun E S => (fa E S).bind fun p => (g p.2 p.1).map fun d => (d, p.2)
theorem snd_cb {K : PySem.W.Frag} {r : List V → Hp → VK → Prop} {g : List Ob → List D → Option D} {t : TA} {fs : DF (List D)} (hg : CallS K C r g) (ha : SndA K C t fs) : Snd K C (tCB r t) (dCB g fs) := by
  intro E S d S' q Λ F π H σ w Q p
  obtain ⟨⟨x, S1⟩, q1, q⟩ := Option.bind_eq_some_iff.mp q
  obtain ⟨d', q2, q⟩ := Option.map_eq_some_iff.mp q
  cases q
  refine ha E S x _ q1 Λ F π H σ w _ fun vs F1 π1 H1 e1 w1 r1 => ?_
  exact hg Λ F1 π1 _ H1 x vs d q2 w1 r1 Q (p.step e1)
theorem snd_cbN {K : PySem.W.Frag} {r : List V → Hp → VK → Prop} {g : List Ob → List D → Option (List D)} {t : TA} {fs : DF (List D)} (hg : CallSN K C r g) (ha : SndA K C t fs) : SndN K C (tCB r t) (dCB g fs) := by
  intro E S d S' q Λ F π H σ w Q p
  obtain ⟨⟨x, S1⟩, q1, q⟩ := Option.bind_eq_some_iff.mp q
  obtain ⟨d', q2, q⟩ := Option.map_eq_some_iff.mp q
  cases q
  refine ha E S x _ q1 Λ F π H σ w _ fun vs F1 π1 H1 e1 w1 r1 => ?_
  exact hg Λ F1 π1 _ H1 x vs d q2 w1 r1 Q (p.step e1)
section
variable {es : List Expr} {fs : DF (List D)} {id T : String} {r : List V → Hp → VK → Prop} {x : Str} {p : Pos}
theorem de_callB {g : List Ob → List D → Option D} (hc : CallR X (.builtin id) r) (hS : CallS X.K C r g) (hm : X.mg x = none) (hv : bootBuiltins x = some (.builtin id)) (ha : DA X C (e :: es) fs) (hg : Gl X x := by rfl) (hn : x ≠ "__name__" := by decide) (hdb : (x == ("__debug__" : Str)) = false := by decide)
    (hs : starEach (e :: es) X.env = (false, eval e X.env) :: starEach es X.env := by rfl) (hpl : (backTo pos (starEach es X.env)).any (·.1) = false := by rfl) : DE X C (.Call (.Name x p) (e :: es) [] pos) (dCB g fs) := by
  obtain ⟨t, h1, h2⟩ := ha
  exact ⟨_, pe_callB hc hg hm hv h1 hn hdb hs hpl, snd_cb hS h2⟩
theorem de_callTy {g : List Ob → List D → Option D} (hc : CallR X (.type T) r) (hS : CallS X.K C r g) (hm : X.mg x = none) (hv : bootBuiltins x = some (.type T)) (ha : DA X C (e :: es) fs) (hg : Gl X x := by rfl) (hn : x ≠ "__name__" := by decide) (hdb : (x == ("__debug__" : Str)) = false := by decide)
    (hs : starEach (e :: es) X.env = (false, eval e X.env) :: starEach es X.env := by rfl) (hpl : (backTo pos (starEach es X.env)).any (·.1) = false := by rfl) : DE X C (.Call (.Name x p) (e :: es) [] pos) (dCB g fs) := by
  obtain ⟨t, h1, h2⟩ := ha
  exact ⟨_, pe_callTy hc hg hm hv h1 hn hdb hs hpl, snd_cb hS h2⟩
theorem dn_callB {g : List Ob → List D → Option (List D)} (hc : CallR X (.builtin id) r) (hS : CallSN X.K C r g) (hm : X.mg x = none) (hv : bootBuiltins x = some (.builtin id)) (ha : DA X C (e :: es) fs) (hg : Gl X x := by rfl) (hn : x ≠ "__name__" := by decide) (hdb : (x == ("__debug__" : Str)) = false := by decide)
    (hs : starEach (e :: es) X.env = (false, eval e X.env) :: starEach es X.env := by rfl) (hpl : (backTo pos (starEach es X.env)).any (·.1) = false := by rfl) : DN X C (.Call (.Name x p) (e :: es) [] pos) (dCB g fs) := by
  obtain ⟨t, h1, h2⟩ := ha
  exact ⟨_, pe_callB hc hg hm hv h1 hn hdb hs hpl, snd_cbN hS h2⟩
theorem dn_callTy {g : List Ob → List D → Option (List D)} (hc : CallR X (.type T) r) (hS : CallSN X.K C r g) (hm : X.mg x = none) (hv : bootBuiltins x = some (.type T)) (ha : DA X C (e :: es) fs) (hg : Gl X x := by rfl) (hn : x ≠ "__name__" := by decide) (hdb : (x == ("__debug__" : Str)) = false := by decide)
    (hs : starEach (e :: es) X.env = (false, eval e X.env) :: starEach es X.env := by rfl) (hpl : (backTo pos (starEach es X.env)).any (·.1) = false := by rfl) : DN X C (.Call (.Name x p) (e :: es) [] pos) (dCB g fs) := by
  obtain ⟨t, h1, h2⟩ := ha
  exact ⟨_, pe_callTy hc hg hm hv h1 hn hdb hs hpl, snd_cbN hS h2⟩
end
end
end DL

set_option Elab.async false
set_option linter.all false
set_option maxRecDepth 100000
set_option maxHeartbeats 2000000
/-! DL: statements, loops, comprehensions, defs. -/
namespace DL
open PySem PySem.Spec PyProof.Rows L2

/-! ### statements -/
section
variable {X : Cx} {C : Ctx} {e a b : Expr} {f fa fb : DF D} {pos : Pos} {st : Stmt} {rest : List Stmt} {g g' : DFS}
def sNil : DFS := fun E S => some (.nx E, S)
def sSeq (f g : DFS) : DFS := fun E S => (f E S).bind fun p => match p.1 with
  | .nx E' => g E' p.2
  | .rt d => some (.rt d, p.2)
  | .bk E' => some (.bk E', p.2)
  | .ct E' => some (.ct E', p.2)
theorem PostS.nxt {K : PySem.W.Frag} {Λ : Lk} {F : Hp} {π : List Addr} {S : List Ob} {H : Hp} {σ : L2.St} {E : SE} {Dn : Ends} (p : PostS K C Λ F π H S (.nx E) Dn) (w : At K C Λ F π S H σ E) : Dn.nx σ H := p σ F π H (Ext.refl _ _ _) w.w w.r
theorem db_nil : DB X C [] sNil := by
  refine ⟨_, pss_nil, fun E S o S' q Λ F π H σ w Dn p => ?_⟩
  cases q
  exact p.nxt w
theorem db_cons (h1 : DSt X C st g) (h2 : DB X C rest g') : DB X C (st :: rest) (sSeq g g') := by
  obtain ⟨t, a1, a2⟩ := h1
  obtain ⟨u, b1, b2⟩ := h2
  refine ⟨_, pss_cons a1 b1, fun E S o S' q Λ F π H σ w Dn p => ?_⟩
  obtain ⟨⟨o1, S1⟩, q1, q⟩ := Option.bind_eq_some_iff.mp q
  refine a2 E S o1 S1 q1 Λ F π H σ w _ ?_
  cases o1 with
  | nx E1 => exact fun σ1 F1 π1 H1 e1 w1 r1 => b2 E1 S1 o S' q Λ F1 π1 H1 σ1 ⟨w1, r1⟩ Dn (p.step e1)
  | rt d =>
    cases q
    exact p
  | bk E1 =>
    cases q
    exact p
  | ct E1 =>
    cases q
    exact p
theorem db_one (h1 : DSt X C st g) : DB X C [st] g := let ⟨_, a1, a2⟩ := h1; ⟨_, pss_one a1, a2⟩
def sAsg (i : Nat) (f : DF D) : DFS := fun E S => (f E S).map fun p => (.nx (E.set i (some p.1)), p.2)
theorem snd_asg {K : PySem.W.Frag} {t : TE} {i : Nat} (h : Snd K C t f) : SndS K C (tAsg t (gName i)) (sAsg i f) := by
  intro E S o S' q Λ F π H σ w Dn p
  obtain ⟨⟨d, S1⟩, q1, q⟩ := Option.map_eq_some_iff.mp q
  cases q
  exact h E S d _ q1 Λ F π H σ w _ fun v F1 π1 H1 e1 w1 r1 => p (σ.set i (some v)) F1 π1 H1 e1 w1 ((w.r.mono e1.f e1.p).set i r1)
theorem ds_set (i : Nat) {x : Str} {pos' : Pos} (hN : X.N.Nodup) (he : DE X C e f) (hi : X.N[i]? = some x := by rfl) (hx : Loc X.env.scope x := by first | exact Or.inl rfl | exact Or.inr rfl) (hs : swapsWith e (some (.Name x pos')) pos.line X.env = pure false := by rfl)
    (hf : X.fn x = true ∨ X.env.scope.names.lookup x = some .local := by first | exact .inl rfl | exact .inr rfl | assumption) : DSt X C (.Assign [.Name x pos'] e pos) (sAsg i f) := by
  obtain ⟨t, h1, h2⟩ := he
  exact ⟨_, ps_set hN hi hx h1 hs hf, snd_asg h2⟩
def sDrop (f : DF D) : DFS := fun E S => (f E S).map fun p => (.nx E, p.2)
theorem ds_expr (he : DE X C e f) (hs : swapsWith e none pos.line X.env = pure false := by rfl) : DSt X C (.Expr e pos) (sDrop f) := by
  obtain ⟨t, h1, h2⟩ := he
  refine ⟨_, ps_expr h1 hs, fun E S o S' q Λ F π H σ w Dn p => ?_⟩
  obtain ⟨⟨d, S1⟩, q1, q⟩ := Option.map_eq_some_iff.mp q
  cases q
  exact h2 E S d _ q1 Λ F π H σ w _ fun v F1 π1 H1 e1 w1 r1 => p σ F1 π1 H1 e1 w1 (w.r.mono e1.f e1.p)
def sRet (f : DF D) : DFS := fun E S => (f E S).map fun p => (.rt p.1, p.2)
theorem ds_ret (he : DE X C e f) : DSt X C (.Return (some e) pos) (sRet f) := by
  obtain ⟨t, h1, h2⟩ := he
  refine ⟨_, ps_ret h1, fun E S o S' q Λ F π H σ w Dn p => ?_⟩
  obtain ⟨⟨d, S1⟩, q1, q⟩ := Option.map_eq_some_iff.mp q
  cases q
  exact h2 E S d _ q1 Λ F π H σ w _ p
def sIf (c : DF Bool) (f g : DFS) : DFS := fun E S => (c E S).bind fun p => if p.1 = true then f E p.2 else g E p.2
theorem ds_if {c : Expr} {fc : DF Bool} {A B : List Stmt} (hc : DT X C c fc) (ha : DB X C A g) (hb : DB X C B g') : DSt X C (.If c A B pos) (sIf fc g g') := by
  obtain ⟨t, c1, c2⟩ := hc
  obtain ⟨u, a1, a2⟩ := ha
  obtain ⟨z, b1, b2⟩ := hb
  refine ⟨_, ps_if c1 a1 b1, fun E S o S' q Λ F π H σ w Dn p => ?_⟩
  obtain ⟨⟨x, S1⟩, q1, q⟩ := Option.bind_eq_some_iff.mp q
  refine c2 E S x S1 q1 Λ F π H σ w _ fun F1 π1 H1 e1 w1 => ?_
  cases x with
  | true => exact a2 E S1 o S' q Λ F1 π1 H1 σ (w.step e1 w1) Dn (p.step e1)
  | false => exact b2 E S1 o S' q Λ F1 π1 H1 σ (w.step e1 w1) Dn (p.step e1)
/-- what is never reached -/
def sNever : DFS := fun _ _ => none
theorem ds_never : DSt X C st sNever := ⟨_, ps_never, fun E S o S' q => nomatch q⟩
def sPass : DFS := sNil
theorem ds_pass : DSt X C (.Pass pos) sPass := by
  refine ⟨_, ps_pass, fun E S o S' q Λ F π H σ w Dn p => ?_⟩
  cases q
  exact p.nxt w
def sRetN : DFS := fun _ S => some (.rt .non, S)
theorem ds_retN : DSt X C (.Return none pos) sRetN := by
  refine ⟨_, ps_retN, fun E S o S' q Λ F π H σ w Dn p => ?_⟩
  cases q
  exact Post.val p w.w rfl
/-- name op= e -/
def sAug (i : Nat) (g : List Ob → D → D → Option D) (f : DF D) : DFS := fun E S => match E[i]? with
  | some (some x) => (f E S).bind fun p => (g p.2 x p.1).map fun d => (.nx (E.set i (some d)), p.2)
  | _ => none
theorem ds_aug (i : Nat) {x : Str} {op : Operator} {r : R2} {go : List Ob → D → D → Option D} {pos' : Pos} (hN : X.N.Nodup) (ho : OpR X (inplaceOp op) r) (hg : Op2 X.K C r go) (he : DE X C e f) (hi : X.N[i]? = some x := by rfl) (hx : Loc X.env.scope x := by first | exact Or.inl rfl | exact Or.inr rfl)
    (hf : X.fn x = true ∨ X.env.scope.names.lookup x = some .local := by first | exact .inl rfl | exact .inr rfl | assumption) : DSt X C (.AugAssign (.Name x pos') op e pos) (sAug i go f) := by
  obtain ⟨t, h1, h2⟩ := he
  refine ⟨_, ps_aug hN hi hx h1 ho hf, fun E S o S' q Λ F π H σ w Dn p => ?_⟩
  unfold sAug at q
  split at q
  · rename_i y hy
    obtain ⟨⟨d, S1⟩, q1, q⟩ := Option.bind_eq_some_iff.mp q
    obtain ⟨z, q2, q⟩ := Option.map_eq_some_iff.mp q
    cases q
    obtain ⟨v, v1, v2⟩ := w.r.2 i y hy
    refine ⟨v, v1, h2 E S d _ q1 Λ F π H σ w _ fun u F1 π1 H1 e1 w1 r1 => ?_⟩
    refine hg Λ F1 π1 _ H1 y d v u z q2 w1 (Rep.mono e1.f e1.p _ _ v2) r1 _ fun v3 F2 π2 H2 e2 w2 r2 => ?_
    exact p (σ.set i (some v3)) F2 π2 H2 (e1.trans e2) w2 ((w.r.mono (e1.trans e2).f (e1.trans e2).p).set i r2)
  · cases q
end

/-! ### targets -/
abbrev DFG := D → SE → List Ob → Option (SE × List Ob)
def SndG (K : PySem.W.Frag) (C : Ctx) (ws : List Nat) (g : TG) (f : DFG) : Prop := ∀ d E S E' S', f d E S = some (E', S') → ∀ Λ F π H σ v, At K C Λ F π S H σ E → Rep K C F π d v → ∀ Q : L2.St → Hp → Prop,
  (∀ σ' F' π' H', Ext F π H F' π' H' → At K C Λ F' π' S' H' σ' E' → (σ'.length = σ.length ∧ ∀ j, j ∉ ws → σ'[j]? = σ[j]?) → Q σ' H') → g v σ H Q
def DG (X : Cx) (C : Ctx) (ws : List Nat) (e : Expr) (f : DFG) : Prop := ∃ g, PG X e g ∧ SndG X.K C ws g f
abbrev DFGs := List D → SE → List Ob → Option (SE × List Ob)
def SndGs (K : PySem.W.Frag) (C : Ctx) (ws : List Nat) (g : TGs) (f : DFGs) : Prop := ∀ d E S E' S', f d E S = some (E', S') → ∀ Λ F π H σ v, At K C Λ F π S H σ E → RepA K C F π d v → ∀ Q : L2.St → Hp → Prop,
  (∀ σ' F' π' H', Ext F π H F' π' H' → At K C Λ F' π' S' H' σ' E' → (σ'.length = σ.length ∧ ∀ j, j ∉ ws → σ'[j]? = σ[j]?) → Q σ' H') → g v σ H Q
def DGs (X : Cx) (C : Ctx) (ws : List Nat) (es : List Expr) (f : DFGs) : Prop := ∃ g, PGs X es g ∧ SndGs X.K C ws g f
section
variable {X : Cx} {C : Ctx} {e : Expr} {es : List Expr} {pos : Pos} {ws us : List Nat}
def gN (i : Nat) : DFG := fun d E S => some (E.set i (some d), S)
theorem dg_name (i : Nat) {x : Str} (hN : X.N.Nodup) (hi : X.N[i]? = some x := by rfl) (hx : Loc X.env.scope x := by first | exact Or.inl rfl | exact Or.inr rfl) (hf : X.fn x = true ∨ X.env.scope.names.lookup x = some .local := by first | exact .inl rfl | exact .inr rfl | assumption) : DG X C [i] (.Name x pos) (gN i) := by
  refine ⟨_, pg_name hN hi hx hf, fun d E S E' S' q Λ F π H σ v w r Q p => ?_⟩
  cases q
  refine p (σ.set i (some v)) F π H (Ext.refl _ _ _) ⟨w.w, w.r.set i r⟩ ⟨List.length_set, fun j hj => ?_⟩
  exact List.getElem?_set_ne (fun z => hj (by rw [z]; exact List.mem_singleton_self _))
def gsNil : DFGs := fun ds E S => match ds with
  | [] => some (E, S)
  | _ => none
def gsCons (f : DFG) (g : DFGs) : DFGs := fun ds E S => match ds with
  | d :: r => (f d E S).bind fun p => g r p.1 p.2
  | [] => none
theorem dgs_nil : DGs X C [] [] gsNil := by
  refine ⟨_, pgs_nil, fun d E S E' S' q Λ F π H σ v w r Q p => ?_⟩
  cases d with
  | nil =>
    cases q
    exact ⟨r, p σ F π H (Ext.refl _ _ _) w ⟨rfl, fun _ _ => rfl⟩⟩
  | cons _ _ => cases q
theorem dgs_cons {f : DFG} {g : DFGs} (h1 : DG X C ws e f) (h2 : DGs X C us es g) (hs : (assignEach (e :: es) X.env).map (·.2) = assign e X.env :: (assignEach es X.env).map (·.2) := by rfl) : DGs X C (ws ++ us) (e :: es) (gsCons f g) := by
  obtain ⟨t, a1, a2⟩ := h1
  obtain ⟨u, b1, b2⟩ := h2
  refine ⟨_, pgs_cons a1 b1 hs, fun d E S E' S' q Λ F π H σ v w r Q p => ?_⟩
  cases d with
  | nil => cases q
  | cons d ds =>
    obtain ⟨⟨E1, S1⟩, q1, q⟩ := Option.bind_eq_some_iff.mp q
    obtain ⟨v1, vr, rfl, r1, r2⟩ := r
    refine ⟨v1, vr, rfl, a2 d E S E1 S1 q1 Λ F π H σ v1 w r1 _ fun σ1 F1 π1 H1 e1 w1 k1 => ?_⟩
    refine b2 ds E1 S1 E' S' q Λ F1 π1 H1 σ1 vr w1 (RepA.mono e1.f e1.p _ _ r2) _ fun σ2 F2 π2 H2 e2 w2 k2 => ?_
    refine p σ2 F2 π2 H2 (e1.trans e2) w2 ⟨k2.1.trans k1.1, fun j hj => ?_⟩
    rw [k2.2 j (fun z => hj (List.mem_append_right _ z)), k1.2 j (fun z => hj (List.mem_append_left _ z))]
def gTu (n : Nat) (f : DFGs) : DFG := fun d E S => match tupOf d with
  | some xs => if xs.length = n then f xs E S else none
  | none => none
theorem dg_tup {k : Nat} {f : DFGs} {n : Nat} (h : DGs X C ws es f) (hc : X.calm = true := by rfl) (hn : (assignEach es X.env).length = n := by rfl) (hst : (assignEach es X.env).findIdx? (·.1) = none := by rfl) : DG X C ws (.Tuple es k pos) (gTu n f) := by
  obtain ⟨t, a1, a2⟩ := h
  refine ⟨_, pg_tup hc a1 hn hst, fun d E S E' S' q Λ F π H σ v w r Q p => ?_⟩
  unfold gTu at q
  split at q
  · rename_i xs hx
    split at q
    · rename_i hz
      obtain ⟨a, vs, r1, r2, r3⟩ := tup_ok w.w r hx
      exact ⟨a, vs, r1, r2, by rw [r3.length]; exact hz, a2 xs E S E' S' q Λ F π H σ vs w r3 Q p⟩
    · cases q
  · cases q
/-- target = e -/
def sAsgG (f : DF D) (g : DFG) : DFS := fun E S => (f E S).bind fun p => (g p.1 E p.2).map fun q => (.nx q.1, q.2)
theorem ds_asg {tg : Expr} {f : DF D} {g : DFG} (he : DE X C e f) (hg : DG X C ws tg g) (hs : swapsWithSole [tg] e pos.line X.env = pure false := by rfl) (hw : swappedStores [tg] e X.env = pure none := by rfl)
    (h1 : (assignEach [tg] X.env).map (·.2) = [assign tg X.env] := by rfl) : DSt X C (.Assign [tg] e pos) (sAsgG f g) := by
  obtain ⟨t, a1, a2⟩ := he
  obtain ⟨u, b1, b2⟩ := hg
  refine ⟨_, ps_asg a1 b1 hs hw h1, fun E S o S' q Λ F π H σ w Dn p => ?_⟩
  obtain ⟨⟨d, S1⟩, q1, q⟩ := Option.bind_eq_some_iff.mp q
  obtain ⟨⟨E2, S2⟩, q2, q⟩ := Option.map_eq_some_iff.mp q
  cases q
  refine a2 E S d S1 q1 Λ F π H σ w _ fun v F1 π1 H1 e1 w1 r1 => ?_
  exact b2 d E S1 E2 _ q2 Λ F1 π1 H1 σ v (w.step e1 w1) r1 _ fun σ2 F2 π2 H2 e2 w2 _ => p σ2 F2 π2 H2 (e1.trans e2) w2.w w2.r
/-- a, b = x, y with plain local names -/
def sPar (i j : Nat) (f : DF (List D)) : DFS := fun E S => (f E S).bind fun p => match p.1 with
  | [x, y] => some (.nx ((E.set i (some x)).set j (some y)), p.2)
  | _ => none
theorem ds_par (i j : Nat) {x y : Str} {a b : Expr} {f : DF (List D)} {px py pt : Pos} {kt k2 pt2} (hN : X.N.Nodup) (ha : DA X C [a, b] f) (hij : i ≠ j := by decide) (hi : X.N[i]? = some x := by rfl) (hj : X.N[j]? = some y := by rfl)
    (hx : X.env.scope.names.lookup x = some .local := by rfl) (hy : X.env.scope.names.lookup y = some .local := by rfl) (hc : X.calm = true := by rfl)
    (hw : swappedStores [.Tuple [.Name x px, .Name y py] kt pt] (.Tuple [a, b] k2 pt2) X.env = pure (some [x, y]) := by rfl)
    (hs : swapsWithSole [.Tuple [.Name x px, .Name y py] kt pt] (.Tuple [a, b] k2 pt2) pos.line X.env = pure false := by rfl) :
    DSt X C (.Assign [.Tuple [.Name x px, .Name y py] kt pt] (.Tuple [a, b] k2 pt2) pos) (sPar i j f) := by
  obtain ⟨t, a1, a2⟩ := ha
  refine ⟨_, ps_par hc hN hi hj hij hx hy a1 hw hs, fun E S o S' q Λ F π H σ w Dn p => ?_⟩
  obtain ⟨⟨ds, S1⟩, q1, q⟩ := Option.bind_eq_some_iff.mp q
  cases ds with
  | nil => cases q
  | cons d ds =>
    cases ds with
    | nil => cases q
    | cons d2 ds =>
      cases ds with
      | cons _ _ => cases q
      | nil =>
        cases q
        refine a2 E S _ _ q1 Λ F π H σ w _ fun vs F1 π1 H1 e1 w1 r1 => ?_
        obtain ⟨v, vr, rfl, r1, r2⟩ := r1
        obtain ⟨u, ur, rfl, r2, r3⟩ := r2
        cases (show ur = [] from r3)
        exact ⟨v, u, rfl, p _ F1 π1 H1 e1 w1 (((w.r.mono e1.f e1.p).set i r1).set j r2)⟩
end

/-! ### what a loop walks -/
inductive Src where
  | fix (xs : List D) | live (d : D) | keys (k : Nat) | vals (k : Nat) | items (k : Nat)
def dictK (S : List Ob) (k : Nat) : Option (List (D × D)) := match S[k]? with
  | some (.lkK l) => some (l.map fun p => (keyD p.1, p.2))
  | some (.lkT l) => some (l.map fun p => (keyT p.1, p.2))
  | _ => none
/-- the i-th thing (some none: the end) -/
def Src.at (S : List Ob) (i : Nat) : Src → Option (Option D)
  | .fix xs => some xs[i]?
  | .live d => (lstOf S d).map fun l => l[i]?
  | .keys k => (dictK S k).map fun l => (l[i]?).map fun p => p.1
  | .vals k => (dictK S k).map fun l => (l[i]?).map fun p => p.2
  | .items k => (dictK S k).map fun l => (l[i]?).map fun p => .tup [p.1, p.2]
def Src.len (S : List Ob) : Src → Nat
  | .fix xs => xs.length
  | .live d => ((lstOf S d).map fun l => l.length).getD 0
  | .keys k | .vals k | .items k => ((dictK S k).map fun l => l.length).getD 0
def Gives (K : PySem.W.Frag) (C : Ctx) (Λ : Lk) (J : It) (s : Src) (F : Hp) (π : List Addr) (H : Hp) : Prop := ∀ i F2 π2 S2 H2, Sub F π F2 π2 → Wd K C Λ F2 π2 S2 H2 →
  (s.at S2 i = some none → J.stop i H2) ∧ ∀ d, s.at S2 i = some (some d) → J.go i H2 ∧ ∀ x H3, J.yld i H2 x H3 → ∃ F3, Ext F2 π2 H2 F3 π2 H3 ∧ Wd K C Λ F3 π2 S2 H3 ∧ Rep K C F3 π2 d x
def SndI (K : PySem.W.Frag) (C : Ctx) (t : TI) (f : DF Src) : Prop := ∀ E S s S', f E S = some (s, S') → ∀ Λ F π H σ, At K C Λ F π S H σ E → ∀ R : It → Hp → Prop,
  (∀ J F' π' H', Ext F π H F' π' H' → Wd K C Λ F' π' S' H' → Gives K C Λ J s F' π' H' → R J H') → t σ H R
def DI (X : Cx) (C : Ctx) (tg e : Expr) (f : DF Src) : Prop := ∃ t, PI X tg e t ∧ SndI X.K C t f
section
variable {X : Cx} {C : Ctx} {e : Expr} {tg : Expr} {es : List Expr} {pos : Pos}
/-- a list, as it stands at each turn -/
def iLst (f : DF D) : DF Src := fun E S => (f E S).bind fun p => match lstOf p.2 p.1 with
  | some _ => some (.live p.1, p.2)
  | none => none
theorem di_lst {f : DF D} (h : DE X C e f) : DI X C tg e (iLst f) := by
  obtain ⟨t, a1, a2⟩ := h
  refine ⟨_, pi_list a1, fun E S s S' q Λ F π H σ w R p => ?_⟩
  obtain ⟨⟨d, S1⟩, q1, q⟩ := Option.bind_eq_some_iff.mp q
  simp only at q
  split at q
  · rename_i xs hx
    cases q
    refine a2 E S d _ q1 Λ F π H σ w _ fun v F1 π1 H1 e1 w1 r1 => ?_
    obtain ⟨a, vs, rfl, l2, l3⟩ := lstOf_ok w1 r1 hx
    refine ⟨a, rfl, ⟨vs, .inl (.inl l2)⟩, p _ F1 π1 H1 e1 w1 fun i F2 π2 S2 H2 e2 w2 => ?_⟩
    have r2 := Rep.mono e2.f e2.p _ _ r1
    refine ⟨fun z => ?_, fun d' z => ?_⟩
    · obtain ⟨ys, y1, y2⟩ := Option.map_eq_some_iff.mp z
      obtain ⟨b, us, e3, m2, m3⟩ := lstOf_ok w2 r2 y1
      cases e3
      refine ⟨us, .inl (.inl m2), ?_⟩
      rw [m3.length]
      exact List.getElem?_eq_none_iff.mp y2
    · obtain ⟨ys, y1, y2⟩ := Option.map_eq_some_iff.mp z
      obtain ⟨b, us, e3, m2, m3⟩ := lstOf_ok w2 r2 y1
      cases e3
      obtain ⟨u, u1, u2⟩ := m3.get y2
      refine ⟨⟨us, u, .inl (.inl m2), u1⟩, fun x H3 y => ?_⟩
      obtain ⟨rfl, y⟩ := y
      have := y us (.inl (.inl m2))
      rw [u1] at this
      cases this
      exact ⟨F2, Ext.refl _ _ _, w2, u2⟩
  · cases q
def iTu (f : DF D) : DF Src := fun E S => (f E S).bind fun p => (tupOf p.1).map fun xs => (.fix xs, p.2)
theorem di_tup {f : DF D} (h : DE X C e f) : DI X C tg e (iTu f) := by
  obtain ⟨t, a1, a2⟩ := h
  refine ⟨_, pi_tup a1, fun E S s S' q Λ F π H σ w R p => ?_⟩
  obtain ⟨⟨d, S1⟩, q1, q⟩ := Option.bind_eq_some_iff.mp q
  obtain ⟨xs, hx, q⟩ := Option.map_eq_some_iff.mp q
  cases q
  refine a2 E S _ _ q1 Λ F π H σ w _ fun v F1 π1 H1 e1 w1 r1 => ?_
  obtain ⟨a, vs, rfl, l2, l3⟩ := tup_ok w1 r1 hx
  refine ⟨a, rfl, ⟨vs, l2⟩, p _ F1 π1 H1 e1 w1 fun i F2 π2 S2 H2 e2 w2 => ?_⟩
  obtain ⟨b, us, e3, m2, m3⟩ := tup_ok w2 (Rep.mono e2.f e2.p _ _ r1) hx
  cases e3
  refine ⟨fun z => ?_, fun d' z => ?_⟩
  · refine ⟨us, m2, ?_⟩
    rw [m3.length]
    exact List.getElem?_eq_none_iff.mp (Option.some.inj z)
  · obtain ⟨u, u1, u2⟩ := m3.get (Option.some.inj z)
    refine ⟨⟨us, u, m2, u1⟩, fun x H3 y => ?_⟩
    obtain ⟨rfl, y⟩ := y
    have := y us m2
    rw [u1] at this
    cases this
    exact ⟨F2, Ext.refl _ _ _, w2, u2⟩
/-- a text, sign by sign -/
def signsOf (x : Str) : List D := x.cps.toList.map fun c => .str ⟨#[c]⟩
def iSt (f : DF D) : DF Src := fun E S => (f E S).bind fun p => match p.1 with
  | .str x => some (.fix (signsOf x), p.2)
  | _ => none
theorem di_str {f : DF D} (h : DE X C e f) : DI X C tg e (iSt f) := by
  obtain ⟨t, a1, a2⟩ := h
  refine ⟨_, pi_str a1, fun E S s S' q Λ F π H σ w R p => ?_⟩
  obtain ⟨⟨d, S1⟩, q1, q⟩ := Option.bind_eq_some_iff.mp q
  cases d with
  | str z =>
    cases q
    refine a2 E S _ _ q1 Λ F π H σ w _ fun v F1 π1 H1 e1 w1 r1 => ?_
    refine ⟨z, r1, p _ F1 π1 H1 e1 w1 fun i F2 π2 S2 H2 e2 w2 => ⟨fun y => ?_, fun d' y => ?_⟩⟩
    · have y := List.getElem?_eq_none_iff.mp (Option.some.inj y)
      rw [signsOf, List.length_map, Array.length_toList] at y
      exact y
    · have y := Option.some.inj y
      rw [signsOf, List.getElem?_map, Array.getElem?_toList] at y
      obtain ⟨c, c1, c2⟩ := Option.map_eq_some_iff.mp y
      refine ⟨(Array.getElem?_eq_some_iff.mp c1).1, fun x H3 y => ?_⟩
      obtain ⟨rfl, c', h1, h2⟩ := y
      rw [c1] at h1
      cases h1
      cases c2
      exact ⟨F2, Ext.refl _ _ _, w2, h2⟩
  | _ => cases q
/-- range(n), range(a, b) -/
def upto (lo : Int) (n : Nat) : List D := (List.range n).map fun i : Nat => .int (lo + (i : Int))
def iRg1 (f : DF (List D)) : DF Src := fun E S => (f E S).bind fun p => match p.1 with
  | [.int j] => if -(2 ^ 62) ≤ j ∧ j < 2 ^ 62 then some (.fix (upto 0 j.toNat), p.2) else none
  | _ => none
theorem gives_range {K : PySem.W.Frag} {Λ : Lk} {lo : Int} {n : Nat} {F : Hp} {π : List Addr} {H : Hp} : Gives K C Λ (Itr lo n) (.fix (upto lo n)) F π H := by
  intro i F2 π2 S2 H2 e2 w2
  refine ⟨fun y => ?_, fun d' y => ?_⟩
  · have y := List.getElem?_eq_none_iff.mp (Option.some.inj y)
    rw [upto, List.length_map, List.length_range] at y
    exact y
  · have y := Option.some.inj y
    rw [upto, List.getElem?_map] at y
    obtain ⟨c, c1, c2⟩ := Option.map_eq_some_iff.mp y
    have hi : i < n := by
      have := (List.getElem?_eq_some_iff.mp c1).1
      rwa [List.length_range] at this
    rw [List.getElem?_range hi] at c1
    cases c1
    cases c2
    refine ⟨hi, fun x H3 y => ?_⟩
    obtain ⟨rfl, rfl⟩ := y
    exact ⟨F2, Ext.refl _ _ _, w2, rfl⟩
theorem di_range1 {a : Expr} {p : Pos} {f : DF (List D)} (hm : X.mg "range" = none) (ha : DA X C [a] f) (hg : Gl X "range" := by rfl) (hs : starEach [a] X.env = [(false, eval a X.env)] := by rfl) : DI X C tg (.Call (.Name "range" p) [a] [] pos) (iRg1 f) := by
  obtain ⟨t, a1, a2⟩ := ha
  refine ⟨_, pi_range1 hg hm a1 hs, fun E S s S' q Λ F π H σ w R p => ?_⟩
  obtain ⟨⟨ds, S1⟩, q1, q⟩ := Option.bind_eq_some_iff.mp q
  simp only at q
  split at q
  · rename_i j
    split at q
    · rename_i hz
      cases q
      refine a2 E S _ _ q1 Λ F π H σ w _ fun vs F1 π1 H1 e1 w1 r1 => ?_
      obtain ⟨v, vr, rfl, r1, r2⟩ := r1
      cases (show v = .int j from r1)
      cases (show vr = [] from r2)
      exact ⟨j, rfl, hz.1, hz.2, p _ F1 π1 H1 e1 w1 gives_range⟩
    · cases q
  · cases q
def iRg2 (f : DF (List D)) : DF Src := fun E S => (f E S).bind fun p => match p.1 with
  | [.int i, .int j] => if -(2 ^ 62) ≤ i ∧ i < 2 ^ 62 ∧ -(2 ^ 62) ≤ j ∧ j < 2 ^ 62 then some (.fix (upto i (j - i).toNat), p.2) else none
  | _ => none
theorem di_range2 {a b : Expr} {p : Pos} {f : DF (List D)} (hm : X.mg "range" = none) (ha : DA X C [a, b] f) (hg : Gl X "range" := by rfl) (hs : starEach [a, b] X.env = [(false, eval a X.env), (false, eval b X.env)] := by rfl) (hs2 : starEach [b] X.env = [(false, eval b X.env)] := by rfl) : DI X C tg (.Call (.Name "range" p) [a, b] [] pos) (iRg2 f) := by
  obtain ⟨t, a1, a2⟩ := ha
  refine ⟨_, pi_range2 hg hm a1 hs hs2, fun E S s S' q Λ F π H σ w R p => ?_⟩
  obtain ⟨⟨ds, S1⟩, q1, q⟩ := Option.bind_eq_some_iff.mp q
  simp only at q
  split at q
  · rename_i i j
    split at q
    · rename_i hz
      cases q
      refine a2 E S _ _ q1 Λ F π H σ w _ fun vs F1 π1 H1 e1 w1 r1 => ?_
      obtain ⟨v, vr, rfl, r1, r2⟩ := r1
      obtain ⟨u, ur, rfl, r2, r3⟩ := r2
      cases (show v = .int i from r1)
      cases (show u = .int j from r2)
      cases (show ur = [] from r3)
      exact ⟨i, j, rfl, hz, p _ F1 π1 H1 e1 w1 gives_range⟩
    · cases q
  · cases q
end

/-! ### for, while -/
def loopF (tg : DFG) (b : DFS) (s : Src) : Nat → Nat → DFS
  | 0, i => fun E S => match s.at S i with
    | some none => some (.nx E, S)
    | _ => none
  | n + 1, i => fun E S => match s.at S i with
    | some none => some (.nx E, S)
    | some (some d) => (tg d E S).bind fun p => (b p.1 p.2).bind fun q => match q.1 with
      | .nx E' => loopF tg b s n (i + 1) E' q.2
      | .ct E' => loopF tg b s n (i + 1) E' q.2
      | .bk E' => some (.nx E', q.2)
      | .rt d => some (.rt d, q.2)
    | none => none
def sFor (fi : DF Src) (tg : DFG) (b : DFS) : DFS := fun E S => (fi E S).bind fun p => loopF tg b p.1 (p.1.len p.2) 0 E p.2
section
variable {X : Cx} {C : Ctx} {ws : List Nat} {tg iter : Expr} {body : List Stmt} {pos : Pos}
theorem ds_for {fi : DF Src} {g : DFG} {fb : DFS} (hi : DI X C tg iter fi) (hg : DG X C ws tg g) (hb : DB X C body fb) (hp : PassesOwn (model X.prog X.w) X.A X.env X.xe := by exact PassesOwn.never) (hc : X.calm = true := by rfl)
    (hs : ∀ x, foldedSetIterable iter X.env x = pure x := by intro _; rfl) : DSt X C (.For tg iter body [] pos) (sFor fi g fb) := by
  obtain ⟨wi, i1, i2⟩ := hi
  obtain ⟨tgt, g1, g2⟩ := hg
  obtain ⟨tb, b1, b2⟩ := hb
  refine ⟨_, ps_for hp hc i1 g1 b1 hs, fun E S o S' q Λ F π H σ w Dn p => ?_⟩
  obtain ⟨⟨s, S1⟩, q1, q⟩ := Option.bind_eq_some_iff.mp q
  simp only at q
  refine i2 E S s S1 q1 Λ F π H σ w _ fun J F1 π1 H1 e1 w1 gv => ?_
  refine ⟨fun i m σ' H' => ∃ F' π' S2 E', Ext F1 π1 H1 F' π' H' ∧ At X.K C Λ F' π' S2 H' σ' E' ∧ loopF g fb s m i E' S2 = some (o, S'), ⟨_, F1, π1, S1, E, Ext.refl _ _ _, w.step e1 w1, q⟩, ?_⟩
  rintro i m σ' H' ⟨F', π', S2, E', e', a', l⟩
  have gi := gv i F' π' S2 H' e'.sub a'.w
  have stop : s.at S2 i = some none → (Out.nx E', S2) = (o, S') → (J.stop i H' ∧ Dn.nx σ' H') := fun z y => by
    cases y
    exact ⟨gi.1 z, (p.step (e1.trans e')).nxt a'⟩
  cases m with
  | zero =>
    simp only [loopF] at l
    split at l
    · rename_i z
      exact .inl (stop z (Option.some.inj l))
    · cases l
  | succ m =>
    simp only [loopF] at l
    split at l
    · rename_i z
      exact .inl (stop z (Option.some.inj l))
    · rename_i d z
      obtain ⟨⟨E3, S3⟩, l1, l⟩ := Option.bind_eq_some_iff.mp l
      obtain ⟨⟨o4, S4⟩, l2, l⟩ := Option.bind_eq_some_iff.mp l
      obtain ⟨go, yl⟩ := gi.2 d z
      refine .inr ⟨go, _, fun σ2 H2 h => ⟨m, Nat.lt_succ_self m, h⟩, fun x H3 y => ?_⟩
      obtain ⟨F3, e3, w3, r3⟩ := yl x H3 y
      refine g2 d E' S2 E3 S3 l1 Λ F3 π' H3 σ' x (a'.step e3 w3) r3 _ fun σ4 F4 π4 H4 e4 w4 _ => ?_
      refine b2 E3 S3 o4 S4 l2 Λ F4 π4 H4 σ4 w4 _ ?_
      have e5 := e'.trans (e3.trans e4)
      cases o4 with
      | nx E5 => exact fun σ5 F5 π5 H5 e6 w5 r5 => ⟨F5, π5, S4, E5, e5.trans e6, ⟨w5, r5⟩, l⟩
      | ct E5 => exact fun σ5 F5 π5 H5 e6 w5 r5 => ⟨F5, π5, S4, E5, e5.trans e6, ⟨w5, r5⟩, l⟩
      | bk E5 =>
        cases l
        exact p.step (e1.trans e5)
      | rt d5 =>
        cases l
        exact p.step (e1.trans e5)
    · cases l
def whileF (c : DF Bool) (b : DFS) : Nat → DFS
  | 0 => fun _ _ => none
  | n + 1 => fun E S => (c E S).bind fun p => if p.1 = true then (b E p.2).bind fun q => (match q.1 with
      | .nx E' => whileF c b n E' q.2
      | .ct E' => whileF c b n E' q.2
      | .bk E' => some (.nx E', q.2)
      | .rt d => some (.rt d, q.2)) else some (.nx E, p.2)
def sWhile (fuel : SE → List Ob → Nat) (c : DF Bool) (b : DFS) : DFS := fun E S => whileF c b (fuel E S) E S
theorem ds_while {c : Expr} {fc : DF Bool} {fb : DFS} (fuel : SE → List Ob → Nat) (hc : DT X C c fc) (hb : DB X C body fb) (hp : PassesOwn (model X.prog X.w) X.A X.env X.xe := by exact PassesOwn.never) : DSt X C (.While c body [] pos) (sWhile fuel fc fb) := by
  obtain ⟨tc, c1, c2⟩ := hc
  obtain ⟨tb, b1, b2⟩ := hb
  refine ⟨_, ps_while hp c1 b1, fun E S o S' q Λ F π H σ w Dn p => ?_⟩
  refine ⟨fun m σ' H' => ∃ F' π' S2 E', Ext F π H F' π' H' ∧ At X.K C Λ F' π' S2 H' σ' E' ∧ whileF fc fb m E' S2 = some (o, S'), ⟨_, F, π, S, E, Ext.refl _ _ _, w, q⟩, ?_⟩
  rintro m σ' H' ⟨F', π', S2, E', e', a', l⟩
  cases m with
  | zero => cases l
  | succ m =>
    obtain ⟨⟨x, S3⟩, l1, l⟩ := Option.bind_eq_some_iff.mp l
    refine c2 E' S2 x S3 l1 Λ F' π' H' σ' a' _ fun F3 π3 H3 e3 w3 => ?_
    have a3 := a'.step e3 w3
    have e5 := e'.trans e3
    cases x with
    | false =>
      cases l
      exact (p.step e5).nxt a3
    | true =>
      obtain ⟨⟨o4, S4⟩, l2, l⟩ := Option.bind_eq_some_iff.mp l
      refine ⟨_, fun σ2 H2 h => ⟨m, Nat.lt_succ_self m, h⟩, ?_⟩
      refine b2 E' S3 o4 S4 l2 Λ F3 π3 H3 σ' a3 _ ?_
      cases o4 with
      | nx E5 => exact fun σ5 F5 π5 H5 e6 w5 r5 => ⟨F5, π5, S4, E5, e5.trans e6, ⟨w5, r5⟩, l⟩
      | ct E5 => exact fun σ5 F5 π5 H5 e6 w5 r5 => ⟨F5, π5, S4, E5, e5.trans e6, ⟨w5, r5⟩, l⟩
      | bk E5 =>
        cases l
        exact p.step e5
      | rt d5 =>
        cases l
        exact p.step e5
end

/-! ### list comprehensions -/
theorem wipe_get : ∀ (vs : List Nat) (σ : L2.St) (j : Nat), (L2.wipe σ vs)[j]? = if j ∈ vs then (if j < σ.length then some none else none) else σ[j]?
  | [], σ, j => by simp [L2.wipe]
  | v :: vs, σ, j => by
    unfold L2.wipe
    by_cases h : v = j
    · subst h
      rw [List.getElem?_set]
      simp [L2.wipe_length]
    · rw [List.getElem?_set_ne h, wipe_get vs σ j]
      have : (j ∈ v :: vs) ↔ j ∈ vs := by
        rw [List.mem_cons]
        exact ⟨fun q => q.resolve_left fun e => h e.symm, Or.inr⟩
      simp only [this]
theorem wipe_same {σ σ' : L2.St} {vs : List Nat} (hl : σ'.length = σ.length) (h : ∀ j, j ∉ vs → σ'[j]? = σ[j]?) : L2.wipe σ' vs = L2.wipe σ vs := by
  refine List.ext_getElem? fun j => ?_
  rw [wipe_get, wipe_get, hl]
  by_cases q : j ∈ vs
  · rw [if_pos q, if_pos q]
  · rw [if_neg q, if_neg q, h j q]
theorem wipe_twice (σ : L2.St) (vs : List Nat) : L2.wipe (L2.wipe σ vs) vs = L2.wipe σ vs := wipe_same (wipe_length σ vs) fun j h => by rw [wipe_get, if_neg h]
def lcF (tg : DFG) (t : DF Bool) (el : DF D) (s : Src) (E : SE) : Nat → Nat → List D → List Ob → Option (List D × List Ob)
  | 0, i, acc, S => match s.at S i with
    | some none => some (acc, S)
    | _ => none
  | n + 1, i, acc, S => match s.at S i with
    | some none => some (acc, S)
    | some (some d) => (tg d E S).bind fun p => (t p.1 p.2).bind fun q => if q.1 = true then (el p.1 q.2).bind fun r => if acc.length < sizeLine then lcF tg t el s E n (i + 1) (acc ++ [r.1]) r.2 else none else lcF tg t el s E n (i + 1) acc q.2
    | none => none
def dLc (vs : List Nat) (fi : DF Src) (tg : DFG) (t : DF Bool) (el : DF D) : DF (List D) := fun E S => (fi E S).bind fun p => lcF tg t el p.1 (wipeE E vs) (p.1.len p.2) 0 [] p.2
theorem snd_lc {K : PySem.W.Frag} {C : Ctx} {wi : TI} {g : TG} {tt : TT} {te : TE} {vs ws : List Nat} {fi : DF Src} {fg : DFG} {ft : DF Bool} {fe : DF D} (hi : SndI K C wi fi) (hg : SndG K C ws g fg) (ht : SndT K C tt ft) (he : Snd K C te fe) (hw : ∀ j ∈ ws, j ∈ vs) :
    SndN K C (tLc wi g tt te vs) (dLc vs fi fg ft fe) := by
  intro E S xs S' q Λ F π H σ w Q p
  obtain ⟨⟨s, S1⟩, q1, q⟩ := Option.bind_eq_some_iff.mp q
  simp only at q
  refine hi E S s S1 q1 Λ F π H σ w _ fun J F1 π1 H1 e1 w1 gv => fun D hD => ?_
  have fD : F1 D = none := w1.frozen hD
  have nD : D ∉ π1 := w1.notin hD
  have eD : Ext F1 π1 H1 F1 π1 (upd H1 D (.lst [])) := Ext.junk (same_new hD)
  have wD : Wd K C Λ F1 π1 S1 (upd H1 D (.lst [])) := w1.junk (same_new hD)
  refine ⟨fun i m H' => ∃ F' π' S2 acc us, Ext F1 π1 H1 F' π' H' ∧ Wd K C Λ F' π' S2 H' ∧ H' D = some (.lst us) ∧ F' D = none ∧ D ∉ π' ∧ RepA K C F' π' acc us ∧ lcF fg ft fe s (wipeE E vs) m i acc S2 = some (xs, S'),
    ⟨_, F1, π1, S1, [], [], eD, wD, upd_same, fD, nD, rfl, q⟩, ?_⟩
  rintro i m H' ⟨F', π', S2, acc, us, e', w', hD', fD', nD', ra, l⟩
  have gi := gv i F' π' S2 H' e'.sub w'
  have nH : H D = none := by
    cases z : H D with
    | none => rfl
    | some o =>
      have y : D ∉ π := fun y => nD (e1.p.subset y)
      rw [e1.k D o z y] at hD
      cases hD
  -- all that was there ahead stays, the list at D aside
  have ext0 : ∀ {F2 : Hp} {π2 : List Addr} {H2 : Hp}, Ext F1 π1 H1 F2 π2 H2 → Ext F π H F2 π2 H2 := fun z => e1.trans z
  have stop : s.at S2 i = some none → (acc, S2) = (xs, S') → (J.stop i H' ∧ Q (.ref D) H') := fun z y => by
    cases y
    exact ⟨gi.1 z, p D us F' π' H' (ext0 e') w' nH fD' nD' hD' ra⟩
  have env : EnvR K C F' π' (L2.wipe σ vs) (wipeE E vs) := (w.r.mono (ext0 e').f (ext0 e').p).wipe vs
  cases m with
  | zero =>
    simp only [lcF] at l
    split at l
    · rename_i z
      exact .inl (stop z (Option.some.inj l))
    · cases l
  | succ m =>
    simp only [lcF] at l
    split at l
    · rename_i z
      exact .inl (stop z (Option.some.inj l))
    · rename_i d z
      obtain ⟨⟨E3, S3⟩, l1, l⟩ := Option.bind_eq_some_iff.mp l
      obtain ⟨⟨b4, S4⟩, l2, l⟩ := Option.bind_eq_some_iff.mp l
      obtain ⟨go, yl⟩ := gi.2 d z
      refine .inr ⟨go, _, fun H2 h => ⟨m, Nat.lt_succ_self m, h⟩, fun x H3 y => ?_⟩
      obtain ⟨F3, e3, w3, r3⟩ := yl x H3 y
      refine hg d _ S2 E3 S3 l1 Λ F3 π' H3 _ x ⟨w3, env.mono e3.f e3.p⟩ r3 _ fun σ4 F4 π4 H4 e4 w4 k4 => ⟨?_, ?_⟩
      · rw [wipe_same k4.1 fun j hj => k4.2 j fun z => hj (hw j z)]
        exact wipe_twice σ vs
      · refine ht E3 S3 b4 S4 l2 Λ F4 π4 H4 σ4 w4 _ fun F5 π5 H5 e5 w5 => ?_
        have e6 := (e3.trans e4).trans e5
        have m5 : H5 D = some (.lst us) := e6.k D _ hD' nD'
        have n5 : D ∉ π5 := e6.n D _ hD' nD'
        have f5 : F5 D = none := e6.mL hD' nD' fD'
        cases b4 with
        | false => exact ⟨F5, π5, S4, acc, us, e'.trans e6, w5, m5, f5, n5, RepA.mono e6.f e6.p _ _ ra, l⟩
        | true =>
          obtain ⟨⟨d6, S6⟩, l3, l⟩ := Option.bind_eq_some_iff.mp l
          simp only at l
          split at l
          · rename_i hz
            refine he E3 S4 d6 S6 l3 Λ F5 π5 H5 σ4 (w4.step e5 w5) _ fun v F7 π7 H7 e7 w7 r7 => ?_
            have e8 := e6.trans e7
            have m7 : H7 D = some (.lst us) := e8.k D _ hD' nD'
            have n7 : D ∉ π7 := e8.n D _ hD' nD'
            have f7 : F7 D = none := e8.mL hD' nD' fD'
            refine ⟨us, m7, by rw [ra.length]; exact hz, F7, π7, S6, acc ++ [d6], us ++ [v], ?_, ?_, upd_same, f7, n7, (RepA.mono e8.f e8.p _ _ ra).append (RepA.one r7), l⟩
            · -- the list at D has grown
              have e9 := e'.trans e8
              refine ⟨e9.f, e9.p, fun a o h n => ?_, e9.n, e9.m⟩
              rw [upd_ne (ne_of_none h hD)]
              exact e9.k a o h n
            · refine ⟨fun a o h => ?_, w7.len, w7.nd, w7.fr, fun k ob q h1 h2 => ObR.heap (upd_ne fun c => n7 (by rw [← c]; exact List.mem_of_getElem? h2)) (w7.ob k ob q h1 h2)⟩
              have c : a ≠ D := ne_of_none h f7
              rw [upd_ne c]
              exact w7.ext a o h
          · cases l
    · cases l
end DL

set_option Elab.async false
set_option linter.all false
set_option maxRecDepth 100000
set_option maxHeartbeats 2000000
/-! DL: comprehensions as expressions, defs and their calls. -/
namespace DL
open PySem PySem.Spec PyProof.Rows L2

/-! ### one reading for all blocks -/
section
variable {X : Cx} {C : Ctx}
theorem pe_weak {e : Expr} {t t' : TE} (h : PE X e t) (w : ∀ σ H Q, t' σ H Q → t σ H Q) : PE X e t' := ⟨fun pins s σ H Q I q => h.run pins s σ H Q I (w σ H Q q)⟩
theorem pg_weak {e : Expr} {t t' : TG} (h : PG X e t) (w : ∀ v σ H Q, t' v σ H Q → t v σ H Q) : PG X e t' := ⟨fun pins s σ H v u Q I r q => h.run pins s σ H v u Q I r (w v σ H Q q)⟩
theorem pts_weak {e : List Expr} {t t' : TT} (h : PTs X e t) (w : ∀ σ H Q, t' σ H Q → t σ H Q) : PTs X e t' := ⟨fun pins s σ H Q I q => h.run pins s σ H Q I (w σ H Q q)⟩
theorem pi_weak {tg e : Expr} {t t' : TI} (h : PI X tg e t) (w : ∀ σ H R, t' σ H R → t σ H R) : PI X tg e t' := ⟨fun pins s σ H R I q => h.run pins s σ H R I (w σ H R q)⟩
variable {P : Type} {Xs : P → Cx} {K : PySem.W.Frag}
theorem de_all (hK : ∀ p, (Xs p).K = K) {e : Expr} {f : DF D} (h : ∀ p, DE (Xs p) C e f) : ∃ t, (∀ p, PE (Xs p) e t) ∧ Snd K C t f := by
  have h' : ∀ p, ∃ t, PE (Xs p) e t ∧ Snd K C t f := fun p => by
    have := h p
    unfold DE at this
    rwa [hK p] at this
  obtain ⟨t, ht⟩ := Classical.axiomOfChoice h'
  exact ⟨fun σ H Q => ∀ p, t p σ H Q, fun p => pe_weak (ht p).1 fun σ H Q q => q p, fun E S d S' q Λ F π H σ w Q z p => (ht p).2 E S d S' q Λ F π H σ w Q z⟩
theorem dg_all (hK : ∀ p, (Xs p).K = K) {ws : List Nat} {e : Expr} {f : DFG} (h : ∀ p, DG (Xs p) C ws e f) : ∃ t, (∀ p, PG (Xs p) e t) ∧ SndG K C ws t f := by
  have h' : ∀ p, ∃ t, PG (Xs p) e t ∧ SndG K C ws t f := fun p => by
    have := h p
    unfold DG at this
    rwa [hK p] at this
  obtain ⟨t, ht⟩ := Classical.axiomOfChoice h'
  exact ⟨fun v σ H Q => ∀ p, t p v σ H Q, fun p => pg_weak (ht p).1 fun v σ H Q q => q p, fun d E S E' S' q Λ F π H σ v w r Q z p => (ht p).2 d E S E' S' q Λ F π H σ v w r Q z⟩
def DTs (X : Cx) (C : Ctx) (es : List Expr) (f : DF Bool) : Prop := ∃ t, PTs X es t ∧ SndT X.K C t f
theorem dts_all (hK : ∀ p, (Xs p).K = K) {e : List Expr} {f : DF Bool} (h : ∀ p, DTs (Xs p) C e f) : ∃ t, (∀ p, PTs (Xs p) e t) ∧ SndT K C t f := by
  have h' : ∀ p, ∃ t, PTs (Xs p) e t ∧ SndT K C t f := fun p => by
    have := h p
    unfold DTs at this
    rwa [hK p] at this
  obtain ⟨t, ht⟩ := Classical.axiomOfChoice h'
  exact ⟨fun σ H Q => ∀ p, t p σ H Q, fun p => pts_weak (ht p).1 fun σ H Q q => q p, fun E S d S' q Λ F π H σ w Q z p => (ht p).2 E S d S' q Λ F π H σ w Q z⟩
theorem di_all (hK : ∀ p, (Xs p).K = K) {tg e : Expr} {f : DF Src} (h : ∀ p, DI (Xs p) C tg e f) : ∃ t, (∀ p, PI (Xs p) tg e t) ∧ SndI K C t f := by
  have h' : ∀ p, ∃ t, PI (Xs p) tg e t ∧ SndI K C t f := fun p => by
    have := h p
    unfold DI at this
    rwa [hK p] at this
  obtain ⟨t, ht⟩ := Classical.axiomOfChoice h'
  exact ⟨fun σ H R => ∀ p, t p σ H R, fun p => pi_weak (ht p).1 fun σ H R q => q p, fun E S s S' q Λ F π H σ w R z p => (ht p).2 E S s S' q Λ F π H σ w R z⟩
def dYes : DF Bool := fun _ S => some (true, S)
theorem dts_nil : DTs X C [] dYes := by
  refine ⟨_, pts_nil, fun E S d S' q Λ F π H σ w Q p => ?_⟩
  cases q
  exact p F π H (Ext.refl _ _ _) w.w
theorem dts_one {e : Expr} {f : DF Bool} (h : DT X C e f) : DTs X C [e] f := let ⟨_, a, b⟩ := h; ⟨_, pts_one a, b⟩
end
/-- the parameters of a comprehension's block -/
structure BP where
  s : Shared
  H : Hp
  A : Addr
  cl : List (Str × Addr)
  fp : List Addr
abbrev blkX (X : Cx) (scope : Scope) (p : BP) : Cx := X.blk p.s p.H scope (compEnvC scope p.cl p.A X.env) p.fp
section
variable {X : Cx} {C : Ctx} {tg iter elt tg1 iter1 : Expr} {ifs ifs1 : List Expr} {scope : Scope} {own : List (Str × Nat)} {ws ws1 : List Nat} {pos spos : Pos} {fi fi1 : DF Src} {fg fg1 : DFG} {ft ft1 : DF Bool} {fe : DF D}
theorem dn_lc (own : List (Str × Nat)) (hN : X.N.Nodup) (hi : DI X C tg iter fi) (hg : ∀ p, DG (blkX X scope p) C ws tg fg) (ht : ∀ p, DTs (blkX X scope p) C ifs ft) (he : ∀ p, DE (blkX X scope p) C elt fe)
    (hw : ∀ j ∈ ws, j ∈ own.map (·.2) := by decide) (ok : blkC X.N X.env.scope scope own = true := by first | decide +kernel | kernel_rfl) (hc : X.calm = true := by rfl) (hs : ∀ x, foldedSetIterable iter X.env x = pure x := by intro _; rfl) :
    DN X C (.ListComp elt [⟨tg, iter, ifs, 0⟩] scope pos) (dLc (own.map (·.2)) fi fg ft fe) := by
  obtain ⟨wi, i1, i2⟩ := hi
  obtain ⟨g, g1, g2⟩ := dg_all (Xs := blkX X scope) (K := X.K) (fun _ => rfl) hg
  obtain ⟨tt, t1, t2⟩ := dts_all (Xs := blkX X scope) (K := X.K) (fun _ => rfl) ht
  obtain ⟨te, e1, e2⟩ := de_all (Xs := blkX X scope) (K := X.K) (fun _ => rfl) he
  exact ⟨_, pe_lc (own := own) hc hN i1 (blkOk_by ok) (fun s H A cl fp => g1 ⟨s, H, A, cl, fp⟩) (fun s H A cl fp => t1 ⟨s, H, A, cl, fp⟩) (fun s H A cl fp => e1 ⟨s, H, A, cl, fp⟩) hs, snd_lc i2 g2 t2 e2 hw⟩
/-- name = [..] on one line, the name a local -/
theorem ds_setLc (new : Bool) (i : Nat) {y : Str} {py : Pos} (own : List (Str × Nat)) (hN : X.N.Nodup) (hi : DI X C tg iter fi) (hg : ∀ p, DG (blkX X scope p) C ws tg fg) (ht : ∀ p, DTs (blkX X scope p) C ifs ft) (he : ∀ p, DE (blkX X scope p) C elt fe)
    (hw : ∀ j ∈ ws, j ∈ own.map (·.2) := by decide) (ok : blkC X.N X.env.scope scope own = true := by first | decide +kernel | kernel_rfl) (hy : X.N[i]? = some y := by rfl) (hyl : X.env.scope.names.lookup y = some .local := by rfl)
    (hsw : swapsWith (.ListComp elt [⟨tg, iter, ifs, 0⟩] scope pos) (some (.Name y py)) spos.line X.env = pure true := by exact sw_true rfl rfl rfl (by first | decide +kernel | kernel_rfl)) (hc : X.calm = true := by rfl) (hs : ∀ x, foldedSetIterable iter X.env x = pure x := by intro _; rfl) :
    DSt X C (.Assign [.Name y py] (.ListComp elt [⟨tg, iter, ifs, 0⟩] scope pos) spos) (sAsg i ((if new then dNew else dTree) (dLc (own.map (·.2)) fi fg ft fe))) := by
  obtain ⟨wi, i1, i2⟩ := hi
  obtain ⟨g, g1, g2⟩ := dg_all (Xs := blkX X scope) (K := X.K) (fun _ => rfl) hg
  obtain ⟨tt, t1, t2⟩ := dts_all (Xs := blkX X scope) (K := X.K) (fun _ => rfl) ht
  obtain ⟨te, e1, e2⟩ := de_all (Xs := blkX X scope) (K := X.K) (fun _ => rfl) he
  refine ⟨_, ps_setLc (own := own) hc hN hy hyl hsw i1 (blkOk_by ok) (fun s H A cl fp => g1 ⟨s, H, A, cl, fp⟩) (fun s H A cl fp => t1 ⟨s, H, A, cl, fp⟩) (fun s H A cl fp => e1 ⟨s, H, A, cl, fp⟩) hs, snd_asg ?_⟩
  have sn := snd_lc i2 g2 t2 e2 hw
  cases new with
  | true =>
    intro E S d S' q Λ F π H σ w Q p
    obtain ⟨⟨xs, S1⟩, q1, q2⟩ := Option.map_eq_some_iff.mp q
    cases q2
    exact sn E S xs S1 q1 Λ F π H σ w Q p.new
  | false =>
    intro E S d S' q Λ F π H σ w Q p
    obtain ⟨⟨xs, S1⟩, q1, q2⟩ := Option.map_eq_some_iff.mp q
    cases q2
    exact sn E S xs S1 q1 Λ F π H σ w Q p.tree
end

/-! ### defs -/
/-- a def's promise: what it computes, as a function of the arguments' data and the store -/
def spD (K : PySem.W.Frag) (C : Ctx) (n : Nat) (sem : List D → List Ob → Option (D × List Ob)) : Sp := fun vs H Q _ => ∃ Λ F π S ds d S', ds.length = n ∧ Wd K C Λ F π S H ∧ RepA K C F π ds vs ∧ sem ds S = some (d, S') ∧ Post K C Λ F π H S' d Q
def runB (nl : Nat) (g : DFS) (ds : List D) (S : List Ob) : Option (D × List Ob) := (g (ds.map some ++ List.replicate (nl - ds.length) none) S).bind fun p => match p.1 with
  | .nx _ => some (.non, p.2)
  | .rt d => some (d, p.2)
  | _ => none
theorem env_start {K : PySem.W.Frag} {C : Ctx} {F : Hp} {π : List Addr} {N : List Str} : ∀ {ds : List D} {vs : List V}, RepA K C F π ds vs → EnvR K C F π (L2.start N vs) (ds.map some ++ List.replicate (N.length - ds.length) none) := fun {ds vs} r => by
  have hl := r.length
  refine ⟨by simp [L2.start, hl], fun i d h => ?_⟩
  by_cases hi : i < ds.length
  · rw [List.getElem?_append_left (by simpa using hi), List.getElem?_map] at h
    obtain ⟨d', h1, h2⟩ := Option.map_eq_some_iff.mp h
    cases h2
    obtain ⟨v, v1, v2⟩ := r.get h1
    refine ⟨v, ?_, v2⟩
    rw [L2.start, List.getElem?_append_left (by rw [List.length_map, hl]; exact hi), List.getElem?_map, v1]
    rfl
  · rw [List.getElem?_append_right (by rw [List.length_map]; omega), List.getElem?_replicate] at h
    split at h <;> cases h
section
variable {P : Program} {w : World} {K : PySem.W.Frag} {mg : Str → Option Value} {base : Heap} {C : Ctx}
theorem fn_ok {x qual : Str} {st : Stmt} {f : Addr} {fd : FuncData} {N ps : List Str} {k : Nat} {g : DFS} (Fu : Fun K x qual st f fd) (Sc : FnScope N ps (defScope st))
    (hb : ∀ (cdv : Value) (A : Around) (outer : List Env) (s : Shared) (H : Hp) (E : XK), Room k (A.deeper (envOfC qual (defScope st) s.heap.objs.size f cdv)) → DB (cxOf CX0 P w K mg base N qual (defScope st) f cdv A outer s H E).nox C (defBody st) g) :
    FnOk P w K mg base CX0 (k + 1) f fd ps (spD K C ps.length (runB N.length g)) := by
  refine Fu.ok Sc (fun vs H Q E h => ?_) (fun cdv A outer s H vs Q E hr h => ?_)
  · obtain ⟨_, _, _, _, ds, _, _, hl, _, r, _⟩ := h
    rw [r.length, hl]
  · obtain ⟨Λ, F, π, S, ds, d, S', hl, wd, r, q, p⟩ := h
    obtain ⟨t, t1, t2⟩ := hb cdv A outer s H E hr
    refine ⟨t, t1, ?_⟩
    obtain ⟨⟨o, S1⟩, q1, q⟩ := Option.bind_eq_some_iff.mp q
    refine t2 _ S o S1 q1 Λ F π H _ ⟨wd, env_start r⟩ _ ?_
    cases o with
    | nx E' =>
      cases q
      exact fun σ' F' π' H' e' w' _ => p .non F' π' H' e' w' rfl
    | rt d' =>
      cases q
      exact p
    | _ => cases q
/-- a def of the module by its name -/
structure Fn (P : Program) (w : World) (K : PySem.W.Frag) (mg : Str → Option Value) (base : Heap) (C : Ctx) (k : Nat) (x : Str) (n : Nat) (sem : List D → List Ob → Option (D × List Ob)) : Prop where
  ex : ∃ f fd ps, FnOk P w K mg base CX0 k f fd ps (spD K C n sem) ∧ mg x = some (.ref f) ∧ PySem.W.keepIn K (.ref f) = true ∧ Binds K fd ps []
theorem Fn.up {j k : Nat} {x : Str} {n : Nat} {sem : List D → List Ob → Option (D × List Ob)} (h : Fn P w K mg base C j x n sem) (hk : j ≤ k) : Fn P w K mg base C k x n sem := by
  obtain ⟨f, fd, ps, a, b, c, d⟩ := h.ex
  exact ⟨f, fd, ps, a.mono hk, b, c, d⟩
/-- another description of what it computes -/
theorem spD_imp {n : Nat} {sem sem' : List D → List Ob → Option (D × List Ob)} (h : ∀ ds S r, ds.length = n → sem' ds S = some r → sem ds S = some r) : ∀ vs H Q E, spD K C n sem' vs H Q E → spD K C n sem vs H Q E := by
  rintro vs H Q E ⟨Λ, F, π, S, ds, d, S', hl, wd, r, q, p⟩
  exact ⟨Λ, F, π, S, ds, d, S', hl, wd, r, h ds S _ hl q, p⟩
theorem Fn.imp {k : Nat} {x : Str} {n : Nat} {sem sem' : List D → List Ob → Option (D × List Ob)} (h : Fn P w K mg base C k x n sem) (hs : ∀ ds S r, ds.length = n → sem' ds S = some r → sem ds S = some r) : Fn P w K mg base C k x n sem' := by
  obtain ⟨f, fd, ps, a, b, c, d⟩ := h.ex
  exact ⟨f, fd, ps, a.imp (spD_imp hs), b, c, d⟩
end
section
variable {X : Cx} {C : Ctx} {e : Expr} {es : List Expr} {pos p : Pos} {x : Str} {k n : Nat} {fs : DF (List D)} {sem : List D → List Ob → Option (D × List Ob)}
def dCall (n : Nat) (sem : List D → List Ob → Option (D × List Ob)) (fs : DF (List D)) : DF D := fun E S => (fs E S).bind fun p => if p.1.length = n then sem p.1 p.2 else none
theorem snd_call {K : PySem.W.Frag} {t : TA} {E : XK} (h : SndA K C t fs) : Snd K C (tCall (spD K C n sem) [] E t) (dCall n sem fs) := by
  intro En S d S' q Λ F π H σ w Q p
  obtain ⟨⟨ds, S1⟩, q1, q⟩ := Option.bind_eq_some_iff.mp q
  simp only at q
  split at q
  · rename_i hl
    refine h En S ds S1 q1 Λ F π H σ w _ fun vs F1 π1 H1 e1 w1 r1 => ?_
    refine ⟨Λ, F1, π1, S1, ds, d, S', hl, w1, ?_, q, p.step e1⟩
    rw [List.append_nil]
    exact r1
  · cases q
theorem de_call (hF : Fn X.prog X.w X.K X.mg X.base C k x n sem) (hr : Room k X.A) (ha : DA X C (e :: es) fs) (hx : Passes CX0 X E0 := by exact pass0) (hg : Gl X x := by rfl) (hdb : (x == ("__debug__" : Str)) = false := by decide) (he : starEach (e :: es) X.env = (false, eval e X.env) :: starEach es X.env := by rfl)
    (hpl : (backTo pos (starEach es X.env)).any (·.1) = false := by rfl) : DE X C (.Call (.Name x p) (e :: es) [] pos) (dCall n sem fs) := by
  obtain ⟨f, fd, ps, h1, h2, h3, h4⟩ := hF.ex
  obtain ⟨t, t1, t2⟩ := ha
  exact ⟨_, pe_call h1 hr hg h2 h3 h4 .nil hx t1 hdb he hpl, snd_call t2⟩
end
end DL

set_option Elab.async false
set_option linter.all false
set_option maxRecDepth 100000
set_option maxHeartbeats 2000000
/-! DL: the operations. -/
namespace DL
open PySem PySem.Spec PyProof.Rows L2

/-! ### scalars -/
def sclD : D → Option V
  | .non => some .non
  | .bl b => some (.bl b)
  | .int i => some (.int i)
  | .str x => some (.str x)
  | _ => none
section
variable {K : PySem.W.Frag} {C : Ctx} {Λ : Lk} {F F' : Hp} {π π' : List Addr} {S S' : List Ob} {H H' : Hp} {d : D} {v u : V} {xs : List D}
theorem scl_ok (r : Rep K C F π d v) (h : sclD d = some u) : v = u := by
  cases d <;> cases h <;> exact r
theorem scl_rep (h : sclD d = some u) : Rep K C F π d u := by
  cases d <;> cases h <;> exact rfl
theorem scl_flat (h : sclD d = some u) : flatV u = true := by
  cases d <;> cases h <;> rfl
def sclAll : List D → Option (List V)
  | [] => some []
  | d :: r => match sclD d, sclAll r with
    | some v, some vs => some (v :: vs)
    | _, _ => none
theorem sclAll_ok : ∀ {ds : List D} {vs us : List V}, RepA K C F π ds vs → sclAll ds = some us → vs = us
  | [], vs, us, r, h => by
    cases h
    exact r
  | d :: ds, vs, us, r, h => by
    obtain ⟨v, t, rfl, q1, q2⟩ := r
    unfold sclAll at h
    split at h
    · rename_i a b ha hb
      cases h
      rw [scl_ok q1 ha, sclAll_ok q2 hb]
    · cases h
theorem sclAll_flat : ∀ {ds : List D} {us : List V}, sclAll ds = some us → us.all flatV = true
  | [], us, h => by
    cases h
    rfl
  | d :: ds, us, h => by
    unfold sclAll at h
    split at h
    · rename_i a b ha hb
      cases h
      rw [List.all_cons, scl_flat ha, sclAll_flat hb]
      rfl
    · cases h
/-- ints, texts -/
def intsOf : List D → Option (List Int)
  | [] => some []
  | .int i :: r => (intsOf r).map fun l => i :: l
  | _ => none
theorem intsOf_ok : ∀ {ds : List D} {vs : List V} {ns : List Int}, RepA K C F π ds vs → intsOf ds = some ns → vs = ns.map V.int
  | [], vs, ns, r, h => by
    cases h
    exact r
  | d :: ds, vs, ns, r, h => by
    obtain ⟨v, t, rfl, q1, q2⟩ := r
    cases d with
    | int i =>
      obtain ⟨l, h1, h2⟩ := Option.map_eq_some_iff.mp h
      cases h2
      rw [show v = .int i from q1, intsOf_ok q2 h1]
      rfl
    | _ => cases h
def strsOf : List D → Option (List Str)
  | [] => some []
  | .str i :: r => (strsOf r).map fun l => i :: l
  | _ => none
theorem strsOf_ok : ∀ {ds : List D} {vs : List V} {ns : List Str}, RepA K C F π ds vs → strsOf ds = some ns → vs = ns.map V.str
  | [], vs, ns, r, h => by
    cases h
    exact r
  | d :: ds, vs, ns, r, h => by
    obtain ⟨v, t, rfl, q1, q2⟩ := r
    cases d with
    | str i =>
      obtain ⟨l, h1, h2⟩ := Option.map_eq_some_iff.mp h
      cases h2
      rw [show v = .str i from q1, strsOf_ok q2 h1]
      rfl
    | _ => cases h
theorem rep_ints : ∀ ns : List Int, RepA K C F π (ns.map D.int) (ns.map V.int)
  | [] => rfl
  | i :: ns => ⟨_, _, rfl, rfl, rep_ints ns⟩
theorem rep_strs : ∀ ns : List Str, RepA K C F π (ns.map D.str) (ns.map V.str)
  | [] => rfl
  | i :: ns => ⟨_, _, rfl, rfl, rep_strs ns⟩
theorem intsOf_map : ∀ ns : List Int, intsOf (ns.map D.int) = some ns
  | [] => rfl
  | i :: ns => by
    show (intsOf (ns.map D.int)).map _ = _
    rw [intsOf_map ns]
    rfl
theorem strsOf_map : ∀ ns : List Str, strsOf (ns.map D.str) = some ns
  | [] => rfl
  | i :: ns => by
    show (strsOf (ns.map D.str)).map _ = _
    rw [strsOf_map ns]
    rfl

/-! ### keys -/
def keyOf : D → Option Key
  | .int i => some (.inl i)
  | .str x => some (.inr x)
  | _ => none
def keysOf : List D → Option (List Key)
  | [] => some []
  | d :: r => match keyOf d, keysOf r with
    | some k, some ks => some (k :: ks)
    | _, _ => none
theorem keyOf_ok {k : Key} (r : Rep K C F π d v) (h : keyOf d = some k) : v = kV k := by
  cases d <;> cases h <;> exact r
theorem keysOf_ok : ∀ {ds : List D} {vs : List V} {ks : List Key}, RepA K C F π ds vs → keysOf ds = some ks → vs = ks.map kV
  | [], vs, ns, r, h => by
    cases h
    exact r
  | d :: ds, vs, ns, r, h => by
    obtain ⟨v, t, rfl, q1, q2⟩ := r
    unfold keysOf at h
    split at h
    · rename_i a b ha hb
      cases h
      rw [keyOf_ok q1 ha, keysOf_ok q2 hb]
      rfl
    · cases h
theorem rep_key : ∀ k : Key, Rep K C F π (keyD k) (kV k)
  | .inl _ => rfl
  | .inr _ => rfl
theorem rep_keys : ∀ ks : List Key, RepA K C F π (ks.map keyD) (ks.map kV)
  | [] => rfl
  | k :: ks => ⟨_, _, rfl, rep_key k, rep_keys ks⟩
def tkeyOf : D → Option (List Key)
  | .tup xs => keysOf xs
  | _ => none
theorem tkeyOf_ok (w : Wd K C Λ F π S H) {k : List Key} (r : Rep K C F π d v) (h : tkeyOf d = some k) : ∃ b, v = .ref b ∧ H b = some (.tup (k.map kV)) := by
  cases d with
  | tup xs =>
    obtain ⟨a, vs, q1, q2, q3⟩ := r
    refine ⟨a, q1, ?_⟩
    rw [← keysOf_ok q3 h]
    exact w.ext _ _ q2
  | _ => cases h

/-! ### dicts by lists -/
section
variable {κ : Type} [DecidableEq κ] {α : Type}
def getD' (l : List (κ × α)) (k : κ) : Option α := (l.find? fun p => decide (p.1 = k)).map (·.2)
def putD (l : List (κ × α)) (k : κ) (x : α) : List (κ × α) := if (l.any fun p => decide (p.1 = k)) = true then l.map fun p => if p.1 = k then (p.1, x) else p else l ++ [(k, x)]
end
end
end DL

set_option Elab.async false
set_option linter.all false
set_option maxRecDepth 100000
set_option maxHeartbeats 2000000
/-! DL: dicts; comparisons, membership, subscripts, slices. -/
namespace DL
open PySem PySem.Spec PyProof.Rows L2

/-! ### dicts -/
section
variable {κ : Type} [DecidableEq κ] {R : D → V → Prop}
def RepM (R : D → V → Prop) : List (κ × D) → List (κ × V) → Prop
  | [], l => l = []
  | (k, x) :: r, l => ∃ v l', l = (k, v) :: l' ∧ R x v ∧ RepM R r l'
theorem RepM.length : ∀ {xs : List (κ × D)} {l : List (κ × V)}, RepM R xs l → l.length = xs.length
  | [], l, r => by rw [show l = [] from r]; rfl
  | (k, x) :: xs, l, r => by
    obtain ⟨v, t, rfl, _, q⟩ := r
    rw [List.length_cons, List.length_cons, RepM.length q]
theorem RepM.get : ∀ {xs : List (κ × D)} {l : List (κ × V)} (k : κ), RepM R xs l → (match getD' xs k with
    | some d => ∃ v, valV l k = some v ∧ R d v
    | none => valV l k = none)
  | [], l, k, r => by
    rw [show l = [] from r]
    exact rfl
  | (j, x) :: xs, l, k, r => by
    obtain ⟨v, t, rfl, q1, q2⟩ := r
    by_cases e : j = k
    · have h1 : getD' ((j, x) :: xs) k = some x := by simp [getD', e]
      rw [h1]
      exact ⟨v, valV_pos e, q1⟩
    · have h1 : getD' ((j, x) :: xs) k = getD' xs k := by simp [getD', e]
      rw [h1, valV_neg e]
      exact RepM.get k q2
theorem RepM.any : ∀ {xs : List (κ × D)} {l : List (κ × V)} (k : κ), RepM R xs l → (l.any fun p => decide (p.1 = k)) = xs.any fun p => decide (p.1 = k)
  | [], l, k, r => by rw [show l = [] from r]; rfl
  | (j, x) :: xs, l, k, r => by
    obtain ⟨v, t, rfl, q1, q2⟩ := r
    rw [List.any_cons, List.any_cons, RepM.any k q2]
theorem RepM.repl {d : D} {u : V} (hr : R d u) : ∀ {xs : List (κ × D)} {l : List (κ × V)} (k : κ), RepM R xs l → RepM R (xs.map fun p => if p.1 = k then (p.1, d) else p) (l.map fun p => if p.1 = k then (p.1, u) else p)
  | [], l, k, r => by rw [show l = [] from r]; exact rfl
  | (j, x) :: xs, l, k, r => by
    obtain ⟨v, t, rfl, q1, q2⟩ := r
    rw [List.map_cons, List.map_cons]
    by_cases e : j = k
    · rw [if_pos (show (j, x).1 = k from e), if_pos (show (j, v).1 = k from e)]
      exact ⟨_, _, rfl, hr, RepM.repl hr k q2⟩
    · rw [if_neg (show ¬ (j, x).1 = k from e), if_neg (show ¬ (j, v).1 = k from e)]
      exact ⟨_, _, rfl, q1, RepM.repl hr k q2⟩
theorem RepM.snoc {d : D} {u : V} (hr : R d u) : ∀ {xs : List (κ × D)} {l : List (κ × V)} (k : κ), RepM R xs l → RepM R (xs ++ [(k, d)]) (l ++ [(k, u)])
  | [], l, k, r => by rw [show l = [] from r]; exact ⟨_, _, rfl, hr, rfl⟩
  | (j, x) :: xs, l, k, r => by
    obtain ⟨v, t, rfl, q1, q2⟩ := r
    exact ⟨_, _, rfl, q1, RepM.snoc hr k q2⟩
theorem RepM.put {d : D} {u : V} (hr : R d u) {xs : List (κ × D)} {l : List (κ × V)} (k : κ) (r : RepM R xs l) : RepM R (putD xs k d) (putK l k u) := by
  unfold putD putK
  rw [RepM.any k r]
  split
  · exact RepM.repl hr k r
  · exact RepM.snoc hr k r
theorem RepM.at : ∀ {xs : List (κ × D)} {l : List (κ × V)} {i : Nat} {k : κ} {v : V}, RepM R xs l → l[i]? = some (k, v) → ∃ d, xs[i]? = some (k, d) ∧ R d v
  | [], l, i, k, v, r, h => by
    rw [show l = [] from r] at h
    simp at h
  | (j, x) :: xs, l, 0, k, v, r, h => by
    obtain ⟨v', t, rfl, q1, q2⟩ := r
    simp at h
    obtain ⟨rfl, rfl⟩ := h
    exact ⟨x, rfl, q1⟩
  | (j, x) :: xs, l, i + 1, k, v, r, h => by
    obtain ⟨v', t, rfl, q1, q2⟩ := r
    exact RepM.at (i := i) q2 (by simpa using h)
end
section
variable {K : PySem.W.Frag} {C : Ctx} {F : Hp} {π : List Addr}
theorem repK_m : ∀ {xs : List (Key × D)} {l : List (Key × V)}, RepK K C F π xs l ↔ RepM (Rep K C F π) xs l
  | [], l => Iff.rfl
  | (k, x) :: xs, l => ⟨fun ⟨v, t, a, b, c⟩ => ⟨v, t, a, b, repK_m.mp c⟩, fun ⟨v, t, a, b, c⟩ => ⟨v, t, a, b, repK_m.mpr c⟩⟩
theorem repT_m : ∀ {xs : List (List Key × D)} {l : List (List Key × V)}, RepT K C F π xs l ↔ RepM (Rep K C F π) xs l
  | [], l => Iff.rfl
  | (k, x) :: xs, l => ⟨fun ⟨v, t, a, b, c⟩ => ⟨v, t, a, b, repT_m.mp c⟩, fun ⟨v, t, a, b, c⟩ => ⟨v, t, a, b, repT_m.mpr c⟩⟩
end

/-! ### OpR of dicts -/
section
variable {X : Cx} {C : Ctx}
def rDIn : R2 := fun x y H Q => ∃ a o, y = .ref a ∧ DGet H a x o ∧ Q (.bl o.isSome) H
def rDNotIn : R2 := fun x y H Q => ∃ a o, y = .ref a ∧ DGet H a x o ∧ Q (.bl (!o.isSome)) H
theorem op_din (hu : X.A.units + 1 < cLine) : OpR X (compareOp .In) rDIn := by
  intro pins s σ H x y v u Q I rx ry h
  obtain ⟨a, o, rfl, g, q⟩ := h
  cases ry
  exact d_in hu I g rx fun s' I' => ⟨.bl o.isSome, H, I', rfl, q⟩
theorem op_dnotin (hu : X.A.units + 1 < cLine) : OpR X (compareOp .NotIn) rDNotIn := by
  intro pins s σ H x y v u Q I rx ry h
  obtain ⟨a, o, rfl, g, q⟩ := h
  cases ry
  exact d_notIn hu I g rx fun s' I' => ⟨.bl (!o.isSome), H, I', rfl, q⟩
end

/-! ### a dict seen through the store: its answer to a key -/
/-- some none: the key is not there -/
def dictGet (S : List Ob) (d key : D) : Option (Option D) := match d with
  | .dK kvs => (keyOf key).map fun k => getD' kvs k
  | .dT kvs => (tkeyOf key).map fun k => getD' kvs k
  | .ptr j => match S[j]? with
    | some (.dK kvs) => (keyOf key).map fun k => getD' kvs k
    | some (.lkK kvs) => (keyOf key).map fun k => getD' kvs k
    | some (.dT kvs) => (tkeyOf key).map fun k => getD' kvs k
    | some (.lkT kvs) => (tkeyOf key).map fun k => getD' kvs k
    | _ => none
  | _ => none
section
variable {K : PySem.W.Frag} {C : Ctx} {Λ : Lk} {F F' : Hp} {π π' : List Addr} {S S' : List Ob} {H H' : Hp} {d key : D} {v u : V}
/-- what a dict at a says of a key -/
def Tells (K : PySem.W.Frag) (C : Ctx) (F : Hp) (π : List Addr) (H : Hp) (a : Addr) (u : V) (o : Option D) : Prop := match o with
  | some x => ∃ w, DGet H a u (some w) ∧ Rep K C F π x w
  | none => DGet H a u none
theorem tells_k {a : Addr} {kvs : List (Key × D)} {l : List (Key × V)} {k : Key} (h : Rd H a (.dK l)) (r : RepK K C F π kvs l) (rk : Rep K C F π key u) (e : keyOf key = some k) : Tells K C F π H a u (getD' kvs k) := by
  have g := RepM.get k (repK_m.mp r)
  have hu := keyOf_ok rk e
  cases q : getD' kvs k with
  | none =>
    rw [q] at g
    exact .inl ⟨l, k, h, hu, g.symm⟩
  | some x =>
    rw [q] at g
    obtain ⟨w, g1, g2⟩ := g
    exact ⟨w, .inl ⟨l, k, h, hu, g1.symm⟩, g2⟩
theorem tells_t {a : Addr} {kvs : List (List Key × D)} {l : List (List Key × V)} {k : List Key} (wd : Wd K C Λ F π S H) (h : Rd H a (.dT l)) (r : RepT K C F π kvs l) (rk : Rep K C F π key u) (e : tkeyOf key = some k) : Tells K C F π H a u (getD' kvs k) := by
  have g := RepM.get k (repT_m.mp r)
  obtain ⟨b, hb, hu⟩ := tkeyOf_ok wd rk e
  cases q : getD' kvs k with
  | none =>
    rw [q] at g
    exact .inr ⟨l, k, b, h, hb, hu, g.symm⟩
  | some x =>
    rw [q] at g
    obtain ⟨w, g1, g2⟩ := g
    exact ⟨w, .inr ⟨l, k, b, h, hb, hu, g1.symm⟩, g2⟩
theorem dictGet_ok (w : Wd K C Λ F π S H) (r : Rep K C F π d v) (rk : Rep K C F π key u) {o : Option D} (h : dictGet S d key = some o) : ∃ a, v = .ref a ∧ Tells K C F π H a u o := by
  unfold dictGet at h
  split at h
  · obtain ⟨k, h1, h2⟩ := Option.map_eq_some_iff.mp h
    obtain ⟨a, l, q1, q2, q3⟩ := r
    exact ⟨a, q1, h2 ▸ tells_k (.inl (w.ext _ _ q2)) q3 rk h1⟩
  · obtain ⟨k, h1, h2⟩ := Option.map_eq_some_iff.mp h
    obtain ⟨a, l, q1, q2, q3⟩ := r
    exact ⟨a, q1, h2 ▸ tells_t w (.inl (w.ext _ _ q2)) q3 rk h1⟩
  · obtain ⟨a, q1, q2⟩ := r
    obtain ⟨ob, q3, q4⟩ := w.obj q2
    rw [q3] at h
    cases ob with
    | dK kvs =>
      obtain ⟨k, h1, h2⟩ := Option.map_eq_some_iff.mp h
      obtain ⟨l, q5, q6⟩ := q4
      exact ⟨a, q1, h2 ▸ tells_k (.inl q5) q6 rk h1⟩
    | lkK kvs =>
      obtain ⟨k, h1, h2⟩ := Option.map_eq_some_iff.mp h
      obtain ⟨ob, l, _, q5, q6⟩ := q4
      exact ⟨a, q1, h2 ▸ tells_k (.inr ⟨_, q5⟩) q6 rk h1⟩
    | dT kvs =>
      obtain ⟨k, h1, h2⟩ := Option.map_eq_some_iff.mp h
      obtain ⟨l, q5, q6⟩ := q4
      exact ⟨a, q1, h2 ▸ tells_t w (.inl q5) q6 rk h1⟩
    | lkT kvs =>
      obtain ⟨k, h1, h2⟩ := Option.map_eq_some_iff.mp h
      obtain ⟨ob, l, _, q5, q6⟩ := q4
      exact ⟨a, q1, h2 ▸ tells_t w (.inr ⟨_, q5⟩) q6 rk h1⟩
    | _ => cases h
  · cases h
theorem Tells.in {a : Addr} {o : Option D} (t : Tells K C F π H a u o) : ∃ o', DGet H a u o' ∧ o'.isSome = o.isSome := by
  cases o with
  | none => exact ⟨none, t, rfl⟩
  | some x =>
    obtain ⟨w, h, _⟩ := t
    exact ⟨some w, h, rfl⟩

/-! ### in, not in -/
/-- one sign -/
def sign1 (x : Str) : Option Nat := match x.cps.toList with
  | [c] => some c
  | _ => none
theorem sign1_eq {x : Str} {c : Nat} (h : sign1 x = some c) : x = ⟨#[c]⟩ := by
  unfold sign1 at h
  split at h
  · rename_i c' e
    cases h
    exact Str.ext' (Array.toList_inj.mp e)
  · cases h
def isIn (S : List Ob) (x y : D) : Option Bool := match y with
  | .str z => match x with
    | .str s => (sign1 s).map fun c => decide (c ∈ z.cps.toList)
    | _ => none
  | y => match seqOf S y with
    | some ys => match sclD x, sclAll ys with
      | some v, some vs => some (inV v vs)
      | _, _ => none
    | none => (dictGet S y x).map fun o => o.isSome
def opIn (S : List Ob) (x y : D) : Option D := (isIn S x y).map D.bl
def opNotIn (S : List Ob) (x y : D) : Option D := (isIn S x y).map fun b => D.bl (!b)
def rInA (K : PySem.W.Frag) (neg : Bool) : R2 := fun x y H Q => (∃ b, ((∃ (c : Nat) (z : Str), x = .str ⟨#[c]⟩ ∧ y = .str z ∧ b = decide (c ∈ z.cps.toList)) ∨ (∃ p xs, y = .ref p ∧ (SqL K H p xs ∨ SqT K H p xs) ∧ flatV x = true ∧ xs.all flatV = true ∧ b = inV x xs) ∨ (∃ a o, y = .ref a ∧ DGet H a x o ∧ b = o.isSome)) ∧ Q (.bl (if neg then !b else b)) H)
theorem or_in {X : Cx} (hu : X.A.units + 1 < cLine) : OpR X (compareOp .In) (rInA X.K false) := by
  intro pins s σ H x y v u Q I rx ry h
  obtain ⟨b, h, q⟩ := h
  rcases h with ⟨c, z, rfl, rfl, rfl⟩ | ⟨p, xs, rfl, h1, h2, h3, rfl⟩ | ⟨a, o, rfl, h1, rfl⟩
  · exact op_in_sign pins s σ H _ _ v u Q I rx ry ⟨c, z, rfl, rfl, q⟩
  · exact op_in_seq pins s σ H _ _ v u Q I rx ry ⟨p, xs, rfl, h1, h2, h3, q⟩
  · exact op_din hu pins s σ H _ _ v u Q I rx ry ⟨a, o, rfl, h1, q⟩
theorem or_notIn {X : Cx} (hu : X.A.units + 1 < cLine) : OpR X (compareOp .NotIn) (rInA X.K true) := by
  intro pins s σ H x y v u Q I rx ry h
  obtain ⟨b, h, q⟩ := h
  rcases h with ⟨c, z, rfl, rfl, rfl⟩ | ⟨p, xs, rfl, h1, h2, h3, rfl⟩ | ⟨a, o, rfl, h1, rfl⟩
  · exact op_notIn_sign pins s σ H _ _ v u Q I rx ry ⟨c, z, rfl, rfl, q⟩
  · exact op_notIn_seq pins s σ H _ _ v u Q I rx ry ⟨p, xs, rfl, h1, h2, h3, q⟩
  · exact op_dnotin hu pins s σ H _ _ v u Q I rx ry ⟨a, o, rfl, h1, q⟩
theorem isIn_ok {x y : D} {vx vy : V} {b : Bool} (w : Wd K C Λ F π S H) (rx : Rep K C F π x vx) (ry : Rep K C F π y vy) (h : isIn S x y = some b) :
    (∃ (c : Nat) (z : Str), vx = .str ⟨#[c]⟩ ∧ vy = .str z ∧ b = decide (c ∈ z.cps.toList)) ∨ (∃ p xs, vy = .ref p ∧ (SqL K H p xs ∨ SqT K H p xs) ∧ flatV vx = true ∧ xs.all flatV = true ∧ b = inV vx xs) ∨ (∃ a o, vy = .ref a ∧ DGet H a vx o ∧ b = o.isSome) := by
  unfold isIn at h
  split at h
  · rename_i z
    split at h
    · rename_i s
      obtain ⟨c, h1, h2⟩ := Option.map_eq_some_iff.mp h
      exact .inl ⟨c, z, (show vx = .str s from rx).trans (by rw [sign1_eq h1]), ry, h2.symm⟩
    · cases h
  · split at h
    · rename_i ys hy
      obtain ⟨a, vs, rfl, q2, q3⟩ := seqOf_ok w ry hy
      split at h
      · rename_i v vs' e1 e2
        cases h
        have e3 := scl_ok rx e1
        have e4 := sclAll_ok q3 e2
        subst e3 e4
        exact .inr (.inl ⟨a, _, rfl, q2, scl_flat e1, sclAll_flat e2, rfl⟩)
      · cases h
    · obtain ⟨o, h1, h2⟩ := Option.map_eq_some_iff.mp h
      obtain ⟨a, e, t⟩ := dictGet_ok w ry rx h1
      obtain ⟨o', g1, g2⟩ := t.in
      exact .inr (.inr ⟨a, o', e, g1, by rw [← h2, g2]⟩)
theorem o2_in : Op2 K C (rInA K false) opIn := by
  intro Λ F π S H dx dy x y d h w rx ry Q p
  obtain ⟨b, h1, h2⟩ := Option.map_eq_some_iff.mp h
  cases h2
  exact ⟨b, isIn_ok w rx ry h1, p.val w rfl⟩
theorem o2_notIn : Op2 K C (rInA K true) opNotIn := by
  intro Λ F π S H dx dy x y d h w rx ry Q p
  obtain ⟨b, h1, h2⟩ := Option.map_eq_some_iff.mp h
  cases h2
  exact ⟨b, isIn_ok w rx ry h1, p.val w rfl⟩
end
section
variable {X : Cx} {C : Ctx} {a b : Expr} {fa fb : DF D} {pos : Pos}
theorem de_in (hu : X.A.units + 1 < cLine) (ha : DE X C a fa) (hb : DE X C b fb) (hm : behindInMarks .In b = false := by rfl) : DE X C (.Compare a [.In] [b] pos) (dBin opIn fa fb) := de_cmp (or_in hu) o2_in ha hb hm
theorem dt_in (hu : X.A.units + 1 < cLine) (ha : DE X C a fa) (hb : DE X C b fb) (hm : behindInMarks .In b = false := by rfl) : DT X C (.Compare a [.In] [b] pos) (dTest (dBin opIn fa fb)) := dt_cmp (or_in hu) o2_in ha hb hm
theorem de_notIn (hu : X.A.units + 1 < cLine) (ha : DE X C a fa) (hb : DE X C b fb) (hm : behindInMarks .NotIn b = false := by rfl) : DE X C (.Compare a [.NotIn] [b] pos) (dBin opNotIn fa fb) := de_cmp (or_notIn hu) o2_notIn ha hb hm
theorem dt_notIn (hu : X.A.units + 1 < cLine) (ha : DE X C a fa) (hb : DE X C b fb) (hm : behindInMarks .NotIn b = false := by rfl) : DT X C (.Compare a [.NotIn] [b] pos) (dTest (dBin opNotIn fa fb)) := dt_cmp (or_notIn hu) o2_notIn ha hb hm
end

/-! ### == and != of data -/
/-- data as the library tells them -/
def toP (S : List Ob) : Nat → D → Option PyData
  | 0, _ => none
  | n + 1, .non => some .none
  | n + 1, .bl b => some (.bool b)
  | n + 1, .int i => some (.int i)
  | n + 1, .str x => some (.str x)
  | n + 1, d => match tupOf d with
    | some xs => (xs.mapM (toP S n)).map .tuple
    | none => match lstOf S d with
      | some xs => (xs.mapM (toP S n)).map .list
      | none => none
section
variable {K : PySem.W.Frag} {C : Ctx} {Λ : Lk} {F F' : Hp} {π π' : List Addr} {S S' : List Ob} {H H' : Hp} {d : D} {v : V}
theorem toP_all {f : D → Option PyData} (hf : ∀ d v p, f d = some p → Rep K C F π d v → Dp K H v p) : ∀ {xs : List D} {vs : List V} {ps : List PyData}, xs.mapM f = some ps → RepA K C F π xs vs → DpAll K H vs ps
  | [], vs, ps, h, r => by
    rw [show vs = [] from r]
    simp at h
    subst h
    exact .nil
  | x :: xs, vs, ps, h, r => by
    obtain ⟨v, t, rfl, q1, q2⟩ := r
    rw [List.mapM_cons] at h
    obtain ⟨p, h1, h⟩ := Option.bind_eq_some_iff.mp h
    obtain ⟨qs, h2, h⟩ := Option.bind_eq_some_iff.mp h
    cases h
    exact .cons (hf x v p h1 q1) (toP_all hf h2 q2)
theorem toP_ok (w : Wd K C Λ F π S H) : ∀ (n : Nat) (d : D) (v : V) (p : PyData), toP S n d = some p → Rep K C F π d v → Dp K H v p := by
  intro n
  induction n with
  | zero =>
    intro d v p h r
    cases h
  | succ n ih =>
    intro d v p h r
    have seq : ∀ {d : D}, Rep K C F π d v → (match tupOf d with
      | some xs => (xs.mapM (toP S n)).map PyData.tuple
      | none => match lstOf S d with
        | some xs => (xs.mapM (toP S n)).map PyData.list
        | none => none) = some p → Dp K H v p := fun {d} r h => by
      split at h
      · rename_i xs hx
        obtain ⟨ps, h1, h2⟩ := Option.map_eq_some_iff.mp h
        obtain ⟨a, vs, rfl, q2, q3⟩ := tup_ok w r hx
        rw [← h2]
        exact .tup q2 (toP_all ih h1 q3)
      · split at h
        · rename_i xs hx
          obtain ⟨ps, h1, h2⟩ := Option.map_eq_some_iff.mp h
          obtain ⟨a, vs, rfl, q2, q3⟩ := lstOf_ok w r hx
          rw [← h2]
          exact .lst (.inl (.inl q2)) (toP_all ih h1 q3)
        · cases h
    cases d with
    | non =>
      cases h
      rw [show v = .non from r]
      exact .non
    | bl b =>
      cases h
      rw [show v = .bl b from r]
      exact .bl b
    | int i =>
      cases h
      rw [show v = .int i from r]
      exact .int i
    | str x =>
      cases h
      rw [show v = .str x from r]
      exact .str x
    | lst xs => exact seq r h
    | tup xs => exact seq r h
    | ktp xs => exact seq r h
    | ptr k => exact seq r h
    | _ => exact seq r h
/-- are two data equal? -/
def eqv (S : List Ob) (x y : D) : Option Bool := match sclD x, sclD y with
  | some v, some u => if scal v u = true then some (decide (v = u)) else none
  | _, _ => match toP S 60 x, toP S 60 y with
    | some p, some q => if (SeqAt.shaped p && SeqAt.shaped q) = true then some (PyData.eqv p q) else none
    | _, _ => none
def opEq (S : List Ob) (x y : D) : Option D := (eqv S x y).map D.bl
def opNe (S : List Ob) (x y : D) : Option D := (eqv S x y).map fun b => D.bl (!b)
abbrev rEqA (K : PySem.W.Frag) : R2 := fun x y H Q => rEq x y H Q ∨ rEqD K x y H Q
abbrev rNeA (K : PySem.W.Frag) : R2 := fun x y H Q => rNe x y H Q ∨ rNeD K x y H Q
theorem o2_eq : Op2 K C (rEqA K) opEq := by
  intro Λ F π S H dx dy x y d h w rx ry Q p
  obtain ⟨b, h1, h2⟩ := Option.map_eq_some_iff.mp h
  cases h2
  unfold eqv at h1
  split at h1
  · rename_i v u e1 e2
    split at h1
    · rename_i hs
      cases h1
      rw [scl_ok rx e1, scl_ok ry e2]
      exact .inl ⟨hs, p.val w rfl⟩
    · cases h1
  · split at h1
    · rename_i d1 d2 e1 e2
      split at h1
      · rename_i hs
        cases h1
        rw [Bool.and_eq_true] at hs
        exact .inr ⟨d1, d2, toP_ok w _ _ _ _ e1 rx, toP_ok w _ _ _ _ e2 ry, hs.1, hs.2, p.val w rfl⟩
      · cases h1
    · cases h1
theorem o2_ne : Op2 K C (rNeA K) opNe := by
  intro Λ F π S H dx dy x y d h w rx ry Q p
  obtain ⟨b, h1, h2⟩ := Option.map_eq_some_iff.mp h
  cases h2
  unfold eqv at h1
  split at h1
  · rename_i v u e1 e2
    split at h1
    · rename_i hs
      cases h1
      rw [scl_ok rx e1, scl_ok ry e2]
      exact .inl ⟨hs, p.val w rfl⟩
    · cases h1
  · split at h1
    · rename_i d1 d2 e1 e2
      split at h1
      · rename_i hs
        cases h1
        rw [Bool.and_eq_true] at hs
        exact .inr ⟨d1, d2, toP_ok w _ _ _ _ e1 rx, toP_ok w _ _ _ _ e2 ry, hs.1, hs.2, p.val w rfl⟩
      · cases h1
    · cases h1
end
section
variable {X : Cx} {C : Ctx} {a b : Expr} {fa fb : DF D} {pos : Pos}
theorem de_eq (hu : X.A.units + 64 < cLine) (ha : DE X C a fa) (hb : DE X C b fb) : DE X C (.Compare a [.Eq] [b] pos) (dBin opEq fa fb) := de_cmp (op_eq.or (op_eqD hu)) o2_eq ha hb
theorem dt_eq (hu : X.A.units + 64 < cLine) (ha : DE X C a fa) (hb : DE X C b fb) : DT X C (.Compare a [.Eq] [b] pos) (dTest (dBin opEq fa fb)) := dt_cmp (op_eq.or (op_eqD hu)) o2_eq ha hb
theorem de_ne (hu : X.A.units + 64 < cLine) (ha : DE X C a fa) (hb : DE X C b fb) : DE X C (.Compare a [.NotEq] [b] pos) (dBin opNe fa fb) := de_cmp (op_ne.or (op_neD hu)) o2_ne ha hb
theorem dt_ne (hu : X.A.units + 64 < cLine) (ha : DE X C a fa) (hb : DE X C b fb) : DT X C (.Compare a [.NotEq] [b] pos) (dTest (dBin opNe fa fb)) := dt_cmp (op_ne.or (op_neD hu)) o2_ne ha hb

/-! ### is -/
def isS (x y : D) : Option Bool := match y with
  | .non => match x with
    | .non => some true
    | _ => some false
  | .bl b => match x with
    | .bl a => some (decide (a = b))
    | _ => none
  | _ => none
def opIs (_ : List Ob) (x y : D) : Option D := (isS x y).map D.bl
def opIsNot (_ : List Ob) (x y : D) : Option D := (isS x y).map fun b => D.bl (!b)
theorem non_iff {K : PySem.W.Frag} {F : Hp} {π : List Addr} {d : D} {v : V} (r : Rep K C F π d v) : (v = .non) ↔ d = .non := by
  cases d with
  | non => exact ⟨fun _ => rfl, fun _ => r⟩
  | lst _ =>
    obtain ⟨a, vs, rfl, _⟩ := r
    exact ⟨fun z => (nomatch z), fun z => (nomatch z)⟩
  | tup _ =>
    obtain ⟨a, vs, rfl, _⟩ := r
    exact ⟨fun z => (nomatch z), fun z => (nomatch z)⟩
  | ktp _ =>
    obtain ⟨a, vs, rfl, _⟩ := r
    exact ⟨fun z => (nomatch z), fun z => (nomatch z)⟩
  | dK _ =>
    obtain ⟨a, vs, rfl, _⟩ := r
    exact ⟨fun z => (nomatch z), fun z => (nomatch z)⟩
  | dT _ =>
    obtain ⟨a, vs, rfl, _⟩ := r
    exact ⟨fun z => (nomatch z), fun z => (nomatch z)⟩
  | obj _ _ =>
    obtain ⟨a, dx, vs, rfl, _⟩ := r
    exact ⟨fun z => (nomatch z), fun z => (nomatch z)⟩
  | ptr _ =>
    obtain ⟨a, rfl, _⟩ := r
    exact ⟨fun z => (nomatch z), fun z => (nomatch z)⟩
  | scr =>
    obtain ⟨a, rfl, _⟩ := r
    exact ⟨fun z => (nomatch z), fun z => (nomatch z)⟩
  | _ =>
    cases (show v = _ from r)
    exact ⟨fun z => (nomatch z), fun z => (nomatch z)⟩
theorem isN_dec {K : PySem.W.Frag} {F : Hp} {π : List Addr} {d : D} {v : V} {b : Bool} (r : Rep K C F π d v) (h : isS d .non = some b) : decide (v = .non) = b := by
  cases d <;> (cases h; first | exact decide_eq_true ((non_iff r).mpr rfl) | exact decide_eq_false fun z => nomatch (non_iff r).mp z)
theorem o2_is {K : PySem.W.Frag} : Op2 K C (fun x y H Q => (y = .non ∧ Q (.bl (decide (x = .non))) H) ∨ rIsB x y H Q) opIs := by
  intro Λ F π S H dx dy x y d h w rx ry Q p
  obtain ⟨b, h1, h2⟩ := Option.map_eq_some_iff.mp h
  cases h2
  cases dy with
  | non => exact .inl ⟨ry, by rw [isN_dec rx h1]; exact p.val w rfl⟩
  | bl c =>
    cases dx with
    | bl e =>
      cases h1
      exact .inr ⟨e, c, rx, ry, p.val w rfl⟩
    | _ => cases h1
  | _ => cases h1
theorem o2_isNot {K : PySem.W.Frag} : Op2 K C (fun x y H Q => (y = .non ∧ Q (.bl (!decide (x = .non))) H) ∨ rNotB x y H Q) opIsNot := by
  intro Λ F π S H dx dy x y d h w rx ry Q p
  obtain ⟨b, h1, h2⟩ := Option.map_eq_some_iff.mp h
  cases h2
  cases dy with
  | non => exact .inl ⟨ry, by rw [isN_dec rx h1]; exact p.val w rfl⟩
  | bl c =>
    cases dx with
    | bl e =>
      cases h1
      exact .inr ⟨e, c, rx, ry, p.val w rfl⟩
    | _ => cases h1
  | _ => cases h1
theorem de_is (ha : DE X C a fa) (hb : DE X C b fb) : DE X C (.Compare a [.Is] [b] pos) (dBin opIs fa fb) := de_cmp (op_isN.or op_isBl) o2_is ha hb
theorem dt_is (ha : DE X C a fa) (hb : DE X C b fb) : DT X C (.Compare a [.Is] [b] pos) (dTest (dBin opIs fa fb)) := dt_cmp (op_isN.or op_isBl) o2_is ha hb
theorem de_isNot (ha : DE X C a fa) (hb : DE X C b fb) : DE X C (.Compare a [.IsNot] [b] pos) (dBin opIsNot fa fb) := de_cmp (op_notN.or op_notBl) o2_isNot ha hb
theorem dt_isNot (ha : DE X C a fa) (hb : DE X C b fb) : DT X C (.Compare a [.IsNot] [b] pos) (dTest (dBin opIsNot fa fb)) := dt_cmp (op_notN.or op_notBl) o2_isNot ha hb
end
end DL

set_option Elab.async false
set_option linter.all false
set_option maxRecDepth 100000
set_option maxHeartbeats 2000000
/-! DL: subscripts, slices, built-in functions and methods. -/
namespace DL
open PySem PySem.Spec PyProof.Rows L2

/-! ### subscripts -/
def atD (S : List Ob) (x y : D) : Option D := match y with
  | .int i => match x with
    | .str z => if z.length ≤ sizeLine then (atI z.cps.toList i).map fun c => .str ⟨#[c]⟩ else none
    | x => match seqOf S x with
      | some xs => atI xs i
      | none => none
  | _ => none
section
variable {X : Cx} {C : Ctx} {a b e : Expr} {fa fb f : DF D} {pos : Pos}
theorem atI_rep {K : PySem.W.Frag} {F : Hp} {π : List Addr} {xs : List D} {vs : List V} {i : Int} {d : D} (r : RepA K C F π xs vs) (h : atI xs i = some d) : ∃ v, atI vs i = some v ∧ Rep K C F π d v := by
  unfold atI at h ⊢
  obtain ⟨j, h1, h2⟩ := Option.bind_eq_some_iff.mp h
  obtain ⟨v, v1, v2⟩ := r.get h2
  refine ⟨v, ?_, v2⟩
  rw [r.length, h1]
  exact v1
theorem o2_ix {K : PySem.W.Frag} : Op2 K C (rIx K) atD := by
  intro Λ F π S H dx dy x y d h w rx ry Q p
  cases dy with
  | int i =>
    have hy : y = .int i := ry
    unfold atD at h
    simp only at h
    split at h
    · split at h
      · rename_i z hz
        obtain ⟨c, c1, c2⟩ := Option.map_eq_some_iff.mp h
        cases c2
        exact .inr (.inr ⟨z, i, c, rx, hy, hz, c1, p.val w rfl⟩)
      · cases h
    · split at h
      · rename_i xs hx
        obtain ⟨q, vs, rfl, q2, q3⟩ := seqOf_ok w rx hx
        obtain ⟨v, v1, v2⟩ := atI_rep q3 h
        rcases q2 with q2 | q2
        · exact .inl ⟨q, vs, i, v, rfl, hy, q2, v1, p.val w v2⟩
        · exact .inr (.inl ⟨q, vs, i, v, rfl, hy, q2, v1, p.val w v2⟩)
      · cases h
  | _ => cases h
theorem de_ix (ha : DE X C a fa) (hb : DE X C b fb) (hs : PlainIx b := by exact fun _ _ => rfl) : DE X C (.Subscript a b pos) (dBin atD fa fb) := by
  obtain ⟨ta, a1, a2⟩ := ha
  obtain ⟨tb, b1, b2⟩ := hb
  exact ⟨_, pe_ix ix_seq a1 b1 hs, snd_bin o2_ix a2 b2⟩
/-- d[k], the key is there -/
def dDGet (fd fk : DF D) : DF D := fun E S => (fd E S).bind fun p => (fk E p.2).bind fun q => match dictGet q.2 p.1 q.1 with
  | some (some d) => some (d, q.2)
  | _ => none
theorem de_dget (hu : X.A.units + 1 < cLine) (ha : DE X C a fa) (hb : DE X C b fb) (hs : NoSl b := by exact fun _ _ => rfl) : DE X C (.Subscript a b pos) (dDGet fa fb) := by
  obtain ⟨ta, a1, a2⟩ := ha
  obtain ⟨tb, b1, b2⟩ := hb
  refine ⟨_, pe_dget hu a1 b1 hs, fun E S d S' q Λ F π H σ w Q p => ?_⟩
  obtain ⟨⟨x, S1⟩, q1, q⟩ := Option.bind_eq_some_iff.mp q
  obtain ⟨⟨y, S2⟩, q2, q⟩ := Option.bind_eq_some_iff.mp q
  simp only at q
  split at q
  · rename_i d' h
    cases q
    refine a2 E S x S1 q1 Λ F π H σ w _ fun v F1 π1 H1 e1 w1 r1 => ?_
    refine b2 E S1 y _ q2 Λ F1 π1 H1 σ (w.step e1 w1) _ fun u F2 π2 H2 e2 w2 r2 => ?_
    obtain ⟨c, c1, z, c2, c3⟩ := dictGet_ok w2 (Rep.mono e2.f e2.p _ _ r1) r2 h
    exact ⟨c, z, c1, c2, (p.step (e1.trans e2)).val w2 c3⟩
  · cases q
/-- the script's i-th number -/
def dScr (ns : List Int) (fb : DF D) : DF D := fun E S => (fb E S).bind fun q => match q.1 with
  | .int i => (atI ns i).map fun n => (.int n, q.2)
  | _ => none
theorem de_scr {i : Nat} {x : Str} {p1 : Pos} (hb : DE X C b fb) (hN : X.N[i]? = some x := by rfl) (hv : Vis X.env.scope x := by first | exact Or.inl rfl | exact Or.inr (Or.inl rfl) | exact Or.inr (Or.inr rfl)) (hd : (x == ("__debug__" : Str)) = false := by decide)
    (hcd : (x == ("__classdict__" : Str)) = false := by decide) (hs : PlainIx b := by exact fun _ _ => rfl) : DE X C (.Subscript (.Name x p1) b pos) (fun E S => match E[i]? with
      | some (some .scr) => dScr C.ns fb E S
      | _ => none) := by
  obtain ⟨tb, b1, b2⟩ := hb
  refine ⟨_, pe_ix ix_list (pe_var hN hv hd hcd) b1 hs, fun E S d S' q Λ F π H σ w Q p => ?_⟩
  simp only at q
  split at q
  · rename_i hE
    obtain ⟨⟨y, S2⟩, q2, q⟩ := Option.bind_eq_some_iff.mp q
    cases y with
    | int j =>
      obtain ⟨n, n1, n2⟩ := Option.map_eq_some_iff.mp q
      cases n2
      obtain ⟨v, v1, v2⟩ := w.r.2 i .scr hE
      refine ⟨v, v1, b2 E S _ _ q2 Λ F π H σ w _ fun u F2 π2 H2 e2 w2 r2 => ?_⟩
      obtain ⟨a, rfl, r4⟩ := Rep.mono e2.f e2.p _ _ v2
      have n3 : atI (C.ns.map V.int) j = some (.int n) := by
        unfold atI at n1 ⊢
        obtain ⟨k, h1, h2⟩ := Option.bind_eq_some_iff.mp n1
        rw [List.length_map, h1]
        show (C.ns.map V.int)[k]? = _
        rw [List.getElem?_map, h2]
        rfl
      exact ⟨a, _, j, _, rfl, r2, Same.seq w2.ext r4, n3, p.step e2 |>.val w2 rfl⟩
    | _ => cases q
  · cases q
/-- len(script) -/
theorem de_lenScr {i : Nat} {x : Str} {p1 p2 : Pos} (hm : X.mg "len" = none) (hN : X.N[i]? = some x := by rfl) (hv : Vis X.env.scope x := by first | exact Or.inl rfl | exact Or.inr (Or.inl rfl) | exact Or.inr (Or.inr rfl)) (hd : (x == ("__debug__" : Str)) = false := by decide)
    (hcd : (x == ("__classdict__" : Str)) = false := by decide) (hg : Gl X "len" := by rfl) (hs : starEach [(.Name x p1 : Expr)] X.env = (false, eval (.Name x p1) X.env) :: starEach [] X.env := by rfl) (hpl : (backTo pos (starEach [] X.env)).any (·.1) = false := by rfl) :
    DE X C (.Call (.Name "len" p2) [.Name x p1] [] pos) (fun E S => match E[i]? with
      | some (some .scr) => some (.int C.ns.length, S)
      | _ => none) := by
  refine ⟨_, pe_callB call_len_seq hg hm PySem.boot_len (pa_cons (pe_var hN hv hd hcd) pa_nil) (by decide) (by decide) hs hpl, fun E S d S' q Λ F π H σ w Q p => ?_⟩
  simp only at q
  split at q
  · rename_i hE
    cases q
    obtain ⟨v, v1, a, rfl, r4⟩ := w.r.2 i .scr hE
    exact ⟨_, v1, a, _, rfl, .inl (Same.seq w.w.ext r4), p.val w.w (by rw [List.length_map]; rfl)⟩
  · cases q

/-! ### slices -/
def dNoPart : DF (Option Int) := fun _ S => some (none, S)
def dPart (f : DF D) : DF (Option Int) := fun E S => (f E S).bind fun p => match p.1 with
  | .int i => some (some i, p.2)
  | _ => none
theorem do_none : DO X C none dNoPart := by
  refine ⟨_, po_none, fun E S d S' q Λ F π H σ w Q p => ?_⟩
  cases q
  exact p F π H (Ext.refl _ _ _) w.w
theorem do_some (h : DE X C e f) : DO X C (some e) (dPart f) := by
  obtain ⟨t, h1, h2⟩ := h
  refine ⟨_, po_some h1, fun E S d S' q Λ F π H σ w Q p => ?_⟩
  obtain ⟨⟨x, S1⟩, q1, q⟩ := Option.bind_eq_some_iff.mp q
  cases x with
  | int i =>
    cases q
    refine h2 E S _ _ q1 Λ F π H σ w _ fun v F1 π1 H1 e1 w1 r1 => ?_
    exact ⟨i, r1, p F1 π1 H1 e1 w1⟩
  | _ => cases q
def cutL {α : Type} (xs : List α) (lo hi : Option Int) : List α := (xs.drop (HT.sIx xs.length 0 lo)).take (HT.sIx xs.length xs.length hi - HT.sIx xs.length 0 lo)
theorem RepA.cut {K : PySem.W.Frag} {F : Hp} {π : List Addr} {xs : List D} {vs : List V} (r : RepA K C F π xs vs) (lo hi : Option Int) : RepA K C F π (cutL xs lo hi) (cutV vs lo hi) := by
  unfold cutL cutV
  rw [r.length]
  exact (r.drop _).take _
/-- a list's slice: new -/
def dSlL (f : DF D) (fl fh : DF (Option Int)) : DF (List D) := fun E S => (f E S).bind fun p => (fl E p.2).bind fun l => (fh E l.2).bind fun h => (lstOf h.2 p.1).map fun xs => (cutL xs l.1 h.1, h.2)
theorem dn_slice {lo hi : Option Expr} {p2 : Pos} {fl fh : DF (Option Int)} (he : DE X C e f) (hl : DO X C lo fl) (hh : DO X C hi fh) : DN X C (.Subscript e (.Slice lo hi none p2) pos) (dSlL f fl fh) := by
  obtain ⟨t, a1, a2⟩ := he
  obtain ⟨tl, b1, b2⟩ := hl
  obtain ⟨th, c1, c2⟩ := hh
  refine ⟨_, pe_slice sl_list a1 b1 c1, fun E S d S' q Λ F π H σ w Q p => ?_⟩
  obtain ⟨⟨x, S1⟩, q1, q⟩ := Option.bind_eq_some_iff.mp q
  obtain ⟨⟨l, S2⟩, q2, q⟩ := Option.bind_eq_some_iff.mp q
  obtain ⟨⟨h, S3⟩, q3, q⟩ := Option.bind_eq_some_iff.mp q
  obtain ⟨xs, q4, q⟩ := Option.map_eq_some_iff.mp q
  cases q
  refine a2 E S x S1 q1 Λ F π H σ w _ fun v F1 π1 H1 e1 w1 r1 => ?_
  refine b2 E S1 l S2 q2 Λ F1 π1 H1 σ (w.step e1 w1) _ fun F2 π2 H2 e2 w2 => ?_
  refine c2 E S2 h _ q3 Λ F2 π2 H2 σ (w.step (e1.trans e2) w2) _ fun F3 π3 H3 e3 w3 => ?_
  have e4 := e2.trans e3
  obtain ⟨a, vs, rfl, l2, l3⟩ := lstOf_ok w3 (Rep.mono e4.f e4.p _ _ r1) q4
  exact ⟨a, vs, rfl, .inl (.inl l2), fun z hz => (p.step (e1.trans e4)).at w3 hz (l3.cut l h)⟩
/-- a text's slice -/
def dSlS (f : DF D) (fl fh : DF (Option Int)) : DF D := fun E S => (f E S).bind fun p => (fl E p.2).bind fun l => (fh E l.2).bind fun h => match p.1 with
  | .str z => if z.length ≤ sizeLine then some (.str (cutS z l.1 h.1), h.2) else none
  | _ => none
theorem de_slice {lo hi : Option Expr} {p2 : Pos} {fl fh : DF (Option Int)} (he : DE X C e f) (hl : DO X C lo fl) (hh : DO X C hi fh) : DE X C (.Subscript e (.Slice lo hi none p2) pos) (dSlS f fl fh) := by
  obtain ⟨t, a1, a2⟩ := he
  obtain ⟨tl, b1, b2⟩ := hl
  obtain ⟨th, c1, c2⟩ := hh
  refine ⟨_, pe_slice sl_str a1 b1 c1, fun E S d S' q Λ F π H σ w Q p => ?_⟩
  obtain ⟨⟨x, S1⟩, q1, q⟩ := Option.bind_eq_some_iff.mp q
  obtain ⟨⟨l, S2⟩, q2, q⟩ := Option.bind_eq_some_iff.mp q
  obtain ⟨⟨h, S3⟩, q3, q⟩ := Option.bind_eq_some_iff.mp q
  cases x with
  | str z =>
    simp only at q
    split at q
    · rename_i hz
      cases q
      refine a2 E S _ S1 q1 Λ F π H σ w _ fun v F1 π1 H1 e1 w1 r1 => ?_
      refine b2 E S1 l S2 q2 Λ F1 π1 H1 σ (w.step e1 w1) _ fun F2 π2 H2 e2 w2 => ?_
      refine c2 E S2 h _ q3 Λ F2 π2 H2 σ (w.step (e1.trans e2) w2) _ fun F3 π3 H3 e3 w3 => ?_
      exact ⟨z, r1, hz, (p.step (e1.trans (e2.trans e3))).val w3 rfl⟩
    · cases q
  | _ => cases q

/-! ### stores -/
/-- o[i] = e, a list -/
def gSetL (fo fi : DF D) : DFG := fun d E S => (fo E S).bind fun p => (fi E p.2).bind fun q => match p.1, q.1 with
  | .ptr k, .int i => match q.2[k]? with
    | some (.lst xs) => (ixN xs.length i).map fun j => (E, q.2.set k (.lst (xs.set j d)))
    | _ => none
  | _, _ => none
theorem snd_setL {K : PySem.W.Frag} {to ti : TE} {fo fi : DF D} (ho : Snd K C to fo) (hi : Snd K C ti fi) : SndG K C [] (gSub to ti rSetL) (gSetL fo fi) := by
  intro d E S E' S' q Λ F π H σ v w r Q p
  obtain ⟨⟨x, S1⟩, q1, q⟩ := Option.bind_eq_some_iff.mp q
  obtain ⟨⟨y, S2⟩, q2, q⟩ := Option.bind_eq_some_iff.mp q
  simp only at q
  split at q
  · rename_i k i
    split at q
    · rename_i xs hx
      obtain ⟨j, q3, q⟩ := Option.map_eq_some_iff.mp q
      cases q
      refine ho E S _ S1 q1 Λ F π H σ w _ fun u F1 π1 H1 e1 w1 r1 => ?_
      refine hi E S1 _ S2 q2 Λ F1 π1 H1 σ (w.step e1 w1) _ fun z F2 π2 H2 e2 w2 r2 => ?_
      obtain ⟨a, rfl, hp⟩ := Rep.mono e2.f e2.p _ _ r1
      obtain ⟨ob, o1, o2⟩ := w2.obj hp
      rw [hx] at o1
      cases o1
      obtain ⟨vs, v1, v2⟩ := o2
      have e3 := e1.trans e2
      refine ⟨a, vs, _, j, rfl, r2, v1, by rw [v2.length]; exact q3, ?_⟩
      exact p σ F2 π2 _ (e3.trans (Ext.put hp)) ⟨w2.put hp ⟨_, upd_same, RepA.set (Rep.mono e3.f e3.p _ _ r) j v2⟩, w.r.mono e3.f e3.p⟩ ⟨rfl, fun _ _ => rfl⟩
    · cases q
  · cases q
theorem dg_setL {o i : Expr} {fo fi : DF D} (ho : DE X C o fo) (hi : DE X C i fi) (ha : ∀ v, assign (.Subscript o i pos) X.env v = (do
      let ov ← holding [v] (eval o X.env)
      let iv ← holding [v, ov] (eval i X.env)
      standAt pos
      holding [v, ov, iv] (setItem ov iv v)
      release [v, ov, iv] []) := by intro _; rfl) : DG X C [] (.Subscript o i pos) (gSetL fo fi) := by
  obtain ⟨to, a1, a2⟩ := ho
  obtain ⟨ti, b1, b2⟩ := hi
  exact ⟨_, pg_sub a1 b1 set_list ha, snd_setL a2 b2⟩
/-- d[k] = e -/
def putO (S : List Ob) (d key x : D) : Option (List Ob) := match d with
  | .ptr j => match S[j]? with
    | some (.dK kvs) => match keyOf key with
      | some k => if kvs.length < sizeLine then some (S.set j (.dK (putD kvs k x))) else none
      | none => none
    | some (.dT kvs) => match tkeyOf key with
      | some k => if kvs.length < sizeLine then some (S.set j (.dT (putD kvs k x))) else none
      | none => none
    | _ => none
  | _ => none
theorem putO_ok {K : PySem.W.Frag} {Λ : Lk} {F : Hp} {π : List Addr} {S S' : List Ob} {H : Hp} {d key x : D} {v u z : V} (w : Wd K C Λ F π S H) (r : Rep K C F π d v) (rk : Rep K C F π key u) (rx : Rep K C F π x z) (h : putO S d key x = some S') :
    ∃ a H', v = .ref a ∧ DPut H a u z H' ∧ Ext F π H F π H' ∧ Wd K C Λ F π S' H' := by
  unfold putO at h
  split at h
  · rename_i j
    obtain ⟨a, rfl, hp⟩ := r
    obtain ⟨ob, o1, o2⟩ := w.obj hp
    rw [o1] at h
    cases ob with
    | dK kvs =>
      simp only at h
      split at h
      · rename_i k hk
        split at h
        · rename_i hz
          cases h
          obtain ⟨l, l1, l2⟩ := o2
          have l3 := repK_m.mp l2
          exact ⟨a, _, rfl, .inl ⟨l, k, l1, keyOf_ok rk hk, by rw [l3.length]; exact hz, rfl⟩, Ext.put hp, w.put hp ⟨_, upd_same, repK_m.mpr (l3.put rx k)⟩⟩
        · cases h
      · cases h
    | dT kvs =>
      simp only at h
      split at h
      · rename_i k hk
        split at h
        · rename_i hz
          cases h
          obtain ⟨l, l1, l2⟩ := o2
          have l3 := repT_m.mp l2
          obtain ⟨b, b1, b2⟩ := tkeyOf_ok w rk hk
          exact ⟨a, _, rfl, .inr ⟨l, k, b, l1, b1, b2, by rw [l3.length]; exact hz, rfl⟩, Ext.put hp, w.put hp ⟨_, upd_same, repT_m.mpr (l3.put rx k)⟩⟩
        · cases h
      · cases h
    | _ => cases h
  · cases h
def sDP (fd fk fv : DF D) : DFS := fun E S => (fv E S).bind fun v => (fd E v.2).bind fun d => (fk E d.2).bind fun k => (putO k.2 d.1 k.1 v.1).map fun S' => (.nx E, S')
theorem ds_dput {o i value : Expr} {fo fi fv : DF D} {pos' : Pos} (hu : X.A.units + 1 < cLine) (ho : DE X C o fo) (hi : DE X C i fi) (hv : DE X C value fv) (hs : swapsWith value (some (.Subscript o i pos')) pos.line X.env = pure false := by rfl) : DSt X C (.Assign [.Subscript o i pos'] value pos) (sDP fo fi fv) := by
  obtain ⟨to, a1, a2⟩ := ho
  obtain ⟨ti, b1, b2⟩ := hi
  obtain ⟨tv, c1, c2⟩ := hv
  refine ⟨_, ps_dput hu a1 b1 c1 hs, fun E S o S' q Λ F π H σ w Dn p => ?_⟩
  obtain ⟨⟨x, S1⟩, q1, q⟩ := Option.bind_eq_some_iff.mp q
  obtain ⟨⟨d, S2⟩, q2, q⟩ := Option.bind_eq_some_iff.mp q
  obtain ⟨⟨k, S3⟩, q3, q⟩ := Option.bind_eq_some_iff.mp q
  obtain ⟨S4, q4, q⟩ := Option.map_eq_some_iff.mp q
  cases q
  refine c2 E S x S1 q1 Λ F π H σ w _ fun v F1 π1 H1 e1 w1 r1 => ?_
  refine a2 E S1 d S2 q2 Λ F1 π1 H1 σ (w.step e1 w1) _ fun u F2 π2 H2 e2 w2 r2 => ?_
  refine b2 E S2 k S3 q3 Λ F2 π2 H2 σ (w.step (e1.trans e2) w2) _ fun z F3 π3 H3 e3 w3 r3 => ?_
  have e4 := e2.trans e3
  obtain ⟨a, H4, a1', a2', a3, a4⟩ := putO_ok w3 (Rep.mono e3.f e3.p _ _ r2) r3 (Rep.mono e4.f e4.p _ _ r1) q4
  have e5 := e1.trans e4
  exact ⟨a, H4, a1', a2', p σ F3 π3 H4 (e5.trans a3) a4 (w.r.mono e5.f e5.p)⟩

/-! ### built-in functions -/
def lenS (S : List Ob) (d : D) : Option Int := match d with
  | .str x => if x.length ≤ sizeLine then some x.length else none
  | .dK kvs => some kvs.length
  | .dT kvs => some kvs.length
  | .ptr k => match S[k]? with
    | some (.lst xs) => some xs.length
    | some (.dK kvs) => some kvs.length
    | some (.dT kvs) => some kvs.length
    | _ => none
  | d => (seqOf S d).map fun xs => xs.length
def fLen (S : List Ob) : List D → Option D
  | [d] => (lenS S d).map D.int
  | _ => none
abbrev rLenA (K : PySem.W.Frag) : List V → Hp → VK → Prop := fun xs H Q => (∃ x n, xs = [x] ∧ LenV K x H n ∧ Q (.int n) H) ∨ ((∃ a kvs, xs = [V.ref a] ∧ H a = some (.dK kvs) ∧ Q (.int kvs.length) H) ∨ rLenT xs H Q)
theorem rep_one {K : PySem.W.Frag} {F : Hp} {π : List Addr} {d : D} {vs : List V} (r : RepA K C F π [d] vs) : ∃ v, vs = [v] ∧ Rep K C F π d v := by
  obtain ⟨v, t, rfl, q, z⟩ := r
  cases (show t = [] from z)
  exact ⟨v, rfl, q⟩
theorem rep_two {K : PySem.W.Frag} {F : Hp} {π : List Addr} {d e : D} {vs : List V} (r : RepA K C F π [d, e] vs) : ∃ v u, vs = [v, u] ∧ Rep K C F π d v ∧ Rep K C F π e u := by
  obtain ⟨v, t, rfl, q, z⟩ := r
  obtain ⟨u, rfl, q2⟩ := rep_one z
  exact ⟨v, u, rfl, q, q2⟩
theorem cs_len {K : PySem.W.Frag} : CallS K C (rLenA K) fLen := by
  intro Λ F π S H ds vs d h w r Q p
  match ds, h with
  | [x], h =>
    obtain ⟨n, h1, h2⟩ := Option.map_eq_some_iff.mp h
    cases h2
    obtain ⟨v, rfl, q⟩ := rep_one r
    have seq : ∀ {x : D}, Rep K C F π x v → (seqOf S x).map (fun xs => (xs.length : Int)) = some n → rLenA K [v] H Q := fun {x} q h1 => by
      obtain ⟨xs, h3, h4⟩ := Option.map_eq_some_iff.mp h1
      obtain ⟨a, vs, rfl, q2, q3⟩ := seqOf_ok w q h3
      refine .inl ⟨.ref a, vs.length, rfl, ?_, p.val w (by rw [q3.length]; exact congrArg V.int h4)⟩
      rcases q2 with q2 | q2
      · exact .inl ⟨vs, q2, rfl⟩
      · exact .inr ⟨vs, q2, rfl⟩
    cases x with
    | str z =>
      simp only [lenS] at h1
      split at h1
      · rename_i hz
        cases h1
        cases (show v = .str z from q)
        exact .inl ⟨_, z.length, rfl, ⟨hz, rfl⟩, p.val w rfl⟩
      · cases h1
    | dK kvs =>
      cases h1
      obtain ⟨a, l, rfl, q2, q3⟩ := q
      exact .inr (.inl ⟨a, l, rfl, w.ext _ _ q2, p.val w (by rw [(repK_m.mp q3).length]; rfl)⟩)
    | dT kvs =>
      cases h1
      obtain ⟨a, l, rfl, q2, q3⟩ := q
      exact .inr (.inr ⟨a, l, rfl, w.ext _ _ q2, p.val w (by rw [(repT_m.mp q3).length]; rfl)⟩)
    | ptr k =>
      have h1 : (match S[k]? with
        | some (.lst xs) => some (xs.length : Int)
        | some (.dK kvs) => some (kvs.length : Int)
        | some (.dT kvs) => some (kvs.length : Int)
        | _ => none) = some n := h1
      obtain ⟨a, rfl, hp⟩ := q
      obtain ⟨ob, o1, o2⟩ := w.obj hp
      rw [o1] at h1
      cases ob with
      | lst xs =>
        cases h1
        obtain ⟨vs, v1, v2⟩ := o2
        exact .inl ⟨.ref a, vs.length, rfl, .inl ⟨vs, .inl (.inl v1), rfl⟩, p.val w (by rw [v2.length]; rfl)⟩
      | dK kvs =>
        cases h1
        obtain ⟨l, q2, q3⟩ := o2
        exact .inr (.inl ⟨a, l, rfl, q2, p.val w (by rw [(repK_m.mp q3).length]; rfl)⟩)
      | dT kvs =>
        cases h1
        obtain ⟨l, q2, q3⟩ := o2
        exact .inr (.inr ⟨a, l, rfl, q2, p.val w (by rw [(repT_m.mp q3).length]; rfl)⟩)
      | _ => cases h1
    | _ => exact seq q h1
def fInt (_ : List Ob) : List D → Option D
  | [.int i] => some (.int i)
  | [.bl b] => some (.int (if b then 1 else 0))
  | _ => none
theorem cs_int {K : PySem.W.Frag} : CallS K C (fun xs H Q => (∃ i, xs = [.int i] ∧ Q (.int i) H) ∨ ∃ k, xs = [.bl k] ∧ Q (.int (if k then 1 else 0)) H) fInt := by
  intro Λ F π S H ds vs d h w r Q p
  match ds, h with
  | [.int i], h =>
    cases h
    obtain ⟨v, rfl, q⟩ := rep_one r
    cases (show v = .int i from q)
    exact .inl ⟨i, rfl, p.val w rfl⟩
  | [.bl b], h =>
    cases h
    obtain ⟨v, rfl, q⟩ := rep_one r
    cases (show v = .bl b from q)
    exact .inr ⟨b, rfl, p.val w rfl⟩
def fStr (_ : List Ob) : List D → Option D
  | [.str i] => some (.str i)
  | [.int i] => if i.natAbs.log2 < 1920 then some (.str (toString i)) else none
  | _ => none
theorem cs_str {K : PySem.W.Frag} : CallS K C (fun xs H Q => (∃ a, xs = [.str a] ∧ Q (.str a) H) ∨ (∃ i, xs = [.int i] ∧ i.natAbs.log2 < 1920 ∧ Q (.str (toString i)) H)) fStr := by
  intro Λ F π S H ds vs d h w r Q p
  match ds, h with
  | [.str i], h =>
    cases h
    obtain ⟨v, rfl, q⟩ := rep_one r
    cases (show v = .str i from q)
    exact .inl ⟨i, rfl, p.val w rfl⟩
  | [.int i], h =>
    simp only [fStr] at h
    split at h
    · rename_i hz
      cases h
      obtain ⟨v, rfl, q⟩ := rep_one r
      cases (show v = .int i from q)
      exact .inr ⟨i, rfl, hz, p.val w rfl⟩
    · cases h
def fAbs (_ : List Ob) : List D → Option D
  | [.int i] => some (.int (if i < 0 then -i else i))
  | _ => none
theorem cs_abs {K : PySem.W.Frag} : CallS K C (fun xs H Q => ∃ i, xs = [.int i] ∧ Q (.int (if i < 0 then -i else i)) H) fAbs := by
  intro Λ F π S H ds vs d h w r Q p
  match ds, h with
  | [.int i], h =>
    cases h
    obtain ⟨v, rfl, q⟩ := rep_one r
    cases (show v = .int i from q)
    exact ⟨i, rfl, p.val w rfl⟩
def fMax2 (_ : List Ob) : List D → Option D
  | [.int i, .int j] => some (.int (if j > i then j else i))
  | _ => none
theorem cs_max2 {K : PySem.W.Frag} : CallS K C (fun xs H Q => ∃ i j, xs = [.int i, .int j] ∧ Q (.int (if j > i then j else i)) H) fMax2 := by
  intro Λ F π S H ds vs d h w r Q p
  match ds, h with
  | [.int i, .int j], h =>
    cases h
    obtain ⟨v, u, rfl, q, q2⟩ := rep_two r
    cases (show v = .int i from q)
    cases (show u = .int j from q2)
    exact ⟨i, j, rfl, p.val w rfl⟩
/-- the greatest, the least of a list of ints -/
def maxI : List Int → Int
  | [] => 0
  | [x] => x
  | x :: y :: r => max x (maxI (y :: r))
def minI : List Int → Int
  | [] => 0
  | [x] => x
  | x :: y :: r => min x (minI (y :: r))
theorem maxI_mem : ∀ l : List Int, 0 < l.length → maxI l ∈ l ∧ ∀ y ∈ l, y ≤ maxI l
  | [x], _ => ⟨by simp [maxI], fun y hy => by simp [maxI] at hy ⊢; omega⟩
  | x :: y :: r, _ => by
    obtain ⟨h1, h2⟩ := maxI_mem (y :: r) (by simp)
    refine ⟨?_, fun z hz => ?_⟩
    · show max x (maxI (y :: r)) ∈ _
      by_cases h : x ≤ maxI (y :: r)
      · rw [Int.max_eq_right h]
        exact List.mem_cons_of_mem _ h1
      · rw [Int.max_eq_left (by omega)]
        exact List.mem_cons_self
    · show z ≤ max x (maxI (y :: r))
      rcases List.mem_cons.mp hz with rfl | hz
      · omega
      · have := h2 z hz
        omega
theorem minI_mem : ∀ l : List Int, 0 < l.length → minI l ∈ l ∧ ∀ y ∈ l, minI l ≤ y
  | [x], _ => ⟨by simp [minI], fun y hy => by simp [minI] at hy ⊢; omega⟩
  | x :: y :: r, _ => by
    obtain ⟨h1, h2⟩ := minI_mem (y :: r) (by simp)
    refine ⟨?_, fun z hz => ?_⟩
    · show min x (minI (y :: r)) ∈ _
      by_cases h : minI (y :: r) ≤ x
      · rw [Int.min_eq_right h]
        exact List.mem_cons_of_mem _ h1
      · rw [Int.min_eq_left (by omega)]
        exact List.mem_cons_self
    · show min x (minI (y :: r)) ≤ z
      rcases List.mem_cons.mp hz with rfl | hz
      · omega
      · have := h2 z hz
        omega
def fMax (S : List Ob) : List D → Option D
  | [d] => match (lstOf S d).bind intsOf with
    | some ns => if 0 < ns.length then some (.int (maxI ns)) else none
    | none => none
  | _ => none
def fMin (S : List Ob) : List D → Option D
  | [d] => match (lstOf S d).bind intsOf with
    | some ns => if 0 < ns.length then some (.int (minI ns)) else none
    | none => none
  | _ => none
def fSum (S : List Ob) : List D → Option D
  | [d] => match (lstOf S d).bind intsOf with
    | some ns => some (.int ns.sum)
    | none => none
  | _ => none
theorem ints_at {K : PySem.W.Frag} {Λ : Lk} {F : Hp} {π : List Addr} {S : List Ob} {H : Hp} {d : D} {v : V} {ns : List Int} (w : Wd K C Λ F π S H) (r : Rep K C F π d v) (h : (lstOf S d).bind intsOf = some ns) : ∃ a, v = .ref a ∧ SqL K H a (ns.map V.int) := by
  obtain ⟨xs, h1, h2⟩ := Option.bind_eq_some_iff.mp h
  obtain ⟨a, vs, rfl, q2, q3⟩ := lstOf_ok w r h1
  exact ⟨a, rfl, by rw [← intsOf_ok q3 h2]; exact .inl (.inl q2)⟩
theorem strs_at {K : PySem.W.Frag} {Λ : Lk} {F : Hp} {π : List Addr} {S : List Ob} {H : Hp} {d : D} {v : V} {ns : List Str} (w : Wd K C Λ F π S H) (r : Rep K C F π d v) (h : (lstOf S d).bind strsOf = some ns) : ∃ a, v = .ref a ∧ SqL K H a (ns.map V.str) := by
  obtain ⟨xs, h1, h2⟩ := Option.bind_eq_some_iff.mp h
  obtain ⟨a, vs, rfl, q2, q3⟩ := lstOf_ok w r h1
  exact ⟨a, rfl, by rw [← strsOf_ok q3 h2]; exact .inl (.inl q2)⟩
theorem cs_max {K : PySem.W.Frag} : CallS K C (rMax K) fMax := by
  intro Λ F π S H ds vs d h w r Q p
  match ds, h with
  | [x], h =>
    simp only [fMax] at h
    split at h
    · rename_i ns hn
      split at h
      · rename_i hz
        cases h
        obtain ⟨v, rfl, q⟩ := rep_one r
        obtain ⟨a, rfl, q2⟩ := ints_at w q hn
        refine ⟨a, ns, rfl, q2, hz, fun m h1 h2 => p.val w ?_⟩
        obtain ⟨m1, m2⟩ := maxI_mem ns hz
        have e : m = maxI ns := Int.le_antisymm (m2 m h1) (h2 _ m1)
        rw [e]
        rfl
      · cases h
    · cases h
theorem cs_min {K : PySem.W.Frag} : CallS K C (rMin K) fMin := by
  intro Λ F π S H ds vs d h w r Q p
  match ds, h with
  | [x], h =>
    simp only [fMin] at h
    split at h
    · rename_i ns hn
      split at h
      · rename_i hz
        cases h
        obtain ⟨v, rfl, q⟩ := rep_one r
        obtain ⟨a, rfl, q2⟩ := ints_at w q hn
        refine ⟨a, ns, rfl, q2, hz, fun m h1 h2 => p.val w ?_⟩
        obtain ⟨m1, m2⟩ := minI_mem ns hz
        have e : m = minI ns := Int.le_antisymm (h2 _ m1) (m2 m h1)
        rw [e]
        rfl
      · cases h
    · cases h
theorem cs_sum {K : PySem.W.Frag} : CallS K C (rSum K) fSum := by
  intro Λ F π S H ds vs d h w r Q p
  match ds, h with
  | [x], h =>
    simp only [fSum] at h
    split at h
    · rename_i ns hn
      cases h
      obtain ⟨v, rfl, q⟩ := rep_one r
      obtain ⟨a, rfl, q2⟩ := ints_at w q hn
      exact ⟨a, ns, rfl, q2, p.val w rfl⟩
    · cases h

/-! ### sorted -/
def leS (a b : Str) : Bool := decide (a.cps.toList ≤ b.cps.toList)
def sortI (l : List Int) : List Int := l.mergeSort fun a b => decide (a ≤ b)
def sortS (l : List Str) : List Str := l.mergeSort leS
theorem sortI_uniq {l m : List Int} (h1 : m.Perm l) (h2 : m.Pairwise (· ≤ ·)) : m = sortI l := by
  refine List.Perm.eq_of_pairwise (fun a b _ _ => ?_) h2 ?_ (h1.trans (List.mergeSort_perm l _).symm)
  · intro h3 h4
    omega
  · have := List.pairwise_mergeSort (le := fun a b : Int => decide (a ≤ b)) (fun a b c => by simp; omega) (fun a b => by simp; omega) l
    exact this.imp fun h => by simpa using h
def rSortedSD (K : PySem.W.Frag) : List V → Hp → VK → Prop := fun vs H Q => ∃ (a : Addr) (xs : List Str), vs = [V.ref a] ∧ SqL K H a (xs.map V.str) ∧ ∀ p, H p = none → Q (.ref p) (upd H p (.lst ((sortS xs).map V.str)))
theorem each_strs : ∀ {xs : List Str} {us : List Value}, Vals (xs.map V.str) us → PySem.W.EachIs (fun v b => ∃ t, v = Value.str b t) us xs
  | [], _, .nil => .nil
  | x :: xs, _, .cons r t => .cons r (each_strs t)
theorem vals_each : ∀ {us : List Value} {xs : List Str}, PySem.W.EachIs (fun v b => ∃ t, v = Value.str b t) us xs → Vals (xs.map V.str) us
  | _, _, .nil => .nil
  | _, _, .cons r t => .cons r (vals_each t)
end
end DL

set_option Elab.async false
set_option linter.all false
set_option maxRecDepth 100000
set_option maxHeartbeats 2000000
/-! DL: sorted, list, tuple, isinstance, methods, new dicts. -/
namespace DL
open PySem PySem.Spec PyProof.Rows L2
section
variable {X : Cx} {C : Ctx} {a b e : Expr} {fa fb f : DF D} {pos : Pos}
theorem cr_sortedSD (hu : X.A.units + 64 < cLine) : CallR X (.builtin "sorted") (rSortedSD X.K) := by
  intro pins s σ H vs us Q I r h
  obtain ⟨a, xs, rfl, hs, q⟩ := h
  obtain ⟨its, rv, hl, hz⟩ := I.list hs
  rw [Vals.ref1 r]
  have hx : xs.length ≤ sizeLine := by rwa [List.length_map] at hz
  have er : PySem.W.EachIs (fun v b => ∃ as, Reads s.heap v (PyData.str b) as) its xs := (each_strs rv).mono fun v b ⟨t, e⟩ => ⟨[], e ▸ .str b t⟩
  have hal : PySem.W.AllAlike (xs.map PyData.str) := fun d hd d' hd' => by
    obtain ⟨x, _, rfl⟩ := List.mem_map.mp hd
    obtain ⟨y, _, rfl⟩ := List.mem_map.mp hd'
    rfl
  have hk : PySem.W.Sortable (xs.map PyData.str) := .inr fun d hd => by
    obtain ⟨x, _, rfl⟩ := List.mem_map.mp hd
    exact ⟨fun z => (nomatch z), fun _ z => (nomatch z)⟩
  refine PySem.W.sorted_data (R := fun v b => ∃ t, v = Value.str b t) (enc := PyData.str) (bs := xs) hl.isList (each_strs rv) er hal hk hx (fun b _ => by show X.A.units + 2 + 0 < cLine; omega) fun out h1 h2 => ?_
  have e1 : xs.mergeSort (PySem.W.dataLe false PyData.str) = sortS xs := by
    unfold sortS
    congr 1
    exact PySem.W.dataLe_str fun b => b
  rw [e1] at h2
  obtain ⟨ep, he'⟩ := PyProof.Rows.sortedAll_at s.heap its out.toArray
  have hlen : ((sortS xs).map V.str).length ≤ sizeLine := by rw [List.length_map, sortS, List.length_mergeSort]; exact hx
  exact ⟨.ref _, upd H (s.heap.objs.size + 1) (.lst ((sortS xs).map V.str)), I.laid (t' := s.toks) (fun _ _ => PyProof.Rows.sortedAll_old) (Nat.le_succ _) ⟨hlen, out, ep, vals_each h2, he'⟩, rfl, q _ (I.hok.fresh (Nat.le_succ _))⟩
def fSortI (S : List Ob) : List D → Option (List D)
  | [d] => ((lstOf S d).bind intsOf).map fun ns => (sortI ns).map D.int
  | _ => none
def fSortS (S : List Ob) : List D → Option (List D)
  | [d] => ((lstOf S d).bind strsOf).map fun ns => (sortS ns).map D.str
  | _ => none
theorem cn_sortI {K : PySem.W.Frag} : CallSN K C (rSortedI K) fSortI := by
  intro Λ F π S H ds vs d h w r Q p
  match ds, h with
  | [x], h =>
    obtain ⟨ns, h1, h2⟩ := Option.map_eq_some_iff.mp h
    cases h2
    obtain ⟨v, rfl, q⟩ := rep_one r
    obtain ⟨a, rfl, q2⟩ := ints_at w q h1
    exact ⟨a, ns, rfl, q2, fun ns' z p1 p2 hz => p.at w hz (by rw [← sortI_uniq p1 p2]; exact rep_ints ns')⟩
theorem cn_sortS {K : PySem.W.Frag} : CallSN K C (rSortedSD K) fSortS := by
  intro Λ F π S H ds vs d h w r Q p
  match ds, h with
  | [x], h =>
    obtain ⟨ns, h1, h2⟩ := Option.map_eq_some_iff.mp h
    cases h2
    obtain ⟨v, rfl, q⟩ := rep_one r
    obtain ⟨a, rfl, q2⟩ := strs_at w q h1
    exact ⟨a, ns, rfl, q2, fun z hz => p.at w hz (rep_strs _)⟩
/-- list(xs), list(t) -/
def fList (S : List Ob) : List D → Option (List D)
  | [d] => seqOf S d
  | _ => none
theorem cn_list {K : PySem.W.Frag} : CallSN K C (fun xs H Q => ∃ p ys, xs = [V.ref p] ∧ (SqL K H p ys ∨ SqT K H p ys) ∧ ∀ l, H l = none → Q (.ref l) (upd H l (.lst ys))) fList := by
  intro Λ F π S H ds vs d h w r Q p
  match ds, h with
  | [x], h =>
    obtain ⟨v, rfl, q⟩ := rep_one r
    obtain ⟨a, us, rfl, q2, q3⟩ := seqOf_ok w q h
    exact ⟨a, us, rfl, q2, fun z hz => p.at w hz q3⟩
/-- tuple(xs), a list -/
def fTuple (S : List Ob) : List D → Option D
  | [d] => (lstOf S d).map D.tup
  | _ => none
theorem cs_tuple {K : PySem.W.Frag} : CallS K C (fun xs H Q => ∃ p ys, xs = [V.ref p] ∧ ((SqL K H p ys ∧ ∀ l, H l = none → Q (.ref l) (upd H l (.tup ys))) ∨ (SqT K H p ys ∧ Q (.ref p) H))) fTuple := by
  intro Λ F π S H ds vs d h w r Q p
  match ds, h with
  | [x], h =>
    obtain ⟨xs, h1, h2⟩ := Option.map_eq_some_iff.mp h
    cases h2
    obtain ⟨v, rfl, q⟩ := rep_one r
    obtain ⟨a, us, rfl, q2, q3⟩ := lstOf_ok w q h1
    exact ⟨a, us, rfl, .inl ⟨.inl (.inl q2), fun z hz => p.tupAt w hz q3⟩⟩

/-! ### isinstance -/
inductive Tg where
  | b (n : String) | o (c : Nat)
def tgOf (S : List Ob) : D → Option Tg
  | .non => some (.b "NoneType")
  | .bl _ => some (.b "bool")
  | .int _ => some (.b "int")
  | .str _ => some (.b "str")
  | .lst _ => some (.b "list")
  | .tup _ => some (.b "tuple")
  | .dK _ => some (.b "dict")
  | .dT _ => some (.b "dict")
  | .obj c _ => some (.o c)
  | .ptr k => match S[k]? with
    | some (.lst _) => some (.b "list")
    | some (.dK _) => some (.b "dict")
    | some (.dT _) => some (.b "dict")
    | some (.ins c _) => some (.o c)
    | _ => none
  | _ => none
def tgV (C : Ctx) : Tg → Value
  | .b n => .type n
  | .o c => .ref (C.cls c)
/-- what a class of the text has -/
structure ClOk (K : PySem.W.Frag) (C : Ctx) : Prop where
  cl : ∀ c, Cls K (C.cls c)
  ha : ∀ c, PySem.W.findIn K (.ref (C.cls c)) "__class__" = some (some (.builtin "object.__class__"))
  hn : PySem.W.specialIn K (.builtin "object.__class__") "__get__" = some (some (.builtin "getset_descriptor.__get__"))
  htk : PySem.W.takesIn K (.builtin "object.__class__") = some true
  hm : ∀ c, PySem.W.mroIn K (C.cls c) (.type "object") = some true
theorem ClOk.ty {K : PySem.W.Frag} (h : ClOk K C) {H : Hp} {p dx : Addr} {c : Nat} {fs : List (Str × V)} (e : H p = some (.ins (C.cls c) dx fs)) : TyX K H (.ref p) (.ref (C.cls c)) := .base (.ins e (h.cl c) (h.ha c) h.hn h.htk (h.hm c))
theorem tgOf_ok {K : PySem.W.Frag} {Λ : Lk} {F : Hp} {π : List Addr} {S : List Ob} {H : Hp} {d : D} {v : V} {t : Tg} (hC : ClOk K C) (w : Wd K C Λ F π S H) (r : Rep K C F π d v) (h : tgOf S d = some t) : TyX K H v (tgV C t) := by
  cases d with
  | non =>
    cases h
    rw [show v = .non from r]
    exact .base .non
  | bl b =>
    cases h
    rw [show v = .bl b from r]
    exact .base (.bl b)
  | int i =>
    cases h
    rw [show v = .int i from r]
    exact .base (.int i)
  | str i =>
    cases h
    rw [show v = .str i from r]
    exact .base (.str i)
  | lst xs =>
    cases h
    obtain ⟨a, vs, rfl, q, _⟩ := r
    exact .base (.lst (w.ext _ _ q))
  | tup xs =>
    cases h
    obtain ⟨a, vs, rfl, q, _⟩ := r
    exact .base (.tup (w.ext _ _ q))
  | dK xs =>
    cases h
    obtain ⟨a, vs, rfl, q, _⟩ := r
    exact .base (.dK (w.ext _ _ q))
  | dT xs =>
    cases h
    obtain ⟨a, vs, rfl, q, _⟩ := r
    exact .base (.dT (w.ext _ _ q))
  | obj c fs =>
    cases h
    obtain ⟨a, dx, vs, rfl, q, _⟩ := r
    exact hC.ty (w.ext _ _ q)
  | ptr k =>
    obtain ⟨a, rfl, hp⟩ := r
    obtain ⟨ob, o1, o2⟩ := w.obj hp
    simp only [tgOf, o1] at h
    cases ob with
    | lst xs =>
      cases h
      obtain ⟨vs, q, _⟩ := o2
      exact .base (.lst q)
    | dK xs =>
      cases h
      obtain ⟨vs, q, _⟩ := o2
      exact .base (.dK q)
    | dT xs =>
      cases h
      obtain ⟨vs, q, _⟩ := o2
      exact .base (.dT q)
    | ins c xs =>
      cases h
      obtain ⟨dx, vs, q, _⟩ := o2
      exact hC.ty q
    | _ => cases h
  | _ => cases h
/-- isinstance(e, c): g tells the answers by the types -/
def dIsi (g : Tg → Option Bool) (f : DF D) : DF D := fun E S => (f E S).bind fun p => ((tgOf p.2 p.1).bind g).map fun b => (.bl b, p.2)
theorem de_isi {x y : Str} {p1 p2 : Pos} {te : TE} {c : V} {u : Value} {g : Tg → Option Bool} (hC : ClOk X.K C) (hk : PE X (.Name y p2) (tC c)) (hc : ClsV c u) (hg : ∀ t b, g t = some b → PySem.W.kitOne X.K (tgV C t) u = some b) (ha : DE X C a f) (hm : X.mg "isinstance" = none)
    (hs : starEach [a, .Name y p2] X.env = (false, eval a X.env) :: starEach [.Name y p2] X.env := by rfl) (hs2 : starEach [(.Name y p2 : Expr)] X.env = (false, eval (.Name y p2) X.env) :: starEach [] X.env := by rfl) (hgl : Gl X "isinstance" := by rfl) (hpl : (backTo pos (starEach [(.Name y p2 : Expr)] X.env)).any (·.1) = false := by rfl) :
    DE X C (.Call (.Name "isinstance" p1) [a, .Name y p2] [] pos) (dIsi g f) := by
  obtain ⟨t, a1, a2⟩ := ha
  refine ⟨_, pe_callB call_isi hgl hm (by decide +kernel) (pa_cons a1 (pa_cons hk pa_nil hs2) hs) (by decide) (by decide) hs hpl, fun E S d S' q Λ F π H σ w Q p => ?_⟩
  obtain ⟨⟨x, S1⟩, q1, q⟩ := Option.bind_eq_some_iff.mp q
  obtain ⟨bb, q2, q⟩ := Option.map_eq_some_iff.mp q
  obtain ⟨tg, q3, q4⟩ := Option.bind_eq_some_iff.mp q2
  cases q
  refine a2 E S x _ q1 Λ F π H σ w _ fun v F1 π1 H1 e1 w1 r1 => ?_
  exact ⟨v, c, tgV C tg, u, bb, rfl, hc, tgOf_ok hC w1 r1 q3, hg tg bb q4, (p.step e1).val w1 rfl⟩
/-- the answers for a built-in class -/
def isiB (n : String) : Tg → Option Bool
  | .b m => if m ∈ ["NoneType", "bool", "int", "str", "list", "tuple", "dict"] then some (m == n || (m == "bool" && n == "int")) else none
  | .o _ => some false
/-- the answers for a class of the text -/
def isiO (c : Nat) : Tg → Option Bool
  | .b m => if m ∈ ["NoneType", "bool", "int", "str", "list", "tuple", "dict"] then some false else none
  | .o d => if d < nCls ∧ c < nCls then some (d == c) else none

/-! ### methods of lists -/
/-- xs.append(e) -/
def dApp (fo f : DF D) : DF D := fun E S => (fo E S).bind fun p => (f E p.2).bind fun q => match p.1 with
  | .ptr k => match p.2[k]?, q.2[k]? with
    | some (.lst _), some (.lst xs) => if xs.length < sizeLine then some (.non, q.2.set k (.lst (xs ++ [q.1]))) else none
    | _, _ => none
  | _ => none
theorem ty_list {K : PySem.W.Frag} {H : Hp} {a : Addr} {xs : List V} (h : H a = some (.lst xs)) : tyV K "list" (.ref a) H := .inl ⟨rfl, xs, .inl (.inl h)⟩
theorem de_append {o : Expr} {apos : Pos} {fo : DF D} (ho : DE X C o fo) (he : DE X C e f) (hbase : attributeBase o "append" X.env (eval o X.env) = eval o X.env := by rfl)
    (hfew : ((backTo pos (starEach [e] X.env)).all (fun x => !x.1) && (backToKw pos (keywordEach [] X.env)).all (fun x => x.1.isSome)
      && decide (([e] : List Expr).length + ([] : List Keyword).length + (if ([] : List Keyword).isEmpty then 0 else 1) < 30)) = true := by rfl)
    (hline : (apos.endLine == pos.line) = true := by rfl) (hs : starEach [e] X.env = (false, eval e X.env) :: starEach [] X.env := by rfl) : DE X C (.Call (.Attribute o "append" apos) [e] [] pos) (dApp fo f) := by
  obtain ⟨t, a1, a2⟩ := ho
  obtain ⟨u, b1, b2⟩ := he
  refine ⟨_, pe_bm PySem.F.plainAttrs_list PySem.F.slot_list_append PySem.F.type_list_append mt_append a1 (pa_cons b1 pa_nil hs) hbase hfew hline hs rfl, fun E S d S' q Λ F π H σ w Q p => ?_⟩
  obtain ⟨⟨x, S1⟩, q1, q⟩ := Option.bind_eq_some_iff.mp q
  obtain ⟨⟨y, S2⟩, q2, q⟩ := Option.bind_eq_some_iff.mp q
  cases x with
  | ptr k =>
    simp only at q
    split at q
    · rename_i _ _ xs0 xs h0 h2
      split at q
      · rename_i hz
        cases q
        refine a2 E S _ S1 q1 Λ F π H σ w _ fun v F1 π1 H1 e1 w1 r1 => ?_
        obtain ⟨c, rfl, hp⟩ := r1
        obtain ⟨ob, o1, o2⟩ := w1.obj hp
        rw [h0] at o1
        cases o1
        obtain ⟨vs, v1, _⟩ := o2
        refine ⟨ty_list v1, b2 E S1 y S2 q2 Λ F1 π1 H1 σ (w.step e1 w1) _ fun z F2 π2 H2 e2 w2 r2 => ?_⟩
        have hp2 := pre_get e2.p hp
        obtain ⟨ob, o1, o2⟩ := w2.obj hp2
        rw [h2] at o1
        cases o1
        obtain ⟨us, u1, u2⟩ := o2
        have e3 := (e1.trans e2).trans (Ext.put (o := .lst (us ++ [z])) hp2)
        exact ⟨c, us, z, rfl, rfl, u1, by rw [u2.length]; exact hz, p .non F2 π2 _ e3 (w2.put hp2 ⟨_, upd_same, u2.append (RepA.one r2)⟩) rfl⟩
      · cases q
    · cases q
  | _ => cases q
/-- xs.extend(ys), two lists -/
def dExt (fo f : DF D) : DF D := fun E S => (fo E S).bind fun p => (f E p.2).bind fun q => match p.1 with
  | .ptr k => match p.2[k]?, q.2[k]?, lstOf q.2 q.1 with
    | some (.lst _), some (.lst xs), some ys => if xs.length + ys.length ≤ sizeLine then some (.non, q.2.set k (.lst (xs ++ ys))) else none
    | _, _, _ => none
  | _ => none
theorem de_extend {o : Expr} {apos : Pos} {fo : DF D} (ho : DE X C o fo) (he : DE X C e f) (hbase : attributeBase o "extend" X.env (eval o X.env) = eval o X.env := by rfl)
    (hfew : ((backTo pos (starEach [e] X.env)).all (fun x => !x.1) && (backToKw pos (keywordEach [] X.env)).all (fun x => x.1.isSome)
      && decide (([e] : List Expr).length + ([] : List Keyword).length + (if ([] : List Keyword).isEmpty then 0 else 1) < 30)) = true := by rfl)
    (hline : (apos.endLine == pos.line) = true := by rfl) (hs : starEach [e] X.env = (false, eval e X.env) :: starEach [] X.env := by rfl) : DE X C (.Call (.Attribute o "extend" apos) [e] [] pos) (dExt fo f) := by
  obtain ⟨t, a1, a2⟩ := ho
  obtain ⟨u, b1, b2⟩ := he
  refine ⟨_, pe_bm PySem.F.plainAttrs_list PySem.F.slot_list_extend PySem.F.type_list_extend mt_extend a1 (pa_cons b1 pa_nil hs) hbase hfew hline hs rfl, fun E S d S' q Λ F π H σ w Q p => ?_⟩
  obtain ⟨⟨x, S1⟩, q1, q⟩ := Option.bind_eq_some_iff.mp q
  obtain ⟨⟨y, S2⟩, q2, q⟩ := Option.bind_eq_some_iff.mp q
  cases x with
  | ptr k =>
    simp only at q
    split at q
    · rename_i _ _ _ xs0 xs ys h0 h2 hy
      split at q
      · rename_i hz
        cases q
        refine a2 E S _ S1 q1 Λ F π H σ w _ fun v F1 π1 H1 e1 w1 r1 => ?_
        obtain ⟨c, rfl, hp⟩ := r1
        obtain ⟨ob, o1, o2⟩ := w1.obj hp
        rw [h0] at o1
        cases o1
        obtain ⟨vs, v1, _⟩ := o2
        refine ⟨ty_list v1, b2 E S1 y S2 q2 Λ F1 π1 H1 σ (w.step e1 w1) _ fun z F2 π2 H2 e2 w2 r2 => ?_⟩
        have hp2 := pre_get e2.p hp
        obtain ⟨ob, o1, o2⟩ := w2.obj hp2
        rw [h2] at o1
        cases o1
        obtain ⟨us, u1, u2⟩ := o2
        obtain ⟨c2, zs, rfl, z1, z2⟩ := lstOf_ok w2 r2 hy
        have e3 := (e1.trans e2).trans (Ext.put (o := .lst (us ++ zs)) hp2)
        exact ⟨c, c2, us, zs, rfl, rfl, u1, z1, by rw [u2.length, z2.length]; exact hz, p .non F2 π2 _ e3 (w2.put hp2 ⟨_, upd_same, u2.append z2⟩) rfl⟩
      · cases q
    · cases q
  | _ => cases q
/-- xs.clear(), xs.reverse(), xs.pop() -/
def dLst0 (g : List D → Option (D × List D)) (fo : DF D) : DF D := fun E S => (fo E S).bind fun p => match p.1 with
  | .ptr k => match p.2[k]? with
    | some (.lst xs) => (g xs).map fun r => (r.1, p.2.set k (.lst r.2))
    | _ => none
  | _ => none
def gClear (_ : List D) : Option (D × List D) := some (.non, [])
def gRev (xs : List D) : Option (D × List D) := some (.non, xs.reverse)
def gPop (xs : List D) : Option (D × List D) := match xs.getLast? with
  | some x => some (x, xs.dropLast)
  | none => none
theorem snd_lst0 {K : PySem.W.Frag} {r : V → List V → Hp → VK → Prop} {g : List D → Option (D × List D)} {t : TE} {fo : DF D} (h : Snd K C t fo)
    (hg : ∀ (F : Hp) (π : List Addr) (xs : List D) (vs : List V) (d : D) (ys : List D), g xs = some (d, ys) → RepA K C F π xs vs → ∃ z us, Rep K C F π d z ∧ RepA K C F π ys us ∧ ∀ (l : Addr) (H : Hp) (Q : VK), H l = some (.lst vs) → Q z (upd H l (.lst us)) → r (.ref l) [] H Q) :
    Snd K C (tBM0 K "list" r t) (dLst0 g fo) := by
  intro E S d S' q Λ F π H σ w Q p
  obtain ⟨⟨x, S1⟩, q1, q⟩ := Option.bind_eq_some_iff.mp q
  cases x with
  | ptr k =>
    simp only at q
    split at q
    · rename_i xs hx
      obtain ⟨⟨d', ys⟩, q2, q⟩ := Option.map_eq_some_iff.mp q
      cases q
      refine h E S _ S1 q1 Λ F π H σ w _ fun v F1 π1 H1 e1 w1 r1 => ?_
      obtain ⟨c, rfl, hp⟩ := r1
      obtain ⟨ob, o1, o2⟩ := w1.obj hp
      rw [hx] at o1
      cases o1
      obtain ⟨vs, v1, v2⟩ := o2
      obtain ⟨z, us, g1, g2, g3⟩ := hg F1 π1 xs vs _ ys q2 v2
      refine ⟨ty_list v1, g3 c H1 Q v1 ?_⟩
      exact p z F1 π1 _ (e1.trans (Ext.put hp)) (w1.put hp ⟨us, upd_same, g2⟩) g1
    · cases q
  | _ => cases q
theorem de_clear {o : Expr} {apos : Pos} {fo : DF D} (ho : DE X C o fo) (hbase : attributeBase o "clear" X.env (eval o X.env) = eval o X.env := by rfl) (hline : (apos.endLine == pos.line) = true := by rfl) :
    DE X C (.Call (.Attribute o "clear" apos) [] [] pos) (dLst0 gClear fo) := by
  obtain ⟨t, a1, a2⟩ := ho
  refine ⟨_, pe_bm0 PySem.F.plainAttrs_list PySem.F.slot_list_clear PySem.F.type_list_clear mt_clear a1 hbase hline, snd_lst0 a2 fun F π xs vs d ys h r => ?_⟩
  cases h
  exact ⟨.non, [], rfl, rfl, fun l H Q h1 q => ⟨l, vs, rfl, rfl, h1, q⟩⟩
theorem RepA.reverse {K : PySem.W.Frag} {F : Hp} {π : List Addr} : ∀ {xs : List D} {vs : List V}, RepA K C F π xs vs → RepA K C F π xs.reverse vs.reverse
  | [], vs, r => by rw [show vs = [] from r]; exact rfl
  | x :: xs, vs, r => by
    obtain ⟨v, t, rfl, q1, q2⟩ := r
    rw [List.reverse_cons, List.reverse_cons]
    exact (RepA.reverse q2).append (RepA.one q1)
theorem de_reverse {o : Expr} {apos : Pos} {fo : DF D} (ho : DE X C o fo) (hbase : attributeBase o "reverse" X.env (eval o X.env) = eval o X.env := by rfl) (hline : (apos.endLine == pos.line) = true := by rfl) :
    DE X C (.Call (.Attribute o "reverse" apos) [] [] pos) (dLst0 gRev fo) := by
  obtain ⟨t, a1, a2⟩ := ho
  refine ⟨_, pe_bm0 PySem.F.plainAttrs_list PySem.F.slot_list_reverse PySem.F.type_list_reverse mt_reverse a1 hbase hline, snd_lst0 a2 fun F π xs vs d ys h r => ?_⟩
  cases h
  exact ⟨.non, vs.reverse, rfl, r.reverse, fun l H Q h1 q => ⟨l, vs, rfl, rfl, h1, q⟩⟩
theorem dropLast_take {α : Type} (l : List α) : l.dropLast = l.take (l.length - 1) := List.dropLast_eq_take
theorem de_pop {o : Expr} {apos : Pos} {fo : DF D} (ho : DE X C o fo) (hbase : attributeBase o "pop" X.env (eval o X.env) = eval o X.env := by rfl) (hline : (apos.endLine == pos.line) = true := by rfl) :
    DE X C (.Call (.Attribute o "pop" apos) [] [] pos) (dLst0 gPop fo) := by
  obtain ⟨t, a1, a2⟩ := ho
  refine ⟨_, pe_bm0 PySem.F.plainAttrs_list PySem.F.slot_list_pop PySem.F.type_list_pop mt_pop a1 hbase hline, snd_lst0 a2 fun F π xs vs d ys h r => ?_⟩
  unfold gPop at h
  split at h
  · rename_i x hx
    cases h
    rw [List.getLast?_eq_getElem?] at hx
    obtain ⟨z, z1, z2⟩ := r.get hx
    refine ⟨z, vs.dropLast, z2, ?_, fun l H Q h1 q => ⟨l, vs, z, rfl, rfl, h1, by rw [r.length]; exact z1, q⟩⟩
    rw [dropLast_take, dropLast_take, r.length]
    exact r.take _
  · cases h

/-! ### new dicts, setdefault, get -/
def dNewK : DF D := fun _ S => some (.ptr S.length, S ++ [.dK []])
def dNewT : DF D := fun _ S => some (.ptr S.length, S ++ [.dT []])
theorem Wd.new_at {K : PySem.W.Frag} {Λ : Lk} {F : Hp} {π : List Addr} {S : List Ob} {H : Hp} (w : Wd K C Λ F π S H) {p : Addr} : Rep K C F (π ++ [p]) (.ptr S.length) (.ref p) :=
  ⟨p, rfl, by rw [← w.len, List.getElem?_append_right (Nat.le_refl _), Nat.sub_self]; rfl⟩
theorem de_newK : DE X C (.Dict [] [] pos) dNewK := by
  refine ⟨_, pe_dnewK, fun E S d S' q Λ F π H σ w Q p => ?_⟩
  cases q
  exact fun a ha => p (.ref a) F (π ++ [a]) _ (Ext.new ha) (w.w.new ha ⟨[], upd_same, rfl⟩) w.w.new_at
theorem de_newT : DE X C (.Dict [] [] pos) dNewT := by
  refine ⟨_, pe_dnewT, fun E S d S' q Λ F π H σ w Q p => ?_⟩
  cases q
  exact fun a ha => p (.ref a) F (π ++ [a]) _ (Ext.new ha) (w.w.new ha ⟨[], upd_same, rfl⟩) w.w.new_at
/-- is a dict -/
def isDict (S : List Ob) : D → Bool
  | .dK _ => true
  | .dT _ => true
  | .ptr k => match S[k]? with
    | some (.dK _) => true
    | some (.dT _) => true
    | some (.lkK _) => true
    | some (.lkT _) => true
    | _ => false
  | _ => false
theorem isDict_ok {K : PySem.W.Frag} {Λ : Lk} {F : Hp} {π : List Addr} {S : List Ob} {H : Hp} {d : D} {v : V} (w : Wd K C Λ F π S H) (r : Rep K C F π d v) (h : isDict S d = true) : ∃ a, v = .ref a ∧ IsD H a := by
  cases d with
  | dK xs =>
    obtain ⟨a, vs, rfl, q, _⟩ := r
    exact ⟨a, rfl, .inl ⟨vs, .inl (w.ext _ _ q)⟩⟩
  | dT xs =>
    obtain ⟨a, vs, rfl, q, _⟩ := r
    exact ⟨a, rfl, .inr ⟨vs, .inl (w.ext _ _ q)⟩⟩
  | ptr k =>
    obtain ⟨a, rfl, hp⟩ := r
    obtain ⟨ob, o1, o2⟩ := w.obj hp
    simp only [isDict, o1] at h
    cases ob with
    | dK xs =>
      obtain ⟨vs, q, _⟩ := o2
      exact ⟨a, rfl, .inl ⟨vs, .inl q⟩⟩
    | dT xs =>
      obtain ⟨vs, q, _⟩ := o2
      exact ⟨a, rfl, .inr ⟨vs, .inl q⟩⟩
    | lkK xs =>
      obtain ⟨o, vs, _, q, _⟩ := o2
      exact ⟨a, rfl, .inl ⟨vs, .inr ⟨o, q⟩⟩⟩
    | lkT xs =>
      obtain ⟨o, vs, _, q, _⟩ := o2
      exact ⟨a, rfl, .inr ⟨vs, .inr ⟨o, q⟩⟩⟩
    | _ => cases h
  | _ => cases h
def dGet1 (fd fk : DF D) : DF D := fun E S => (fd E S).bind fun p => if isDict p.2 p.1 = true then (fk E p.2).bind fun q => (dictGet q.2 p.1 q.1).map fun o => (o.getD .non, q.2) else none
theorem de_get1 {o : Expr} {apos : Pos} {fo fk : DF D} (hu : X.A.units + 1 < cLine) (ho : DE X C o fo) (hk : DE X C e fk) (m : M1 X o "get" apos e pos := by exact ⟨rfl, rfl, rfl, rfl⟩) : DE X C (.Call (.Attribute o "get" apos) [e] [] pos) (dGet1 fo fk) := by
  obtain ⟨t, a1, a2⟩ := ho
  obtain ⟨u, b1, b2⟩ := hk
  refine ⟨_, pe_dget1 hu a1 b1 m, fun E S d S' q Λ F π H σ w Q p => ?_⟩
  obtain ⟨⟨x, S1⟩, q1, q⟩ := Option.bind_eq_some_iff.mp q
  simp only at q
  split at q
  · rename_i hd
    obtain ⟨⟨y, S2⟩, q2, q⟩ := Option.bind_eq_some_iff.mp q
    obtain ⟨o', q3, q⟩ := Option.map_eq_some_iff.mp q
    cases q
    refine a2 E S x S1 q1 Λ F π H σ w _ fun v F1 π1 H1 e1 w1 r1 => ?_
    obtain ⟨c, rfl, c2⟩ := isDict_ok w1 r1 hd
    refine ⟨c, rfl, c2, b2 E S1 y _ q2 Λ F1 π1 H1 σ (w.step e1 w1) _ fun z F2 π2 H2 e2 w2 r2 => ?_⟩
    obtain ⟨c', e3, t'⟩ := dictGet_ok w2 (Rep.mono e2.f e2.p _ _ r1) r2 q3
    cases e3
    cases o' with
    | none => exact ⟨none, t', (p.step (e1.trans e2)).val w2 rfl⟩
    | some y =>
      obtain ⟨z', t1, t2⟩ := t'
      exact ⟨some z', t1, (p.step (e1.trans e2)).val w2 t2⟩
  · cases q
def dGet2 (fd fk fx : DF D) : DF D := fun E S => (fd E S).bind fun p => if isDict p.2 p.1 = true then (fk E p.2).bind fun q => (fx E q.2).bind fun r => (dictGet r.2 p.1 q.1).map fun o => (o.getD r.1, r.2) else none
theorem de_get2 {o e2 : Expr} {apos : Pos} {fo fk fx : DF D} (hu : X.A.units + 1 < cLine) (ho : DE X C o fo) (hk : DE X C e fk) (hx : DE X C e2 fx) (m : M2 X o "get" apos e e2 pos := by exact ⟨rfl, rfl, rfl, rfl⟩) : DE X C (.Call (.Attribute o "get" apos) [e, e2] [] pos) (dGet2 fo fk fx) := by
  obtain ⟨t, a1, a2⟩ := ho
  obtain ⟨u, b1, b2⟩ := hk
  obtain ⟨u2, x1, x2⟩ := hx
  refine ⟨_, pe_dget2 hu a1 b1 x1 m, fun E S d S' q Λ F π H σ w Q p => ?_⟩
  obtain ⟨⟨x, S1⟩, q1, q⟩ := Option.bind_eq_some_iff.mp q
  simp only at q
  split at q
  · rename_i hd
    obtain ⟨⟨y, S2⟩, q2, q⟩ := Option.bind_eq_some_iff.mp q
    obtain ⟨⟨z0, S3⟩, q2b, q⟩ := Option.bind_eq_some_iff.mp q
    obtain ⟨o', q3, q⟩ := Option.map_eq_some_iff.mp q
    cases q
    refine a2 E S x S1 q1 Λ F π H σ w _ fun v F1 π1 H1 e1 w1 r1 => ?_
    obtain ⟨c, rfl, c2⟩ := isDict_ok w1 r1 hd
    refine ⟨c, rfl, c2, b2 E S1 y S2 q2 Λ F1 π1 H1 σ (w.step e1 w1) _ fun z F2 π2 H2 e2 w2 r2 => ?_⟩
    refine x2 E S2 z0 _ q2b Λ F2 π2 H2 σ (w.step (e1.trans e2) w2) _ fun z3 F3 π3 H3 e3 w3 r3 => ?_
    have e4 := e2.trans e3
    obtain ⟨c', e5, t'⟩ := dictGet_ok w3 (Rep.mono e4.f e4.p _ _ r1) (Rep.mono e3.f e3.p _ _ r2) q3
    cases e5
    cases o' with
    | none => exact ⟨none, t', (p.step (e1.trans e4)).val w3 r3⟩
    | some y =>
      obtain ⟨z', t1, t2⟩ := t'
      exact ⟨some z', t1, (p.step (e1.trans e4)).val w3 t2⟩
  · cases q
/-- d.setdefault(k, x), keys ints or texts -/
def dSetd (fd fk fx : DF D) : DF D := fun E S => (fd E S).bind fun p => if isDict p.2 p.1 = true then (fk E p.2).bind fun q => (fx E q.2).bind fun r => match p.1 with
  | .ptr j => match r.2[j]?, keyOf q.1 with
    | some (.dK kvs), some k => if kvs.length < sizeLine then match getD' kvs k with
        | some d => some (d, r.2)
        | none => some (r.1, r.2.set j (.dK (putD kvs k r.1)))
      else none
    | _, _ => none
  | _ => none
  else none
theorem de_setd {o e2 : Expr} {apos : Pos} {fo fk fx : DF D} (ho : DE X C o fo) (hk : DE X C e fk) (hx : DE X C e2 fx) (m : M2 X o "setdefault" apos e e2 pos := by exact ⟨rfl, rfl, rfl, rfl⟩) : DE X C (.Call (.Attribute o "setdefault" apos) [e, e2] [] pos) (dSetd fo fk fx) := by
  obtain ⟨t, a1, a2⟩ := ho
  obtain ⟨u, b1, b2⟩ := hk
  obtain ⟨u2, x1, x2⟩ := hx
  refine ⟨_, pe_dsetd a1 b1 x1 m, fun E S d S' q Λ F π H σ w Q p => ?_⟩
  obtain ⟨⟨x, S1⟩, q1, q⟩ := Option.bind_eq_some_iff.mp q
  simp only at q
  split at q
  · rename_i hd
    obtain ⟨⟨y, S2⟩, q2, q⟩ := Option.bind_eq_some_iff.mp q
    obtain ⟨⟨z0, S3⟩, q2b, q⟩ := Option.bind_eq_some_iff.mp q
    cases x with
    | ptr j =>
      simp only at q
      split at q
      · rename_i kvs k h1 h2
        split at q
        · rename_i hz
          refine a2 E S _ S1 q1 Λ F π H σ w _ fun v F1 π1 H1 e1 w1 r1 => ?_
          obtain ⟨c, rfl, c2⟩ := isDict_ok w1 r1 hd
          refine ⟨c, rfl, c2, b2 E S1 y S2 q2 Λ F1 π1 H1 σ (w.step e1 w1) _ fun z F2 π2 H2 e2 w2 r2 => ?_⟩
          refine x2 E S2 z0 S3 q2b Λ F2 π2 H2 σ (w.step (e1.trans e2) w2) _ fun z3 F3 π3 H3 e3 w3 r3 => ?_
          have e4 := e2.trans e3
          obtain ⟨c', e5, hp⟩ := Rep.mono e4.f e4.p _ _ r1
          cases e5
          obtain ⟨ob, o1, o2⟩ := w3.obj hp
          rw [h1] at o1
          cases o1
          obtain ⟨l, l1, l2⟩ := o2
          have l3 := repK_m.mp l2
          have l4 := l3.get k
          refine ⟨l, k, l1, keyOf_ok r2 h2, by rw [l3.length]; exact hz, fun v hv => ?_, fun hv => ?_⟩
          · split at q
            · rename_i d' hd'
              cases q
              rw [hd'] at l4
              obtain ⟨v', v1, v2⟩ := l4
              rw [hv] at v1
              cases v1
              exact (p.step (e1.trans e4)).val w3 v2
            · rename_i hd'
              rw [hd'] at l4
              rw [show valV l k = none from l4] at hv
              cases hv
          · split at q
            · rename_i d' hd'
              rw [hd'] at l4
              obtain ⟨v', v1, v2⟩ := l4
              rw [hv] at v1
              cases v1
            · cases q
              exact p z3 F3 π3 _ ((e1.trans e4).trans (Ext.put hp)) (w3.put hp ⟨_, upd_same, repK_m.mpr (l3.put r3 k)⟩) r3
        · cases q
      · cases q
    | _ => cases q
  · cases q
end
end DL

set_option Elab.async false
set_option linter.all false
set_option maxRecDepth 100000
set_option maxHeartbeats 2000000
/-! DL: fields, instances, properties, methods; products and quotients. -/
namespace DL
open PySem PySem.Spec PyProof.Rows L2
section
variable {X : Cx} {C : Ctx} {a b e o : Expr} {fa fb f fo : DF D} {pos : Pos}

/-! ### fields -/
def fldOf (S : List Ob) (d : D) (x : Str) : Option D := match d with
  | .obj _ fs => fs.lookup x
  | .ptr k => match S[k]? with
    | some (.ins _ fs) => fs.lookup x
    | _ => none
  | _ => none
theorem RepF.look {K : PySem.W.Frag} {F : Hp} {π : List Addr} {x : Str} {d : D} : ∀ {fs : List (Str × D)} {l : List (Str × V)}, RepF K C F π fs l → fs.lookup x = some d → ∃ v, l.lookup x = some v ∧ Rep K C F π d v
  | [], l, r, h => by simp at h
  | (y, z) :: fs, l, r, h => by
    obtain ⟨v, t, rfl, q1, q2⟩ := r
    rw [List.lookup_cons] at h ⊢
    cases hb : x == y with
    | true =>
      rw [hb] at h
      cases h
      exact ⟨v, rfl, q1⟩
    | false =>
      rw [hb] at h
      exact RepF.look q2 h
theorem fldOf_ok {K : PySem.W.Frag} {Λ : Lk} {F : Hp} {π : List Addr} {S : List Ob} {H : Hp} {d r : D} {v : V} {x : Str} (w : Wd K C Λ F π S H) (rd : Rep K C F π d v) (h : fldOf S d x = some r) :
    ∃ p c dx fs u, v = .ref p ∧ H p = some (.ins (C.cls c) dx fs) ∧ fs.lookup x = some u ∧ Rep K C F π r u := by
  cases d with
  | obj c fs =>
    obtain ⟨p, dx, l, rfl, q1, q2⟩ := rd
    obtain ⟨u, u1, u2⟩ := RepF.look q2 h
    exact ⟨p, c, dx, l, u, rfl, w.ext _ _ q1, u1, u2⟩
  | ptr k =>
    obtain ⟨p, rfl, hp⟩ := rd
    obtain ⟨ob, o1, o2⟩ := w.obj hp
    simp only [fldOf, o1] at h
    cases ob with
    | ins c fs =>
      obtain ⟨dx, l, q1, q2⟩ := o2
      obtain ⟨u, u1, u2⟩ := RepF.look q2 h
      exact ⟨p, c, dx, l, u, rfl, q1, u1, u2⟩
    | _ => cases h
  | _ => cases h
def dFld (x : Str) (f : DF D) : DF D := fun E S => (f E S).bind fun p => (fldOf p.2 p.1 x).map fun d => (d, p.2)
theorem de_fld {x : Str} (hC : ClOk X.K C) (hn : ∀ c, NoAttr X.K (C.cls c) x) (he : DE X C e f) (hb : attributeBase e x X.env (eval e X.env) = eval e X.env := by rfl) : DE X C (.Attribute e x pos) (dFld x f) := by
  obtain ⟨t, a1, a2⟩ := he
  refine ⟨_, pe_fld a1 hb, fun E S d S' q Λ F π H σ w Q p => ?_⟩
  obtain ⟨⟨y, S1⟩, q1, q⟩ := Option.bind_eq_some_iff.mp q
  obtain ⟨r, q2, q⟩ := Option.map_eq_some_iff.mp q
  cases q
  refine a2 E S y _ q1 Λ F π H σ w _ fun v F1 π1 H1 e1 w1 r1 => ?_
  obtain ⟨z, c, dx, fs, u, rfl, h1, h2, h3⟩ := fldOf_ok w1 r1 q2
  exact ⟨z, C.cls c, dx, fs, u, rfl, h1, hC.cl c, hn c, h2, (p.step e1).val w1 h3⟩
/-- o.x = e -/
def putFD (x : Str) (d : D) : List (Str × D) → List (Str × D)
  | [] => [(x, d)]
  | (y, z) :: r => if y = x then (y, d) :: r else (y, z) :: putFD x d r
theorem RepF.put {K : PySem.W.Frag} {F : Hp} {π : List Addr} {x : Str} {d : D} {v : V} (rd : Rep K C F π d v) : ∀ {fs : List (Str × D)} {l : List (Str × V)}, RepF K C F π fs l → RepF K C F π (putFD x d fs) (putF x v l)
  | [], l, r => by
    rw [show l = [] from r]
    exact ⟨v, [], rfl, rd, rfl⟩
  | (y, z) :: fs, l, r => by
    obtain ⟨u, t, rfl, q1, q2⟩ := r
    unfold putFD putF
    split
    · exact ⟨v, t, rfl, rd, q2⟩
    · exact ⟨u, _, rfl, q1, RepF.put rd q2⟩
theorem RepF.length {K : PySem.W.Frag} {F : Hp} {π : List Addr} : ∀ {fs : List (Str × D)} {l : List (Str × V)}, RepF K C F π fs l → l.length = fs.length
  | [], l, r => by rw [show l = [] from r]; rfl
  | (y, z) :: fs, l, r => by
    obtain ⟨u, t, rfl, q1, q2⟩ := r
    rw [List.length_cons, List.length_cons, RepF.length q2]
def sFldD (x : Str) (fo fv : DF D) : DFS := fun E S => (fv E S).bind fun v => (fo E v.2).bind fun p => match p.1 with
  | .ptr k => match p.2[k]? with
    | some (.ins c fs) => if fs.length < 1000 then some (.nx E, p.2.set k (.ins c (putFD x v.1 fs))) else none
    | _ => none
  | _ => none
theorem ds_fld {x : Str} {pos' : Pos} {value : Expr} {fv : DF D} (hC : ClOk X.K C) (hn : ∀ c, NoAttr X.K (C.cls c) x) (ho : DE X C o fo) (hv : DE X C value fv) (hs : swapsWith value (some (.Attribute o x pos')) pos.line X.env = pure false := by rfl) : DSt X C (.Assign [.Attribute o x pos'] value pos) (sFldD x fo fv) := by
  obtain ⟨t, a1, a2⟩ := ho
  obtain ⟨tv, c1, c2⟩ := hv
  refine ⟨_, ps_fld a1 c1 hs, fun E S o S' q Λ F π H σ w Dn p => ?_⟩
  obtain ⟨⟨y, S1⟩, q1, q⟩ := Option.bind_eq_some_iff.mp q
  obtain ⟨⟨z, S2⟩, q2, q⟩ := Option.bind_eq_some_iff.mp q
  cases z with
  | ptr k =>
    simp only at q
    split at q
    · rename_i c fs hk
      split at q
      · rename_i hz
        cases q
        refine c2 E S y S1 q1 Λ F π H σ w _ fun v F1 π1 H1 e1 w1 r1 => ?_
        refine a2 E S1 _ S2 q2 Λ F1 π1 H1 σ (w.step e1 w1) _ fun u F2 π2 H2 e2 w2 r2 => ?_
        obtain ⟨q, rfl, hp⟩ := r2
        obtain ⟨ob, o1, o2⟩ := w2.obj hp
        rw [hk] at o1
        cases o1
        obtain ⟨dx, l, l1, l2⟩ := o2
        have e3 := e1.trans e2
        exact ⟨q, C.cls c, dx, l, rfl, l1, hC.cl c, hn c, by rw [l2.length]; exact hz, p σ F2 π2 _ (e3.trans (Ext.put hp)) (w2.put hp ⟨dx, _, upd_same, RepF.put (Rep.mono e2.f e2.p _ _ r1) l2⟩) (w.r.mono e3.f e3.p)⟩
      · cases q
    · cases q
  | _ => cases q
/-- o.x += e -/
def sFldAugD (x : Str) (g : List Ob → D → D → Option D) (fo fv : DF D) : DFS := fun E S => (fo E S).bind fun p => match p.1 with
  | .ptr k => match fldOf p.2 p.1 x with
    | some y => (fv E p.2).bind fun v => (g v.2 y v.1).bind fun z => match v.2[k]? with
      | some (.ins c fs) => if fs.length < 1000 then some (.nx E, v.2.set k (.ins c (putFD x z fs))) else none
      | _ => none
    | none => none
  | _ => none
end

/-! ### a class's instances are made -/
section
variable {X : Cx} {C : Ctx} {e : Expr} {es : List Expr} {fs : DF (List D)} {pos : Pos}
/-- C(..): a new instance, then __init__ -/
def dMake (c n : Nat) (sem : List D → List Ob → Option (D × List Ob)) (fs : DF (List D)) : DF D := fun E S => (fs E S).bind fun p => if p.1.length + 1 = n then (sem (.ptr p.2.length :: p.1) (p.2 ++ [.ins c []])).bind fun q => match q.1 with
  | .non => some (.ptr p.2.length, q.2)
  | _ => none
  else none
/-- a class of the module by its name, with its __init__ -/
structure ClsFn (P : Program) (w : World) (K : PySem.W.Frag) (mg : Str → Option Value) (base : Heap) (C : Ctx) (k : Nat) (x : Str) (c n : Nat) (sem : List D → List Ob → Option (D × List Ob)) : Prop where
  ex : ∃ f fd ps, Mk K (C.cls c) f ∧ FnOk P w K mg base CX0 k f fd ps (spD K C n sem) ∧ mg x = some (.ref (C.cls c)) ∧ Binds K fd ps []
theorem de_make {x : Str} {c k n : Nat} {p1 : Pos} {sem : List D → List Ob → Option (D × List Ob)} (hF : ClsFn X.prog X.w X.K X.mg X.base C k x c n sem) (hr : Room (k + 1) X.A) (ha : DA X C (e :: es) fs) (hx : Passes CX0 X E0 := by exact pass0) (hg : Gl X x := by rfl) (hdb : (x == ("__debug__" : Str)) = false := by decide) (he : starEach (e :: es) X.env = (false, eval e X.env) :: starEach es X.env := by rfl)
    (hpl : (backTo pos (starEach es X.env)).any (·.1) = false := by rfl) : DE X C (.Call (.Name x p1) (e :: es) [] pos) (dMake c n sem fs) := by
  obtain ⟨f, fd, ps, h0, h1, h2, h3⟩ := hF.ex
  obtain ⟨t, a1, a2⟩ := ha
  refine ⟨_, pe_make h0 h1 hr hg h2 h3 .nil hx a1 hdb he hpl, fun E S d S' q Λ F π H σ w Q p => ?_⟩
  obtain ⟨⟨ds, S1⟩, q1, q⟩ := Option.bind_eq_some_iff.mp q
  simp only at q
  split at q
  · rename_i hl
    obtain ⟨⟨r, S2⟩, q2, q⟩ := Option.bind_eq_some_iff.mp q
    cases r with
    | non =>
      cases q
      refine a2 E S ds S1 q1 Λ F π H σ w _ fun vs F1 π1 H1 e1 w1 r1 => ?_
      intro y dx hy hdx hne
      have hy2 : upd H1 dx (.own y) y = none := by rw [upd_ne (fun z => hne z.symm)]; exact hy
      have wj : Wd X.K C Λ F1 π1 S1 (upd H1 dx (.own y)) := w1.junk (same_new hdx)
      have w2 := wj.new (ob := .ins c []) hy2 ⟨dx, [], upd_same, rfl⟩
      have e2 : Ext F1 π1 H1 F1 (π1 ++ [y]) (upd (upd H1 dx (.own y)) y (.ins (C.cls c) dx [])) := (Ext.junk (same_new hdx)).trans (Ext.new hy2)
      refine ⟨Λ, F1, π1 ++ [y], _, .ptr S1.length :: ds, .non, _, by rw [List.length_cons]; exact hl, w2, ⟨.ref y, vs, by rw [List.append_nil], wj.new_at, RepA.mono e2.f e2.p _ _ r1⟩, q2, fun v F3 π3 H3 e3 w3 r3 => ⟨r3, ?_⟩⟩
      exact p (.ref y) F3 π3 H3 ((e1.trans e2).trans e3) w3 (Rep.mono (F := F1) e3.f e3.p _ _ (wj.new_at (K := X.K) (C := C) (F := F1)))
    | _ => cases q
  · cases q

/-! ### properties, methods -/
def dProp (c : Nat) (sem : List D → List Ob → Option (D × List Ob)) (f : DF D) : DF D := fun E S => (f E S).bind fun p => match tgOf p.2 p.1 with
  | some (.o c') => if c' = c then sem [p.1] p.2 else none
  | _ => none
structure PropFn (P : Program) (w : World) (K : PySem.W.Frag) (mg : Str → Option Value) (base : Heap) (C : Ctx) (k : Nat) (x : Str) (c : Nat) (sem : List D → List Ob → Option (D × List Ob)) : Prop where
  ex : ∃ p g fd ps, PropOf K (C.cls c) x p g ∧ FnOk P w K mg base CX0 k g fd ps (spD K C 1 sem) ∧ Binds K fd ps []
theorem tg_ins {K : PySem.W.Frag} {Λ : Lk} {F : Hp} {π : List Addr} {S : List Ob} {H : Hp} {d : D} {v : V} {c : Nat} (w : Wd K C Λ F π S H) (r : Rep K C F π d v) (h : tgOf S d = some (.o c)) : ∃ p dx fs ds, v = .ref p ∧ H p = some (.ins (C.cls c) dx fs) ∧ RepF K C F π ds fs ∧ (d = .obj c ds ∨ ∃ k, d = .ptr k ∧ S[k]? = some (.ins c ds)) := by
  cases d with
  | obj c' fs =>
    cases h
    obtain ⟨p, dx, l, rfl, q1, q2⟩ := r
    exact ⟨p, dx, l, fs, rfl, w.ext _ _ q1, q2, .inl rfl⟩
  | ptr k =>
    obtain ⟨p, rfl, hp⟩ := r
    obtain ⟨ob, o1, o2⟩ := w.obj hp
    simp only [tgOf, o1] at h
    cases ob with
    | ins c' fs =>
      cases h
      obtain ⟨dx, l, q1, q2⟩ := o2
      exact ⟨p, dx, l, fs, rfl, q1, q2, .inr ⟨k, rfl, o1⟩⟩
    | _ => cases h
  | _ => cases h
theorem de_prop {x : Str} {c k : Nat} {f : DF D} {sem : List D → List Ob → Option (D × List Ob)} (hC : ClOk X.K C) (hP : PropFn X.prog X.w X.K X.mg X.base C k x c sem) (hr : Room (k + 1) X.A) (he : DE X C e f) (hx : Passes CX0 X.nox E0 := by exact pass0) (hab : attributeBase e x X.env (eval e X.env) = eval e X.env := by rfl) : DE X C (.Attribute e x pos) (dProp c sem f) := by
  obtain ⟨pa, g, fd, ps, h1, h2, h3⟩ := hP.ex
  obtain ⟨t, a1, a2⟩ := he
  refine ⟨_, pe_prop a1 (hC.cl c) h1 h2 hr h3 .nil hx hab, fun E S d S' q Λ F π H σ w Q p => ?_⟩
  obtain ⟨⟨y, S1⟩, q1, q5⟩ := Option.bind_eq_some_iff.mp q
  simp only at q5
  split at q5
  · rename_i c' hc
    split at q5
    · rename_i e0
      refine a2 E S y S1 q1 Λ F π H σ w _ fun v F1 π1 H1 e1 w1 r1 => ?_
      obtain ⟨z, dx, fs, ds, rfl, h5, _⟩ := tg_ins w1 r1 hc
      rw [e0] at h5
      exact ⟨z, dx, fs, rfl, h5, Λ, F1, π1, S1, [y], d, S', rfl, w1, RepA.one r1, q5, p.step e1⟩
    · cases q5
  · cases q5
/-- o.m(e, ..) -/
def dMeth (c n : Nat) (m : Str) (sem : List D → List Ob → Option (D × List Ob)) (f : DF D) (fs : DF (List D)) : DF D := fun E S => (f E S).bind fun p => match tgOf p.2 p.1 with
  | some (.o c') => if c' = c ∧ fldOf p.2 p.1 m = none then (fs E p.2).bind fun q => if q.1.length + 1 = n then sem (p.1 :: q.1) q.2 else none else none
  | _ => none
structure MethFn (P : Program) (w : World) (K : PySem.W.Frag) (mg : Str → Option Value) (base : Heap) (C : Ctx) (k : Nat) (m : Str) (c n : Nat) (sem : List D → List Ob → Option (D × List Ob)) : Prop where
  ex : ∃ f fd ps, Meth K (C.cls c) m f ∧ FnOk P w K mg base CX0 k f fd ps (spD K C n sem) ∧ Binds K fd ps []
theorem RepF.miss {K : PySem.W.Frag} {F : Hp} {π : List Addr} {x : Str} : ∀ {fs : List (Str × D)} {l : List (Str × V)}, RepF K C F π fs l → fs.lookup x = none → l.lookup x = none
  | [], l, r, h => by rw [show l = [] from r]; rfl
  | (y, z) :: fs, l, r, h => by
    obtain ⟨v, t, rfl, q1, q2⟩ := r
    rw [List.lookup_cons] at h ⊢
    cases hb : x == y with
    | true =>
      rw [hb] at h
      cases h
    | false =>
      rw [hb] at h
      exact RepF.miss q2 h
theorem de_meth {o : Expr} {m : Str} {apos : Pos} {c k n : Nat} {fo : DF D} {pl : Sem Bool} {sem : List D → List Ob → Option (D × List Ob)} (hC : ClOk X.K C) (hM : MethFn X.prog X.w X.K X.mg X.base C k m c n sem) (hr : Room k X.A) (ho : DE X C o fo) (ha : DA X C (e :: es) fs) (hx : Passes CX0 X E0 := by exact pass0)
    (hst : starEach (e :: es) X.env = (false, eval e X.env) :: starEach es X.env := by rfl) (hpl : (backTo pos (starEach es X.env)).any (·.1) = false := by rfl)
    (ht : eval (.Call (.Attribute o m apos) (e :: es) [] pos) X.env = (do
      let ov ← eval o X.env
      standAt apos.atName
      let (f, first) ← holding [ov] (getMethod ov m pl)
      callWith pos f first (backTo pos (starEach (e :: es) X.env)) (backToKw pos (keywordEach [] X.env))) := by rfl) : DE X C (.Call (.Attribute o m apos) (e :: es) [] pos) (dMeth c n m sem fo fs) := by
  obtain ⟨f, fd, ps, h1, h2, h3⟩ := hM.ex
  obtain ⟨t, a1, a2⟩ := ho
  obtain ⟨ta, b1, b2⟩ := ha
  refine ⟨_, pe_meth a1 (hC.cl c) h1 h2 hr h3 .nil hx b1 hst hpl ht, fun E S d S' q Λ F π H σ w Q p => ?_⟩
  obtain ⟨⟨y, S1⟩, q1, q5⟩ := Option.bind_eq_some_iff.mp q
  simp only at q5
  split at q5
  · rename_i c' hc
    split at q5
    · rename_i e0
      obtain ⟨ec, e0⟩ := e0
      obtain ⟨⟨ds, S2⟩, q2, q6⟩ := Option.bind_eq_some_iff.mp q5
      simp only at q6
      split at q6
      · rename_i hl
        refine a2 E S y S1 q1 Λ F π H σ w _ fun v F1 π1 H1 e1 w1 r1 => ?_
        obtain ⟨z, dx, fl, gs, rfl, h5, h6, h7⟩ := tg_ins w1 r1 hc
        rw [ec] at h5
        have h8 : gs.lookup m = none := by
          rcases h7 with rfl | ⟨k, rfl, hk⟩
          · exact e0
          · simpa only [fldOf, hk] using e0
        refine ⟨z, dx, fl, rfl, h5, h6.miss h8, b2 E S1 ds S2 q2 Λ F1 π1 H1 σ (w.step e1 w1) _ fun us F2 π2 H2 e2 w2 r2 => ?_⟩
        exact ⟨Λ, F2, π2, S2, y :: ds, d, S', by rw [List.length_cons]; exact hl, w2, ⟨_, us, by rw [List.append_nil], Rep.mono e2.f e2.p _ _ r1, r2⟩, q6, p.step (e1.trans e2)⟩
      · cases q6
    · cases q5
  · cases q5
end

/-! ### products, quotients, powers -/
section
variable {X : Cx} {C : Ctx} {a b e : Expr} {fa fb f : DF D} {pos : Pos}
def opMul (S : List Ob) : D → D → Option D
  | .int i, .int j => if (-(2 ^ 64) < i ∧ i < 2 ^ 64) ∨ (-(2 ^ 64) < j ∧ j < 2 ^ 64) then some (.int (i * j)) else none
  | x, .int k => match lstOf S x with
    | some xs => if -(2 ^ 63) ≤ k ∧ k < 2 ^ 63 ∧ xs.length * k.toNat ≤ sizeLine then some (.lst (List.replicate k.toNat xs).flatten) else none
    | none => none
  | _, _ => none
theorem RepA.rep {K : PySem.W.Frag} {F : Hp} {π : List Addr} {xs : List D} {vs : List V} (r : RepA K C F π xs vs) : ∀ n : Nat, RepA K C F π (List.replicate n xs).flatten (List.replicate n vs).flatten
  | 0 => rfl
  | n + 1 => by
    rw [List.replicate_succ, List.replicate_succ, List.flatten_cons, List.flatten_cons]
    exact r.append (RepA.rep r n)
theorem o2_mul {K : PySem.W.Frag} : Op2 K C (fun x y H Q => rI CMul (fun i j => .int (i * j)) x y H Q ∨ rRep x y H Q) opMul := by
  intro Λ F π S H dx dy x y d h w rx ry Q p
  unfold opMul at h
  split at h
  · split at h
    · rename_i hz
      cases h
      exact .inl ⟨_, _, rx, ry, hz, p.val w rfl⟩
    · cases h
  · split at h
    · rename_i xs hx
      split at h
      · rename_i hz
        cases h
        obtain ⟨l, vs, rfl, l2, l3⟩ := lstOf_ok w rx hx
        exact .inr ⟨l, _, vs, rfl, ry, l2, hz.1, hz.2.1, by rw [l3.length]; exact hz.2.2, fun z hz' => (Post.tree p).at w hz' (l3.rep _)⟩
      · cases h
    · cases h
  · cases h
theorem de_mul (ha : DE X C a fa) (hb : DE X C b fb) : DE X C (.BinOp a .Mult b pos) (dBin opMul fa fb) := de_op (op_mul.or op_rep) o2_mul ha hb
/-- xs * k, a new list -/
def dRepN (fa fb : DF D) : DF (List D) := fun E S => (fa E S).bind fun p => (fb E p.2).bind fun q => match lstOf q.2 p.1, q.1 with
  | some xs, .int k => if -(2 ^ 63) ≤ k ∧ k < 2 ^ 63 ∧ xs.length * k.toNat ≤ sizeLine then some ((List.replicate k.toNat xs).flatten, q.2) else none
  | _, _ => none
theorem dn_rep (ha : DE X C a fa) (hb : DE X C b fb) : DN X C (.BinOp a .Mult b pos) (dRepN fa fb) := by
  obtain ⟨ta, a1, a2⟩ := ha
  obtain ⟨tb, b1, b2⟩ := hb
  refine ⟨_, pe_op op_rep a1 b1, fun E S d S' q Λ F π H σ w Q p => ?_⟩
  obtain ⟨⟨x, S1⟩, q1, q⟩ := Option.bind_eq_some_iff.mp q
  obtain ⟨⟨y, S2⟩, q2, q⟩ := Option.bind_eq_some_iff.mp q
  simp only at q
  split at q
  · rename_i xs k hx
    split at q
    · rename_i hz
      cases q
      refine a2 E S x S1 q1 Λ F π H σ w _ fun v F1 π1 H1 e1 w1 r1 => ?_
      refine b2 E S1 _ _ q2 Λ F1 π1 H1 σ (w.step e1 w1) _ fun u F2 π2 H2 e2 w2 r2 => ?_
      obtain ⟨l, vs, rfl, l2, l3⟩ := lstOf_ok w2 (Rep.mono e2.f e2.p _ _ r1) hx
      exact ⟨l, _, vs, rfl, r2, l2, hz.1, hz.2.1, by rw [l3.length]; exact hz.2.2, fun z hz' => (p.step (e1.trans e2)).at w2 hz' (l3.rep _)⟩
    · cases q
  · cases q
/-- xs + ys, a new list -/
def dCatN (fa fb : DF D) : DF (List D) := fun E S => (fa E S).bind fun p => (fb E p.2).bind fun q => match lstOf q.2 p.1, lstOf q.2 q.1 with
  | some xs, some ys => if xs.length + ys.length ≤ sizeLine then some (xs ++ ys, q.2) else none
  | _, _ => none
theorem dn_cat (ha : DE X C a fa) (hb : DE X C b fb) : DN X C (.BinOp a .Add b pos) (dCatN fa fb) := by
  obtain ⟨ta, a1, a2⟩ := ha
  obtain ⟨tb, b1, b2⟩ := hb
  refine ⟨_, pe_op op_cat a1 b1, fun E S d S' q Λ F π H σ w Q p => ?_⟩
  obtain ⟨⟨x, S1⟩, q1, q⟩ := Option.bind_eq_some_iff.mp q
  obtain ⟨⟨y, S2⟩, q2, q⟩ := Option.bind_eq_some_iff.mp q
  simp only at q
  split at q
  · rename_i xs ys hx hy
    split at q
    · rename_i hz
      cases q
      refine a2 E S x S1 q1 Λ F π H σ w _ fun v F1 π1 H1 e1 w1 r1 => ?_
      refine b2 E S1 _ _ q2 Λ F1 π1 H1 σ (w.step e1 w1) _ fun u F2 π2 H2 e2 w2 r2 => ?_
      obtain ⟨l, vs, rfl, l2, l3⟩ := lstOf_ok w2 (Rep.mono e2.f e2.p _ _ r1) hx
      obtain ⟨m, us, rfl, m2, m3⟩ := lstOf_ok w2 r2 hy
      exact ⟨l, m, vs, us, rfl, rfl, l2, m2, by rw [l3.length, m3.length]; exact hz, fun z hz' => (p.step (e1.trans e2)).at w2 hz' (l3.append m3)⟩
    · cases q
  · cases q
def opDiv (_ : List Ob) : D → D → Option D
  | .int i, .int j => if 0 < j ∧ j < 1073741824 then some (.int (i / j)) else none
  | _, _ => none
theorem o2_div {K : PySem.W.Frag} : Op2 K C (rI CDiv fun i j => .int (i / j)) opDiv := by
  intro Λ F π S H dx dy x y d h w rx ry Q p
  unfold opDiv at h
  split at h
  · split at h
    · rename_i hz
      cases h
      exact ⟨_, _, rx, ry, hz, p.val w rfl⟩
    · cases h
  · cases h
theorem de_div (ha : DE X C a fa) (hb : DE X C b fb) : DE X C (.BinOp a .FloorDiv b pos) (dBin opDiv fa fb) := de_op op_fdiv o2_div ha hb
def opPow (_ : List Ob) : D → D → Option D
  | .int i, .int j => if 0 ≤ j ∧ (Builtin.Int.intBits i : Int) * j ≤ 2 ^ 27 then some (.int (i ^ j.toNat)) else none
  | _, _ => none
def CPowB (i j : Int) : Prop := 0 ≤ j ∧ (Builtin.Int.intBits i : Int) * j ≤ 2 ^ 27
theorem op_powB {X : Cx} : OpR X (binaryOp .Pow) (rI CPowB fun i j => .int (i ^ j.toNat)) := opI fun _ _ _ _ _ _ _ hc q => PyProof.Rows.pow_int hc.1 hc.2 q
theorem o2_pow {K : PySem.W.Frag} : Op2 K C (rI CPowB fun i j => .int (i ^ j.toNat)) opPow := by
  intro Λ F π S H dx dy x y d h w rx ry Q p
  unfold opPow at h
  split at h
  · split at h
    · rename_i hz
      cases h
      exact ⟨_, _, rx, ry, hz, p.val w rfl⟩
    · cases h
  · cases h
theorem de_pow (ha : DE X C a fa) (hb : DE X C b fb) : DE X C (.BinOp a .Pow b pos) (dBin opPow fa fb) := de_op op_powB o2_pow ha hb
def dNeg (f : DF D) : DF D := fun E S => (f E S).bind fun p => match p.1 with
  | .int i => some (.int (-i), p.2)
  | _ => none
theorem de_neg (ha : DE X C a fa) : DE X C (.UnaryOp .USub a pos) (dNeg fa) := by
  obtain ⟨ta, a1, a2⟩ := ha
  refine ⟨_, pe_un un_neg a1, fun E S d S' q Λ F π H σ w Q p => ?_⟩
  obtain ⟨⟨x, S1⟩, q1, q⟩ := Option.bind_eq_some_iff.mp q
  cases x with
  | int i =>
    cases q
    refine a2 E S _ _ q1 Λ F π H σ w _ fun v F1 π1 H1 e1 w1 r1 => ?_
    exact ⟨i, r1, (p.step e1).val w1 rfl⟩
  | _ => cases q
end
end DL

set_option Elab.async false
set_option linter.all false
set_option maxRecDepth 100000
set_option maxHeartbeats 2000000
/-! DL: == and != by an own __eq__. -/
namespace DL
open PySem PySem.Spec PyProof.Rows L2

section
variable {prog : Program} {w : World} {M : Model} {A : Around} {E : Value → Shared → Prop} {s : Shared} {K : PySem.W.Frag} {x Cl : Addr} {ox : Obj} {od : Option Obj} {nm : Str} {id : String} {args : List Value}
theorem bound_builtin {Q : Option Value → Shared → Prop} (kin : K.In s.heap) (ins : PySem.W.InstAt s.heap x ox Cl od) (found : PySem.W.findIn K (.ref Cl) nm = some (some (.builtin id))) (bnd : ∀ self, bindSpecial (.builtin id) self = pure (.builtin id, [self]))
    (run : wpAny M A (call (.builtin id) (.ref x :: args)) (fun v => Q (some v)) E s) : wpAny M A (callSpecialIfBound? (.ref x) nm args) Q E s := by
  unfold callSpecialIfBound? bindSpecialIfBound?
  refine wpAny_holding (wpAny_bind (wpAny_bind (wpAny_bind (ins.type.here ((PySem.W.looks_findIn kin found).here ?_)))))
  simp only [bnd]
  refine wpAny_bind (wpAny_askSetting (wpAny_ite ?_))
  have last : wpAny M A (call (.builtin id) ([.ref x] ++ args) >>= fun v => pure (some v)) Q E s := wpAny_bind (wpAny_mono run (fun v s1 h1 => wpAny_pure h1) fun _ _ h1 => h1)
  split
  · exact wpAny_bind (wpAny_pure (wpAny_pure last))
  · exact wpAny_tryCatch (wpAny_bind (wpAny_pure (wpAny_pure last)))
theorem bind_ne (self : Value) : bindSpecial (.builtin "object.__ne__") self = pure (.builtin "object.__ne__", [self]) := F.cmp_object.ne.bind self
/-- what != of a class with an own == wants of the text -/
structure NeOk (K : PySem.W.Frag) (Cl : Addr) : Prop where
  cls : ∃ (nm q : Str) (N : Addr) (bs bm : List Value) (hdct : Bool) (sn : List Str) (sub : List Value) (ab : Bool) (col : Option Bool) (dd : Option Addr) (k0 k1 k2 k3 k5 : Option Value) (newId : String),
    K.lookup Cl = some (excClassObj nm q Cl N bs bm hdct sn sub ab col dd k0 k1 k2 k3 k5 newId) ∧ bm.contains (.type "object") = true
  ne : PySem.W.findIn K (.ref Cl) "__ne__" = some (some (.builtin "object.__ne__"))
theorem rich_ne {f L : Addr} {h0 : Heap} {m : Str → Option Value} {b tb : Value} {Q : Value → Shared → Prop} (no : NeOk K Cl) (hu : A.units + 1 < cLine) (fr : Fr h0 L s.heap m) (kin : K.In s.heap) (ins : PySem.W.InstAt s.heap x ox Cl od) (hb : PySem.W.Looks (model prog w) s.heap (typeOf b) tb) (hn : PySem.W.notFirst K Cl tb = true)
    (heq : PySem.W.findIn K (.ref Cl) "__eq__" = some (some (.ref f))) (hf : PySem.W.isFn K (.ref f) = true)
    (run : wpAny (model prog w) A.in1 (call (.ref f) [.ref x, b]) (fun v s1 => ∃ c, v = .bool c ∧ Q (.bool (!c)) s1) E s) : wpAny (model prog w) A (richCompare .NotEq (.ref x) b) Q E s := by
  obtain ⟨nm, q, N, bs, bm, hdct, sn, sub, ab, col, dd, k0, k1, k2, k3, k5, newId, lk, hob⟩ := no.cls
  obtain ⟨hp, g, dr, tk, os⟩ := s
  have hx : hp.get? x = some ox := ins.at_
  have entry : wpAny (model prog w) A.in1 (Builtin.«object.__ne__» ⟨[.ref x, b], []⟩) (fun fin s1 => ∃ v, fin = .done (.ret v) ∧ ∃ c, v = .bool c ∧ Q v s1) E ⟨hp, g, dr, tk, os⟩ := by
    have inner : wpAny (model prog w) A.in1 (callSpecialIfBound? (.ref x) (Str.ofString "__eq__") [b]) (fun r s1 => ∃ c, r = some (.bool c) ∧ Q (.bool (!c)) s1) E ⟨hp, g, dr, tk, os⟩ :=
      PySem.W.ifBound_K kin ins heq hf (wpAny_mono run (fun v s1 ⟨c, e, q1⟩ => ⟨c, by rw [e], q1⟩) fun _ _ z => z)
    unfold Builtin.«object.__ne__»
    have room : A.in1.units < cLine := hu
    repeat (first
      | with_reducible refine wpAny_cRoomFor room ?_
      | (refine wpAny_bind (m := callSpecialIfBound? (.ref x) (Str.ofString "__eq__") [b]) (wpAny_mono inner (fun r s1 z => by
          obtain ⟨c, e, q1⟩ := z
          subst e
          refine wpAny_bind (m := truthy (.bool c)) (wpAny_truthy_bool ?_)
          repeat (first | exact ⟨_, rfl, _, rfl, q1⟩ | wp_step)) fun _ _ z => z))
      | wp_step)
  have one : wpAny (model prog w) A (tryCompare (.ref x) "__ne__" b) (fun r s1 => ∃ v, r = some v ∧ Q v s1) E ⟨hp, g, dr, tk, os⟩ := by
    unfold tryCompare
    refine wpAny_bind (bound_builtin kin ins no.ne bind_ne (wpAny_call (codeAny_call_builtin F.cmp_object.ne.plain F.cmpEntry_ne (wpAny_check_slot_inst F.cmpKind_ne F.cmpSplit_ne (F.cmpArgs_ne _ _) hob hx ins.cls (kin _ _ lk) (wpAny_mono entry (fun fin s1 z => ?_) fun _ _ z => z)))))
    obtain ⟨v, e, c, e2, q1⟩ := z
    subst e e2
    exact wpAny_pure ⟨_, rfl, q1⟩
  unfold richCompare
  simp only [oneThing_ref]
  refine wpAny_holding (wpAny_bind (wpAny_cRoomFor (Nat.lt_of_succ_lt hu) ?_))
  refine wpAny_bind (ins.type.here (wpAny_bind (hb.here ?_)))
  have fin : wpAny (model prog w) A (tryCompare (.ref x) "__ne__" b) (fun r s1 => ∃ v, r = some v ∧ Q v s1) E ⟨hp, g, dr, tk, os⟩ := one
  split
  · rename_i z
    have sub : PySem.W.subIn K tb (.ref Cl) = some false := by
      rcases Bool.or_eq_true_iff.mp hn with y | y
      · rw [beq_iff_eq.mp y] at z
        simp at z
      · exact beq_iff_eq.mp y
    refine wpAny_bind ((PySem.W.looks_subIn kin sub).here ?_)
    simp only [Bool.false_eq_true, if_false]
    refine wpAny_bind (wpAny_mono fin (fun r s1 z => ?_) fun _ _ z => z)
    obtain ⟨v, e, q1⟩ := z
    subst e
    exact wpAny_pure q1
  · refine wpAny_bind (wpAny_pure ?_)
    simp only [Bool.false_eq_true, if_false]
    refine wpAny_bind (wpAny_mono fin (fun r s1 z => ?_) fun _ _ z => z)
    obtain ⟨v, e, q1⟩ := z
    subst e
    exact wpAny_pure q1
end

/-! ### an own __eq__ -/
section
variable {X : Cx} {C : Ctx}
/-- a def run within something that the body calls -/
theorem run_within {CX : CXT} {E : XK} {k : Nat} {f : Addr} {fd : FuncData} {ps : List Str} {sp : Sp} {pins : List (Addr × Obj)} {σ : L2.St} {H : Hp} {s : Shared} {Q : VK} {us : List Value} {vs : List V} {A : Around} (Fk : FnOk X.prog X.w X.K X.mg X.base CX k f fd ps sp) (hr : Room k A) (hA : A.frames = X.A.frames) (hb : Binds X.K fd ps []) (hx : Passes CX X E)
    (I : Inv X pins σ H s) (r : Vals vs us) (h : sp vs H Q E) : wpAny (model X.prog X.w) A (call (.ref f) us) (EP X pins σ Q) X.xe s := by
  have e0 : Env0 X.prog X.w X.K X.mg X.base A X.stack s H := by
    have e := I.env0
    exact ⟨hA.trans e.frames, e.mod, e.bs, e.bsz, e.funs, e.frf, e.hok, e.bare⟩
  have hl : (us ++ []).length = ps.length := by
    rw [List.append_nil, ← r.length]
    exact Fk.len _ _ _ _ h
  have bd := hb s us I.kIn hl
  rw [List.append_nil] at bd
  refine wpAny_call (codeAny_mono (Fk.run A X.stack s H ⟨us, []⟩ us vs Q E hr e0 bd r h) fun r s1 q => ?_)
  cases r with
  | error e => exact hx pins σ H s e s1 I q
  | ok fl =>
    cases fl with
    | ret u => exact I.after q
    | next => exact q.elim
    | brk => exact q.elim
    | cont => exact q.elim
structure EqFn (P : Program) (w : World) (K : PySem.W.Frag) (mg : Str → Option Value) (base : Heap) (C : Ctx) (k c : Nat) (sem : List D → List Ob → Option (D × List Ob)) : Prop where
  ex : ∃ f fd ps, FnOk P w K mg base CX0 k f fd ps (spD K C 2 sem) ∧ PySem.W.findIn K (.ref (C.cls c)) "__eq__" = some (some (.ref f)) ∧ PySem.W.isFn K (.ref f) = true ∧ Binds K fd ps []
  no : NeOk K (C.cls c)
  nf : ∀ t : Tg, (match t with
    | .b m => m ∈ ["NoneType", "bool", "int", "str", "list", "tuple", "dict"]
    | .o d => d < nCls) → PySem.W.notFirst K (C.cls c) (tgV C t) = true
def rOwn (K : PySem.W.Frag) (C : Ctx) (c : Nat) (sem : List D → List Ob → Option (D × List Ob)) (neg : Bool) : R2 := fun x y H Q => ∃ a dx fs ty, x = .ref a ∧ H a = some (.ins (C.cls c) dx fs) ∧ TyX K H y ty ∧ PySem.W.notFirst K (C.cls c) ty = true ∧ spD K C 2 sem [x, y] H (fun v H1 => ∃ b, v = .bl b ∧ Q (.bl (if neg then !b else b)) H1) E0
theorem or_own {k c : Nat} {sem : List D → List Ob → Option (D × List Ob)} (hE : EqFn X.prog X.w X.K X.mg X.base C k c sem) (hr : Room k X.A) (hx : Passes CX0 X E0) : OpR X (compareOp .Eq) (rOwn X.K C c sem false) := by
  intro pins s σ H x y v u Q I rx ry h
  obtain ⟨a, dx, fs, ty, rfl, ha, hty, hnf, hsp⟩ := h
  cases rx
  obtain ⟨f, fd, ps, h1, h2, h3, h4⟩ := hE.ex
  obtain ⟨mA, J, _⟩ := ins_get I.hok ha
  obtain ⟨od, J, _⟩ := J.look
  obtain ⟨m, hF⟩ := I.fr
  obtain ⟨Pk, Z, z, _⟩ := kit_of I ry hty
  show wpAny (model X.prog X.w) X.A (richCompare .Eq (.ref a) u) (EP X pins σ Q) X.xe s
  refine PySem.W.cmp_K (op := .Eq) hr.units0 hF I.ok.mod.kin J (Z.ty _ _ I.kIn z) hnf h2 h3 ?_
  refine wpAny_mono (run_within h1 hr rfl h4 hx I (.cons (show RelV (.ref a) (.ref a) from rfl) (.cons ry .nil)) hsp) (fun v s1 q => ?_) fun _ _ z => z
  obtain ⟨z, H1, I1, r1, b, rfl, q⟩ := q
  cases r1
  exact ⟨.bl b, H1, I1, rfl, q⟩
theorem or_ownNe {k c : Nat} {sem : List D → List Ob → Option (D × List Ob)} (hE : EqFn X.prog X.w X.K X.mg X.base C k c sem) (hr : Room (k + 1) X.A) (hx : Passes CX0 X E0) : OpR X (compareOp .NotEq) (rOwn X.K C c sem true) := by
  intro pins s σ H x y v u Q I rx ry h
  obtain ⟨a, dx, fs, ty, rfl, ha, hty, hnf, hsp⟩ := h
  cases rx
  obtain ⟨f, fd, ps, h1, h2, h3, h4⟩ := hE.ex
  obtain ⟨mA, J, _⟩ := ins_get I.hok ha
  obtain ⟨od, J, _⟩ := J.look
  obtain ⟨m, hF⟩ := I.fr
  obtain ⟨Pk, Z, z, _⟩ := kit_of I ry hty
  show wpAny (model X.prog X.w) X.A (richCompare .NotEq (.ref a) u) (EP X pins σ Q) X.xe s
  have hu : X.A.units + 1 < cLine := by
    have := hr.un
    omega
  refine rich_ne hE.no hu hF I.kIn J (Z.ty _ _ I.kIn z) hnf h2 h3 ?_
  refine wpAny_mono (run_within h1 hr.in1 rfl h4 hx I (.cons (show RelV (.ref a) (.ref a) from rfl) (.cons ry .nil)) hsp) (fun v s1 q => ?_) fun _ _ z => z
  obtain ⟨z, H1, I1, r1, b, rfl, q⟩ := q
  cases r1
  exact ⟨b, rfl, .bl (!b), H1, I1, rfl, q⟩
def okT : Tg → Bool
  | .b m => decide (m ∈ ["NoneType", "bool", "int", "str", "list", "tuple", "dict"])
  | .o d => decide (d < nCls)
def dOwn (c : Nat) (sem : List D → List Ob → Option (D × List Ob)) (neg : Bool) (fa fb : DF D) : DF D := fun E S => (fa E S).bind fun p => (fb E p.2).bind fun q => match tgOf q.2 p.1, tgOf q.2 q.1 with
  | some (.o c'), some t => if c' = c ∧ okT t = true then (sem [p.1, q.1] q.2).bind fun r => match r.1 with
      | .bl b => some (.bl (if neg then !b else b), r.2)
      | _ => none
    else none
  | _, _ => none
theorem snd_own {k c : Nat} {sem : List D → List Ob → Option (D × List Ob)} {neg : Bool} {ta tb : TE} {fa fb : DF D} (hC : ClOk X.K C) (hE : EqFn X.prog X.w X.K X.mg X.base C k c sem) (ha : Snd X.K C ta fa) (hb : Snd X.K C tb fb) : Snd X.K C (tOp (rOwn X.K C c sem neg) ta tb) (dOwn c sem neg fa fb) := by
  intro E S d S' q Λ F π H σ w Q p
  obtain ⟨⟨x, S1⟩, q1, q5⟩ := Option.bind_eq_some_iff.mp q
  obtain ⟨⟨y, S2⟩, q2, q6⟩ := Option.bind_eq_some_iff.mp q5
  simp only at q6
  split at q6
  · rename_i c' t hx hy
    split at q6
    · rename_i hc
      obtain ⟨hc, ht⟩ := hc
      obtain ⟨⟨r, S3⟩, q7, q8⟩ := Option.bind_eq_some_iff.mp q6
      cases r with
      | bl b =>
        cases q8
        refine ha E S x S1 q1 Λ F π H σ w _ fun v F1 π1 H1 e1 w1 r1 => ?_
        refine hb E S1 y S2 q2 Λ F1 π1 H1 σ (w.step e1 w1) _ fun u F2 π2 H2 e2 w2 r2 => ?_
        have r1' := Rep.mono e2.f e2.p _ _ r1
        obtain ⟨a, dx, fl, gs, rfl, h5, _⟩ := tg_ins w2 r1' hx
        rw [hc] at h5
        refine ⟨a, dx, fl, tgV C t, rfl, h5, tgOf_ok hC w2 r2 hy, hE.nf t ?_, Λ, F2, π2, S2, [x, y], .bl b, _, rfl, w2, ⟨_, _, rfl, r1', RepA.one r2⟩, q7, fun z F3 π3 H3 e3 w3 r3 => ⟨b, r3, ?_⟩⟩
        · cases t with
          | b m => exact of_decide_eq_true ht
          | o d => exact of_decide_eq_true ht
        · exact p _ F3 π3 H3 ((e1.trans e2).trans e3) w3 rfl
      | _ => cases q8
    · cases q6
  · cases q6
variable {a b : Expr} {fa fb : DF D} {pos : Pos} {k c : Nat} {sem : List D → List Ob → Option (D × List Ob)}
theorem de_ownEq (hC : ClOk X.K C) (hE : EqFn X.prog X.w X.K X.mg X.base C k c sem) (hr : Room k X.A) (ha : DE X C a fa) (hb : DE X C b fb) (hx : Passes CX0 X E0 := by exact pass0) : DE X C (.Compare a [.Eq] [b] pos) (dOwn c sem false fa fb) := by
  obtain ⟨ta, a1, a2⟩ := ha
  obtain ⟨tb, b1, b2⟩ := hb
  exact ⟨_, pe_cmpR (or_own hE hr hx) a1 b1 (nomark _), snd_own hC hE a2 b2⟩
theorem dt_ownEq (hC : ClOk X.K C) (hE : EqFn X.prog X.w X.K X.mg X.base C k c sem) (hr : Room k X.A) (ha : DE X C a fa) (hb : DE X C b fb) (hx : Passes CX0 X E0 := by exact pass0) : DT X C (.Compare a [.Eq] [b] pos) (dTest (dOwn c sem false fa fb)) := by
  obtain ⟨ta, a1, a2⟩ := ha
  obtain ⟨tb, b1, b2⟩ := hb
  exact ⟨_, pt_cmpR (or_own hE hr hx) a1 b1 (nomark _), snd_test (snd_own hC hE a2 b2)⟩
theorem de_ownNe (hC : ClOk X.K C) (hE : EqFn X.prog X.w X.K X.mg X.base C k c sem) (hr : Room (k + 1) X.A) (ha : DE X C a fa) (hb : DE X C b fb) (hx : Passes CX0 X E0 := by exact pass0) : DE X C (.Compare a [.NotEq] [b] pos) (dOwn c sem true fa fb) := by
  obtain ⟨ta, a1, a2⟩ := ha
  obtain ⟨tb, b1, b2⟩ := hb
  exact ⟨_, pe_cmpR (or_ownNe hE hr hx) a1 b1 (nomark _), snd_own hC hE a2 b2⟩
theorem dt_ownNe (hC : ClOk X.K C) (hE : EqFn X.prog X.w X.K X.mg X.base C k c sem) (hr : Room (k + 1) X.A) (ha : DE X C a fa) (hb : DE X C b fb) (hx : Passes CX0 X E0 := by exact pass0) : DT X C (.Compare a [.NotEq] [b] pos) (dTest (dOwn c sem true fa fb)) := by
  obtain ⟨ta, a1, a2⟩ := ha
  obtain ⟨tb, b1, b2⟩ := hb
  exact ⟨_, pt_cmpR (or_ownNe hE hr hx) a1 b1 (nomark _), snd_test (snd_own hC hE a2 b2)⟩
end
end DL

set_option Elab.async false
set_option linter.all false
set_option maxRecDepth 100000
set_option maxHeartbeats 2000000
/-! DL: locked dicts, dict comprehensions, comprehensions of two loops. -/
namespace DL
open PySem PySem.Spec PyProof.Rows L2

/-! ### locks -/
def setL (Λ : Lk) (k : Nat) (x : Option (Obj × HO)) : Lk := fun j => if j = k then x else Λ j
theorem setL_self {Λ : Lk} {k : Nat} {x : Option (Obj × HO)} : setL Λ k x k = x := if_pos rfl
theorem setL_back {Λ : Lk} {k : Nat} {x : Option (Obj × HO)} : setL (setL Λ k x) k (Λ k) = Λ := by
  funext j
  unfold setL
  by_cases e : j = k
  · rw [if_pos e, e]
  · rw [if_neg e, if_neg e]
def lockO (S : List Ob) (k : Nat) : Option (List Ob) := match S[k]? with
  | some (.dK l) => some (S.set k (.lkK l))
  | some (.dT l) => some (S.set k (.lkT l))
  | _ => none
def freeO (S : List Ob) (k : Nat) : Option (List Ob) := match S[k]? with
  | some (.lkK l) => some (S.set k (.dK l))
  | some (.lkT l) => some (S.set k (.dT l))
  | _ => none
section
variable {K : PySem.W.Frag} {C : Ctx} {Λ : Lk} {F F' : Hp} {π π' : List Addr} {S S' : List Ob} {H H' : Hp}
theorem Wd.putL (w : Wd K C Λ F π S H) {k : Nat} {p : Addr} {o : HO} {ob : Ob} {x : Option (Obj × HO)} (hp : π[k]? = some p) (r : ObR K C F π x (upd H p o) p ob) : Wd K C (setL Λ k x) F π (S.set k ob) (upd H p o) where
  ext := fun a u e => by
    rw [upd_ne (ne_of_none e (w.fr p (List.mem_of_getElem? hp)))]
    exact w.ext a u e
  len := by rw [List.length_set]; exact w.len
  nd := w.nd
  fr := w.fr
  ob := fun j o2 q h1 h2 => by
    by_cases e : j = k
    · subst e
      rw [hp] at h2
      cases h2
      have hj : j < S.length := by
        have := (List.getElem?_eq_some_iff.mp h1).1
        rwa [List.length_set] at this
      rw [List.getElem?_set_self hj] at h1
      cases h1
      rw [setL_self]
      exact r
    · rw [List.getElem?_set_ne (fun z => e z.symm)] at h1
      rw [show setL Λ k x j = Λ j from if_neg e]
      exact ObR.heap (upd_ne fun z => e (nodup_at w.nd (z ▸ h2) hp)) (w.ob j o2 q h1 h2)
theorem lock_ok (w : Wd K C Λ F π S H) {k : Nat} (h : lockO S k = some S') : ∃ d u, H d = some u ∧ Mut (some u) ∧ π[k]? = some d ∧ ∀ od, Wd K C (setL Λ k (some (od, u))) F π S' (upd H d (.frz od u)) := by
  unfold lockO at h
  split at h
  · rename_i l hk
    cases h
    obtain ⟨p, hp, vs, h1, h2⟩ := w.at hk
    exact ⟨p, _, h1, True.intro, hp, fun od => w.putL hp ⟨od, vs, rfl, upd_same, h2⟩⟩
  · rename_i l hk
    cases h
    obtain ⟨p, hp, vs, h1, h2⟩ := w.at hk
    exact ⟨p, _, h1, True.intro, hp, fun od => w.putL hp ⟨od, vs, rfl, upd_same, h2⟩⟩
  · cases h
theorem free_ok {k : Nat} {od : Obj} {u : HO} {d : Addr} (w : Wd K C (setL Λ k (some (od, u))) F π S H) (h : freeO S k = some S') (hp : π[k]? = some d) : H d = some (.frz od u) ∧ Wd K C Λ F π S' (upd H d u) := by
  have back : ∀ {ob : Ob}, ObR K C F π (Λ k) (upd H d u) d ob → Wd K C Λ F π (S.set k ob) (upd H d u) := fun r => by
    have := w.putL (x := Λ k) hp r
    rwa [setL_back] at this
  unfold freeO at h
  split at h
  · rename_i l hk
    cases h
    obtain ⟨o, vs, z, h1, h2⟩ := w.ob k _ d hk hp
    rw [setL_self] at z
    cases z
    exact ⟨h1, back ⟨vs, upd_same, h2⟩⟩
  · rename_i l hk
    cases h
    obtain ⟨o, vs, z, h1, h2⟩ := w.ob k _ d hk hp
    rw [setL_self] at z
    cases z
    exact ⟨h1, back ⟨vs, upd_same, h2⟩⟩
  · cases h
end
def lockAt {α : Type} (kf : DF D) (f : DF α) : DF α := fun E S => match (kf E S).map Prod.fst with
  | some (.ptr k) => (lockO S k).bind fun S1 => (f E S1).bind fun r => (freeO r.2 k).map fun S2 => (r.1, S2)
  | _ => none
def sLock (kf : DF D) (f : DFS) : DFS := lockAt kf f
section
variable {K : PySem.W.Frag} {C : Ctx} {kf : DF D}
theorem lockAt_ok {α : Type} {f : DF α} {E : SE} {S S' : List Ob} {a : α} (q : lockAt kf f E S = some (a, S')) : ∃ k S1 S2, lockO S k = some S1 ∧ f E S1 = some (a, S2) ∧ freeO S2 k = some S' := by
  unfold lockAt at q
  split at q
  · rename_i k hk
    obtain ⟨S1, q1, q⟩ := Option.bind_eq_some_iff.mp q
    obtain ⟨⟨b, S2⟩, q2, q⟩ := Option.bind_eq_some_iff.mp q
    obtain ⟨S3, q3, q⟩ := Option.map_eq_some_iff.mp q
    cases q
    exact ⟨k, S1, S2, q1, q2, q3⟩
  · cases q
theorem snd_lock {t : TE} {f : DF D} (h : Snd K C t f) : Snd K C (tLockE t) (lockAt kf f) := by
  intro E S d S' q Λ F π H σ w Q p
  obtain ⟨k, S1, S2, q1, q2, q3⟩ := lockAt_ok q
  obtain ⟨a, u, h1, mu, hp, hw⟩ := lock_ok w.w q1
  refine ⟨a, u, h1, mu, fun od => h E S1 d S2 q2 _ F π _ σ ⟨hw od, w.r⟩ _ fun v F2 π2 H2 e2 w2 r2 => ?_⟩
  obtain ⟨z, w3⟩ := free_ok w2 q3 (pre_get e2.p hp)
  exact ⟨z, p v F2 π2 _ (((Ext.put hp).trans e2).trans (Ext.put (pre_get e2.p hp))) w3 r2⟩
theorem sndN_lock {t : TE} {f : DF (List D)} (h : SndN K C t f) : SndN K C (tLockE t) (lockAt kf f) := by
  intro E S d S' q Λ F π H σ w Q p
  obtain ⟨k, S1, S2, q1, q2, q3⟩ := lockAt_ok q
  obtain ⟨a, u, h1, mu, hp, hw⟩ := lock_ok w.w q1
  refine ⟨a, u, h1, mu, fun od => h E S1 d S2 q2 _ F π _ σ ⟨hw od, w.r⟩ _ fun b vs F2 π2 H2 e2 w2 n2 f2 hb h2 r2 => ?_⟩
  obtain ⟨z, w3⟩ := free_ok w2 q3 (pre_get e2.p hp)
  have ne : b ≠ a := fun e => hb (by rw [e]; exact List.mem_of_getElem? (pre_get e2.p hp))
  refine ⟨z, p b vs F2 π2 _ (((Ext.put hp).trans e2).trans (Ext.put (pre_get e2.p hp))) w3 ?_ f2 hb ?_ r2⟩
  · rw [upd_ne ne] at n2
    exact n2
  · rw [upd_ne ne]
    exact h2
theorem sndS_lock {t : TS} {f : DFS} (h : SndS K C t f) : SndS K C (tLock t) (sLock kf f) := by
  intro E S d S' q Λ F π H σ w Dn p
  obtain ⟨k, S1, S2, q1, q2, q3⟩ := lockAt_ok q
  obtain ⟨a, u, h1, mu, hp, hw⟩ := lock_ok w.w q1
  refine ⟨a, u, h1, mu, fun od => h E S1 d S2 q2 _ F π _ σ ⟨hw od, w.r⟩ _ ?_⟩
  have go : ∀ {F2 : Hp} {π2 : List Addr} {H2 : Hp}, Ext F π (upd H a (.frz od u)) F2 π2 H2 → Wd K C (setL Λ k (some (od, u))) F2 π2 S2 H2 → H2 a = some (.frz od u) ∧ Ext F π H F2 π2 (upd H2 a u) ∧ Wd K C Λ F2 π2 S' (upd H2 a u) := fun e2 w2 =>
    let ⟨z, w3⟩ := free_ok w2 q3 (pre_get e2.p hp)
    ⟨z, ((Ext.put hp).trans e2).trans (Ext.put (pre_get e2.p hp)), w3⟩
  cases d with
  | nx E' => exact fun σ' F2 π2 H2 e2 w2 r2 => let ⟨z, e3, w3⟩ := go e2 w2; ⟨z, p σ' F2 π2 _ e3 w3 r2⟩
  | bk E' => exact fun σ' F2 π2 H2 e2 w2 r2 => let ⟨z, e3, w3⟩ := go e2 w2; ⟨z, p σ' F2 π2 _ e3 w3 r2⟩
  | ct E' => exact fun σ' F2 π2 H2 e2 w2 r2 => let ⟨z, e3, w3⟩ := go e2 w2; ⟨z, p σ' F2 π2 _ e3 w3 r2⟩
  | rt d' => exact fun v F2 π2 H2 e2 w2 r2 => let ⟨z, e3, w3⟩ := go e2 w2; ⟨z, p v F2 π2 _ e3 w3 r2⟩
end
section
variable {X : Cx} {C : Ctx}
theorem de_lock {e : Expr} {f : DF D} (kf : DF D) (h : DE X C e f) : DE X C e (lockAt kf f) := let ⟨_, a, b⟩ := h; ⟨_, pe_lock a, snd_lock b⟩
theorem dn_lock {e : Expr} {f : DF (List D)} (kf : DF D) (h : DN X C e f) : DN X C e (lockAt kf f) := let ⟨_, a, b⟩ := h; ⟨_, pe_lock a, sndN_lock b⟩
theorem ds_lock {e : Stmt} {f : DFS} (kf : DF D) (h : DSt X C e f) : DSt X C e (sLock kf f) := let ⟨_, a, b⟩ := h; ⟨_, ps_lock a, sndS_lock b⟩

/-! ### dicts as sources -/
def iDk (g : Nat → Src) (f : DF D) : DF Src := fun E S => (f E S).bind fun p => match p.1 with
  | .ptr k => match p.2[k]? with
    | some (.lkK _) => some (g k, p.2)
    | some (.lkT _) => some (g k, p.2)
    | _ => none
  | _ => none
def iDkK (g : Nat → Src) (f : DF D) : DF Src := fun E S => (f E S).bind fun p => match p.1 with
  | .ptr k => match p.2[k]? with
    | some (.lkK _) => some (g k, p.2)
    | _ => none
  | _ => none
theorem dictK_of {K : PySem.W.Frag} {Λ : Lk} {F : Hp} {π : List Addr} {S : List Ob} {H : Hp} {k : Nat} {a : Addr} {o : Obj} {l : List (Key × V)} {r : List (D × D)} (w : Wd K C Λ F π S H) (hp : π[k]? = some a) (hL : Λ k = some (o, .dK l)) (h : dictK S k = some r) :
    ∃ kvs, r = kvs.map (fun p => (keyD p.1, p.2)) ∧ H a = some (.frz o (.dK l)) ∧ RepM (Rep K C F π) kvs l := by
  unfold dictK at h
  split at h
  · rename_i kvs hk
    cases h
    obtain ⟨o', l', z, h1, h2⟩ := w.ob k _ a hk hp
    rw [hL] at z
    cases z
    exact ⟨kvs, rfl, h1, repK_m.mp h2⟩
  · rename_i kvs hk
    obtain ⟨o', l', z, h1, h2⟩ := w.ob k _ a hk hp
    rw [hL] at z
    cases z
  · cases h
theorem dictT_of {K : PySem.W.Frag} {Λ : Lk} {F : Hp} {π : List Addr} {S : List Ob} {H : Hp} {k : Nat} {a : Addr} {o : Obj} {l : List (List Key × V)} {r : List (D × D)} (w : Wd K C Λ F π S H) (hp : π[k]? = some a) (hL : Λ k = some (o, .dT l)) (h : dictK S k = some r) :
    ∃ kvs, r = kvs.map (fun p => (keyT p.1, p.2)) ∧ H a = some (.frz o (.dT l)) ∧ RepM (Rep K C F π) kvs l := by
  unfold dictK at h
  split at h
  · rename_i kvs hk
    obtain ⟨o', l', z, h1, h2⟩ := w.ob k _ a hk hp
    rw [hL] at z
    cases z
  · rename_i kvs hk
    cases h
    obtain ⟨o', l', z, h1, h2⟩ := w.ob k _ a hk hp
    rw [hL] at z
    cases z
    exact ⟨kvs, rfl, h1, repT_m.mp h2⟩
  · cases h
theorem RepM.idx {κ : Type} [DecidableEq κ] {R : D → V → Prop} : ∀ {xs : List (κ × D)} {l : List (κ × V)} {i : Nat} {k : κ} {d : D}, RepM R xs l → xs[i]? = some (k, d) → ∃ v, l[i]? = some (k, v) ∧ R d v
  | [], l, i, k, d, r, h => by simp at h
  | (j, x) :: xs, l, 0, k, d, r, h => by
    obtain ⟨v, t, rfl, q1, q2⟩ := r
    simp at h
    obtain ⟨rfl, rfl⟩ := h
    exact ⟨v, rfl, q1⟩
  | (j, x) :: xs, l, i + 1, k, d, r, h => by
    obtain ⟨v', t, rfl, q1, q2⟩ := r
    exact RepM.idx (i := i) q2 (by simpa using h)
/-- a tuple that stands already -/
theorem Wd.tupled {K : PySem.W.Frag} {Λ : Lk} {F : Hp} {π : List Addr} {S : List Ob} {H : Hp} (w : Wd K C Λ F π S H) {q : Addr} {us : List V} (h : H q = some (.tup us)) : ∃ F', Ext F π H F' π H ∧ Wd K C Λ F' π S H ∧ F' q = some (.tup us) := by
  have hq : q ∉ π := fun hm => by
    obtain ⟨k, hk, e⟩ := List.mem_iff_getElem.mp hm
    obtain ⟨o, _, r⟩ := w.obj (k := k) (p := q) (by rw [List.getElem?_eq_getElem hk, e])
    cases o with
    | lst xs => obtain ⟨_, z, _⟩ := r; rw [h] at z; cases z
    | dK xs => obtain ⟨_, z, _⟩ := r; rw [h] at z; cases z
    | dT xs => obtain ⟨_, z, _⟩ := r; rw [h] at z; cases z
    | ins c xs => obtain ⟨_, _, z, _⟩ := r; rw [h] at z; cases z
    | lkK xs => obtain ⟨_, _, _, z, _⟩ := r; rw [h] at z; cases z
    | lkT xs => obtain ⟨_, _, _, z, _⟩ := r; rw [h] at z; cases z
  cases hf : F q with
  | some o =>
    have := w.ext q o hf
    rw [h] at this
    cases this
    exact ⟨F, Ext.refl _ _ _, w, hf⟩
  | none =>
    refine ⟨upd F q (.tup us), ⟨same_new hf, List.prefix_refl _, fun a o h1 n => h1, fun a o h1 n => n, fun a o h1 n z => ?_⟩, w.freeze hf hq h, upd_same⟩
    by_cases e : a = q
    · subst e
      rw [h] at h1
      cases h1
      exact .inl ⟨us, rfl⟩
    · exact .inr ((upd_ne e).trans z)
theorem di_keys {tg e : Expr} {f : DF D} (h : DE X C e f) : DI X C tg e (iDk .keys f) := by
  obtain ⟨t, a1, a2⟩ := h
  refine ⟨_, pi_keys a1, fun E S s S' q Λ F π H σ w R p => ?_⟩
  obtain ⟨⟨d, S1⟩, q1, q⟩ := Option.bind_eq_some_iff.mp q
  simp only at q
  split at q
  · rename_i k
    refine a2 E S _ _ q1 Λ F π H σ w _ fun v F1 π1 H1 e1 w1 r1 => ?_
    obtain ⟨a, rfl, hp⟩ := r1
    split at q
    · rename_i l hk
      cases q
      obtain ⟨o, vs, z, h1, h2⟩ := w1.ob k _ a hk hp
      refine ⟨a, o, rfl, .inl ⟨vs, h1, p _ F1 π1 H1 e1 w1 fun i F2 π2 S2 H2 e2 w2 => ⟨fun y => ?_, fun d' y => ?_⟩⟩⟩
      · obtain ⟨r, y1, y2⟩ := Option.map_eq_some_iff.mp y
        obtain ⟨kvs, rfl, y3, y4⟩ := dictK_of w2 (pre_get e2.p hp) z y1
        rw [Option.map_eq_none_iff, List.getElem?_eq_none_iff, List.length_map] at y2
        exact ⟨y3, by rw [y4.length]; exact y2⟩
      · obtain ⟨r, y1, y2⟩ := Option.map_eq_some_iff.mp y
        obtain ⟨kvs, rfl, y3, y4⟩ := dictK_of w2 (pre_get e2.p hp) z y1
        obtain ⟨⟨kd, dd⟩, y5, rfl⟩ := Option.map_eq_some_iff.mp y2
        rw [List.getElem?_map] at y5
        obtain ⟨⟨k', d''⟩, y6, y7⟩ := Option.map_eq_some_iff.mp y5
        cases y7
        obtain ⟨v, y8, y9⟩ := y4.idx y6
        refine ⟨⟨y3, (List.getElem?_eq_some_iff.mp y8).1⟩, fun x H3 yy => ?_⟩
        obtain ⟨rfl, k2, v2, yy, rfl⟩ := yy
        rw [y8] at yy
        cases yy
        exact ⟨F2, Ext.refl _ _ _, w2, rep_key _⟩
    · rename_i l hk
      cases q
      obtain ⟨o, vs, z, h1, h2⟩ := w1.ob k _ a hk hp
      refine ⟨a, o, rfl, .inr ⟨vs, h1, p _ F1 π1 H1 e1 w1 fun i F2 π2 S2 H2 e2 w2 => ⟨fun y => ?_, fun d' y => ?_⟩⟩⟩
      · obtain ⟨r, y1, y2⟩ := Option.map_eq_some_iff.mp y
        obtain ⟨kvs, rfl, y3, y4⟩ := dictT_of w2 (pre_get e2.p hp) z y1
        rw [Option.map_eq_none_iff, List.getElem?_eq_none_iff, List.length_map] at y2
        exact ⟨y3, by rw [y4.length]; exact y2⟩
      · obtain ⟨r, y1, y2⟩ := Option.map_eq_some_iff.mp y
        obtain ⟨kvs, rfl, y3, y4⟩ := dictT_of w2 (pre_get e2.p hp) z y1
        obtain ⟨⟨kd, dd⟩, y5, rfl⟩ := Option.map_eq_some_iff.mp y2
        rw [List.getElem?_map] at y5
        obtain ⟨⟨k', d''⟩, y6, y7⟩ := Option.map_eq_some_iff.mp y5
        cases y7
        obtain ⟨v, y8, y9⟩ := y4.idx y6
        refine ⟨⟨y3, (List.getElem?_eq_some_iff.mp y8).1⟩, fun x H3 yy => ?_⟩
        obtain ⟨rfl, k2, v2, q, yy, rfl, hq⟩ := yy
        rw [y8] at yy
        cases yy
        obtain ⟨F3, e3, w3, hF⟩ := w2.tupled hq
        exact ⟨F3, e3, w3, q, _, rfl, hF, rep_keys _⟩
    · cases q
  · cases q
theorem di_values {tg e : Expr} {apos cpos : Pos} {f : DF D} (h : DE X C e f) (hbase : attributeBase e "values" X.env (eval e X.env) = eval e X.env := by rfl) (hline : (apos.endLine == cpos.line) = true := by rfl) : DI X C tg (.Call (.Attribute e "values" apos) [] [] cpos) (iDkK .vals f) := by
  obtain ⟨t, a1, a2⟩ := h
  refine ⟨_, pi_values a1 hbase hline, fun E S s S' q Λ F π H σ w R p => ?_⟩
  obtain ⟨⟨d, S1⟩, q1, q⟩ := Option.bind_eq_some_iff.mp q
  simp only at q
  split at q
  · rename_i k
    refine a2 E S _ _ q1 Λ F π H σ w _ fun v F1 π1 H1 e1 w1 r1 => ?_
    obtain ⟨a, rfl, hp⟩ := r1
    split at q
    · rename_i l hk
      cases q
      obtain ⟨o, vs, z, h1, h2⟩ := w1.ob k _ a hk hp
      refine ⟨a, o, vs, rfl, h1, p _ F1 π1 H1 e1 w1 fun i F2 π2 S2 H2 e2 w2 => ⟨fun y => ?_, fun d' y => ?_⟩⟩
      · obtain ⟨r, y1, y2⟩ := Option.map_eq_some_iff.mp y
        obtain ⟨kvs, rfl, y3, y4⟩ := dictK_of w2 (pre_get e2.p hp) z y1
        rw [Option.map_eq_none_iff, List.getElem?_eq_none_iff, List.length_map] at y2
        exact ⟨y3, by rw [y4.length]; exact y2⟩
      · obtain ⟨r, y1, y2⟩ := Option.map_eq_some_iff.mp y
        obtain ⟨kvs, rfl, y3, y4⟩ := dictK_of w2 (pre_get e2.p hp) z y1
        obtain ⟨⟨kd, dd⟩, y5, rfl⟩ := Option.map_eq_some_iff.mp y2
        rw [List.getElem?_map] at y5
        obtain ⟨⟨k', d''⟩, y6, y7⟩ := Option.map_eq_some_iff.mp y5
        cases y7
        obtain ⟨v, y8, y9⟩ := y4.idx y6
        refine ⟨⟨y3, (List.getElem?_eq_some_iff.mp y8).1⟩, fun x H3 yy => ?_⟩
        obtain ⟨rfl, k2, yy⟩ := yy
        rw [y8] at yy
        cases yy
        exact ⟨F2, Ext.refl _ _ _, w2, y9⟩
    · cases q
  · cases q
theorem di_items {e : Expr} {apos cpos tpos : Pos} {elts : List Expr} {kk : Nat} {f : DF D} (h : DE X C e f) (hbase : attributeBase e "items" X.env (eval e X.env) = eval e X.env := by rfl) (hline : (apos.endLine == cpos.line) = true := by rfl) : DI X C (.Tuple elts kk tpos) (.Call (.Attribute e "items" apos) [] [] cpos) (iDkK .items f) := by
  obtain ⟨t, a1, a2⟩ := h
  refine ⟨_, pi_items a1 hbase hline, fun E S s S' q Λ F π H σ w R p => ?_⟩
  obtain ⟨⟨d, S1⟩, q1, q⟩ := Option.bind_eq_some_iff.mp q
  simp only at q
  split at q
  · rename_i k
    refine a2 E S _ _ q1 Λ F π H σ w _ fun v F1 π1 H1 e1 w1 r1 => ?_
    obtain ⟨a, rfl, hp⟩ := r1
    split at q
    · rename_i l hk
      cases q
      obtain ⟨o, vs, z, h1, h2⟩ := w1.ob k _ a hk hp
      refine ⟨a, o, vs, rfl, h1, p _ F1 π1 H1 e1 w1 fun i F2 π2 S2 H2 e2 w2 => ⟨fun y => ?_, fun d' y => ?_⟩⟩
      · obtain ⟨r, y1, y2⟩ := Option.map_eq_some_iff.mp y
        obtain ⟨kvs, rfl, y3, y4⟩ := dictK_of w2 (pre_get e2.p hp) z y1
        rw [Option.map_eq_none_iff, List.getElem?_eq_none_iff, List.length_map] at y2
        exact ⟨y3, by rw [y4.length]; exact y2⟩
      · obtain ⟨r, y1, y2⟩ := Option.map_eq_some_iff.mp y
        obtain ⟨kvs, rfl, y3, y4⟩ := dictK_of w2 (pre_get e2.p hp) z y1
        obtain ⟨⟨kd, dd⟩, y5, rfl⟩ := Option.map_eq_some_iff.mp y2
        rw [List.getElem?_map] at y5
        obtain ⟨⟨k', d''⟩, y6, y7⟩ := Option.map_eq_some_iff.mp y5
        cases y7
        obtain ⟨v, y8, y9⟩ := y4.idx y6
        refine ⟨⟨y3, (List.getElem?_eq_some_iff.mp y8).1⟩, fun x H3 yy => ?_⟩
        obtain ⟨T, k2, v2, yy, rfl, hT, rfl⟩ := yy
        rw [y8] at yy
        cases yy
        have fT := w2.frozen hT
        exact ⟨_, Ext.tree hT fT, w2.tree hT, T, _, rfl, upd_same, _, _, rfl, rep_key _, _, _, rfl, Rep.mono (same_new fT) (List.prefix_refl _) _ _ y9, rfl⟩
    · cases q
  · cases q
end

/-! ### a thing that grows in a comprehension -/
structure Bd (K : PySem.W.Frag) (C : Ctx) (Λ : Lk) (A : Addr) (F : Hp) (π : List Addr) (H : Hp) (F' : Hp) (π' : List Addr) (S' : List Ob) (H' : Hp) (ob : Ob) : Prop where
  e : Ext F π H F' π' H'
  w : Wd K C Λ F' π' S' H'
  f : F' A = none
  n : A ∉ π'
  r : ObR K C F' π' none H' A ob
theorem ObR.some {K : PySem.W.Frag} {C : Ctx} {F : Hp} {π : List Addr} {lo : Option (Obj × HO)} {H : Hp} {p : Addr} : ∀ {o : Ob}, ObR K C F π lo H p o → ∃ x, H p = some x ∧ ∀ us, x ≠ .tup us
  | .lst xs, ⟨vs, q, _⟩ => ⟨_, q, fun _ => nofun⟩
  | .dK xs, ⟨vs, q, _⟩ => ⟨_, q, fun _ => nofun⟩
  | .dT xs, ⟨vs, q, _⟩ => ⟨_, q, fun _ => nofun⟩
  | .ins c xs, ⟨_, vs, q, _⟩ => ⟨_, q, fun _ => nofun⟩
  | .lkK xs, ⟨o, vs, z, q, _⟩ => ⟨_, q, fun _ => nofun⟩
  | .lkT xs, ⟨o, vs, z, q, _⟩ => ⟨_, q, fun _ => nofun⟩
section
variable {K : PySem.W.Frag} {C : Ctx} {Λ : Lk} {A : Addr} {F F' F2 : Hp} {π π' π2 : List Addr} {S' S2 : List Ob} {H H' H2 : Hp} {ob : Ob}
theorem Bd.step (b : Bd K C Λ A F π H F' π' S' H' ob) (e : Ext F' π' H' F2 π2 H2) (w : Wd K C Λ F2 π2 S2 H2) : Bd K C Λ A F π H F2 π2 S2 H2 ob := by
  obtain ⟨x, hx, hn⟩ := b.r.some
  exact ⟨b.e.trans e, w, (e.m A x hx b.n b.f).resolve_left fun ⟨us, z⟩ => hn us z, e.n A x hx b.n, ObR.mono e.f e.p (ObR.heap ((e.k A x hx b.n).trans hx.symm) b.r)⟩
theorem Bd.put (b : Bd K C Λ A F π H F' π' S' H' ob) (hA : H A = none) {o : HO} {ob2 : Ob} (r : ObR K C F' π' none (upd H' A o) A ob2) : Bd K C Λ A F π H F' π' S' (upd H' A o) ob2 := by
  refine ⟨⟨b.e.f, b.e.p, fun a o h n => ?_, b.e.n, b.e.m⟩, ⟨fun a o h => ?_, b.w.len, b.w.nd, b.w.fr, fun k o q h1 h2 => ObR.heap (upd_ne fun c => b.n (by rw [← c]; exact List.mem_of_getElem? h2)) (b.w.ob k o q h1 h2)⟩, b.f, b.n, r⟩
  · rw [upd_ne (ne_of_none h hA)]
    exact b.e.k a o h n
  · rw [upd_ne (ne_of_none h b.f)]
    exact b.w.ext a o h
theorem Bd.start (w : Wd K C Λ F π S' H) (hA : H A = none) {o : HO} (r : ObR K C F π none (upd H A o) A ob) : Bd K C Λ A F π H F π S' (upd H A o) ob :=
  ⟨Ext.junk (same_new hA), w.junk (same_new hA), w.frozen hA, w.notin hA, r⟩
end
theorem none_back {F F' : Hp} {π π' : List Addr} {H H' : Hp} (e : Ext F π H F' π' H') {A : Addr} (h : H' A = none) (n : A ∉ π') : H A = none := by
  cases z : H A with
  | none => rfl
  | some o =>
    rw [e.k A o z fun y => n (e.p.subset y)] at h
    cases h

/-! ### dict comprehensions -/
def dcF (tg : DFG) (t : DF Bool) (kx vx : DF D) (s : Src) (E : SE) : Nat → Nat → List (Key × D) → List Ob → Option (List (Key × D) × List Ob)
  | 0, i, acc, S => match s.at S i with
    | some none => some (acc, S)
    | _ => none
  | n + 1, i, acc, S => match s.at S i with
    | some none => some (acc, S)
    | some (some d) => (tg d E S).bind fun p => (t p.1 p.2).bind fun q => if q.1 = true then (kx p.1 q.2).bind fun k => (vx p.1 k.2).bind fun r => (keyOf k.1).bind fun key => if acc.length < sizeLine then dcF tg t kx vx s E n (i + 1) (putD acc key r.1) r.2 else none else dcF tg t kx vx s E n (i + 1) acc q.2
    | none => none
def dDc (vs : List Nat) (fi : DF Src) (tg : DFG) (t : DF Bool) (kx vx : DF D) : DF (List (Key × D)) := fun E S => (fi E S).bind fun p => dcF tg t kx vx p.1 (wipeE E vs) (p.1.len p.2) 0 [] p.2
def PostM (K : PySem.W.Frag) (C : Ctx) (Λ : Lk) (F : Hp) (π : List Addr) (H : Hp) (S' : List Ob) (ob : Ob) (Q : VK) : Prop :=
  ∀ p F' π' H', Bd K C Λ p F π H F' π' S' H' ob → H p = none → Q (.ref p) H'
def SndM (K : PySem.W.Frag) (C : Ctx) (t : TE) (f : DF (List (Key × D))) : Prop := ∀ E S l S', f E S = some (l, S') → ∀ Λ F π H σ, At K C Λ F π S H σ E → ∀ Q : VK, PostM K C Λ F π H S' (.dK l) Q → t σ H Q
section
variable {K : PySem.W.Frag} {C : Ctx} {Λ : Lk} {F F' : Hp} {π π' : List Addr} {S S' : List Ob} {H H' : Hp} {l : List (Key × D)} {Q : VK}
theorem Post.treeM (p : Post K C Λ F π H S' (.dK l) Q) : PostM K C Λ F π H S' (.dK l) Q := fun a F2 π2 H2 b n => by
  obtain ⟨vs, ha, r⟩ := b.r
  exact p (.ref a) (upd F2 a (.dK vs)) π2 H2 ⟨b.e.f.trans (same_new b.f), b.e.p, b.e.k, b.e.n, fun x o h z q => (b.e.m x o h z q).imp id fun y => (upd_ne (ne_of_none h n)).trans y⟩ (b.w.freeze b.f b.n ha) ⟨a, vs, rfl, upd_same, RepK.mono (same_new b.f) (List.prefix_refl _) _ _ r⟩
theorem Post.newM (p : Post K C Λ F π H (S' ++ [.dK l]) (.ptr S'.length) Q) : PostM K C Λ F π H S' (.dK l) Q := fun a F2 π2 H2 b n => by
  obtain ⟨vs, ha, r⟩ := b.r
  exact p (.ref a) F2 (π2 ++ [a]) H2 ⟨b.e.f, b.e.p.trans (List.prefix_append _ _), b.e.k, fun x o h z q => by
      rcases List.mem_append.mp q with q | q
      · exact b.e.n x o h z q
      · rw [List.mem_singleton.mp q, n] at h
        exact (nomatch h), b.e.m⟩ (b.w.adopt b.f b.n ⟨vs, ha, RepK.mono (Same.refl _) (List.prefix_append _ _) _ _ r⟩)
    ⟨a, rfl, by rw [← b.w.len, List.getElem?_append_right (Nat.le_refl _), Nat.sub_self]; rfl⟩
def dTreeK (f : DF (List (Key × D))) : DF D := fun E S => (f E S).map fun p => (.dK p.1, p.2)
def dNewD (f : DF (List (Key × D))) : DF D := fun E S => (f E S).map fun p => (.ptr p.2.length, p.2 ++ [.dK p.1])
theorem SndM.snd {t : TE} {f : DF (List (Key × D))} (h : SndM K C t f) (new : Bool) : Snd K C t (if new then dNewD f else dTreeK f) := by
  cases new with
  | true =>
    intro E S d S' q Λ F π H σ w Q p
    obtain ⟨⟨xs, S1⟩, q1, q2⟩ := Option.map_eq_some_iff.mp q
    cases q2
    exact h E S xs S1 q1 Λ F π H σ w Q p.newM
  | false =>
    intro E S d S' q Λ F π H σ w Q p
    obtain ⟨⟨xs, S1⟩, q1, q2⟩ := Option.map_eq_some_iff.mp q
    cases q2
    exact h E S xs S1 q1 Λ F π H σ w Q p.treeM
theorem snd_dc {wi : TI} {g : TG} {tt : TT} {tk te : TE} {vs ws : List Nat} {fi : DF Src} {fg : DFG} {ft : DF Bool} {fk fe : DF D} (hi : SndI K C wi fi) (hg : SndG K C ws g fg) (ht : SndT K C tt ft) (hk : Snd K C tk fk) (he : Snd K C te fe) (hw : ∀ j ∈ ws, j ∈ vs) :
    SndM K C (tDc wi g tt tk te vs) (dDc vs fi fg ft fk fe) := by
  intro E S xs S' q Λ F π H σ w Q p
  obtain ⟨⟨s, S1⟩, q1, q⟩ := Option.bind_eq_some_iff.mp q
  simp only at q
  refine hi E S s S1 q1 Λ F π H σ w _ fun J F1 π1 H1 e1 w1 gv => fun D hD => ?_
  refine ⟨fun i m H' => ∃ F' π' S2 acc, Bd K C Λ D F1 π1 H1 F' π' S2 H' (.dK acc) ∧ dcF fg ft fk fe s (wipeE E vs) m i acc S2 = some (xs, S'),
    ⟨_, F1, π1, S1, [], Bd.start w1 hD ⟨[], upd_same, rfl⟩, q⟩, ?_⟩
  rintro i m H' ⟨F', π', S2, acc, b, l⟩
  have gi := gv i F' π' S2 H' b.e.sub b.w
  have stop : s.at S2 i = some none → (acc, S2) = (xs, S') → (J.stop i H' ∧ Q (.ref D) H') := fun z y => by
    cases y
    exact ⟨gi.1 z, p D F' π' H' ⟨e1.trans b.e, b.w, b.f, b.n, b.r⟩ (none_back e1 hD (w1.notin hD))⟩
  have env : EnvR K C F' π' (L2.wipe σ vs) (wipeE E vs) := (w.r.mono (e1.trans b.e).f (e1.trans b.e).p).wipe vs
  cases m with
  | zero =>
    simp only [dcF] at l
    split at l
    · rename_i z
      exact .inl (stop z (Option.some.inj l))
    · cases l
  | succ m =>
    simp only [dcF] at l
    split at l
    · rename_i z
      exact .inl (stop z (Option.some.inj l))
    · rename_i d z
      obtain ⟨⟨E3, S3⟩, l1, l⟩ := Option.bind_eq_some_iff.mp l
      obtain ⟨⟨b4, S4⟩, l2, l⟩ := Option.bind_eq_some_iff.mp l
      obtain ⟨go, yl⟩ := gi.2 d z
      refine .inr ⟨go, _, fun H2 h => ⟨m, Nat.lt_succ_self m, h⟩, fun x H3 y => ?_⟩
      obtain ⟨F3, e3, w3, r3⟩ := yl x H3 y
      refine hg d _ S2 E3 S3 l1 Λ F3 π' H3 _ x ⟨w3, env.mono e3.f e3.p⟩ r3 _ fun σ4 F4 π4 H4 e4 w4 k4 => ⟨?_, ?_⟩
      · rw [wipe_same k4.1 fun j hj => k4.2 j fun z => hj (hw j z)]
        exact wipe_twice σ vs
      · refine ht E3 S3 b4 S4 l2 Λ F4 π4 H4 σ4 w4 _ fun F5 π5 H5 e5 w5 => ?_
        have b5 := b.step ((e3.trans e4).trans e5) w5
        cases b4 with
        | false => exact ⟨F5, π5, S4, acc, b5, l⟩
        | true =>
          obtain ⟨⟨dk, S6⟩, l3, l⟩ := Option.bind_eq_some_iff.mp l
          obtain ⟨⟨d6, S7⟩, l4, l⟩ := Option.bind_eq_some_iff.mp l
          obtain ⟨key, l5, l⟩ := Option.bind_eq_some_iff.mp l
          split at l
          · rename_i hz
            refine hk E3 S4 dk S6 l3 Λ F5 π5 H5 σ4 (w4.step e5 w5) _ fun vk F6 π6 H6 e6 w6 r6 => ?_
            refine he E3 S6 d6 S7 l4 Λ F6 π6 H6 σ4 (w4.step (e5.trans e6) w6) _ fun v F7 π7 H7 e7 w7 r7 => ?_
            have b7 := b5.step (e6.trans e7) w7
            obtain ⟨us, u1, u2⟩ := b7.r
            have u3 := repK_m.mp u2
            exact ⟨us, key, keyOf_ok r6 l5, u1, by rw [u3.length]; exact hz, F7, π7, S7, _, b7.put hD ⟨_, upd_same, repK_m.mpr (u3.put r7 key)⟩, l⟩
          · cases l
    · cases l

/-! ### two loops -/
def lc2F (vs1 : List Nat) (tg : DFG) (t : DF Bool) (i1 : DF Src) (tg1 : DFG) (t1 : DF Bool) (el : DF D) (s : Src) (E : SE) : Nat → Nat → List D → List Ob → Option (List D × List Ob)
  | 0, i, acc, S => match s.at S i with
    | some none => some (acc, S)
    | _ => none
  | n + 1, i, acc, S => match s.at S i with
    | some none => some (acc, S)
    | some (some d) => (tg d E S).bind fun p => (t p.1 p.2).bind fun q => if q.1 = true then (i1 p.1 q.2).bind fun r => (lcF tg1 t1 el r.1 (wipeE p.1 vs1) (r.1.len r.2) 0 acc r.2).bind fun u => lc2F vs1 tg t i1 tg1 t1 el s E n (i + 1) u.1 u.2 else lc2F vs1 tg t i1 tg1 t1 el s E n (i + 1) acc q.2
    | none => none
def dLc2 (vs vs1 : List Nat) (fi : DF Src) (tg : DFG) (t : DF Bool) (i1 : DF Src) (tg1 : DFG) (t1 : DF Bool) (el : DF D) : DF (List D) := fun E S => (fi E S).bind fun p => lc2F vs1 tg t i1 tg1 t1 el p.1 (wipeE E vs) (p.1.len p.2) 0 [] p.2
theorem snd_lc2 {wi wi1 : TI} {g g1 : TG} {tt tt1 : TT} {te : TE} {vs vs1 ws ws1 : List Nat} {fi fi1 : DF Src} {fg fg1 : DFG} {ft ft1 : DF Bool} {fe : DF D} (hi : SndI K C wi fi) (hg : SndG K C ws g fg) (ht : SndT K C tt ft) (hi1 : SndI K C wi1 fi1) (hg1 : SndG K C ws1 g1 fg1) (ht1 : SndT K C tt1 ft1) (he : Snd K C te fe) (hw : ∀ j ∈ ws, j ∈ vs) (hw1 : ∀ j ∈ ws1, j ∈ vs1) :
    SndN K C (tLc2 wi g tt wi1 g1 tt1 te vs vs1) (dLc2 vs vs1 fi fg ft fi1 fg1 ft1 fe) := by
  intro E S xs S' q Λ F π H σ w Q p
  obtain ⟨⟨s, S1⟩, q1, q⟩ := Option.bind_eq_some_iff.mp q
  simp only at q
  refine hi E S s S1 q1 Λ F π H σ w _ fun J F1 π1 H1 e1 w1 gv => fun D hD => ?_
  refine ⟨fun i m H' => ∃ F' π' S2 acc, Bd K C Λ D F1 π1 H1 F' π' S2 H' (.lst acc) ∧ lc2F vs1 fg ft fi1 fg1 ft1 fe s (wipeE E vs) m i acc S2 = some (xs, S'),
    ⟨_, F1, π1, S1, [], Bd.start w1 hD ⟨[], upd_same, rfl⟩, q⟩, ?_⟩
  rintro i m H' ⟨F', π', S2, acc, b, l⟩
  have gi := gv i F' π' S2 H' b.e.sub b.w
  have stop : s.at S2 i = some none → (acc, S2) = (xs, S') → (J.stop i H' ∧ Q (.ref D) H') := fun z y => by
    cases y
    obtain ⟨us, u1, u2⟩ := b.r
    exact ⟨gi.1 z, p D us F' π' H' (e1.trans b.e) b.w (none_back e1 hD (w1.notin hD)) b.f b.n u1 u2⟩
  have env : EnvR K C F' π' (L2.wipe σ vs) (wipeE E vs) := (w.r.mono (e1.trans b.e).f (e1.trans b.e).p).wipe vs
  cases m with
  | zero =>
    simp only [lc2F] at l
    split at l
    · rename_i z
      exact .inl (stop z (Option.some.inj l))
    · cases l
  | succ m =>
    simp only [lc2F] at l
    split at l
    · rename_i z
      exact .inl (stop z (Option.some.inj l))
    · rename_i d z
      obtain ⟨⟨E3, S3⟩, l1, l⟩ := Option.bind_eq_some_iff.mp l
      obtain ⟨⟨b4, S4⟩, l2, l⟩ := Option.bind_eq_some_iff.mp l
      obtain ⟨go, yl⟩ := gi.2 d z
      refine .inr ⟨go, _, fun H2 h => ⟨m, Nat.lt_succ_self m, h⟩, fun x H3 y => ?_⟩
      obtain ⟨F3, e3, w3, r3⟩ := yl x H3 y
      refine hg d _ S2 E3 S3 l1 Λ F3 π' H3 _ x ⟨w3, env.mono e3.f e3.p⟩ r3 _ fun σ4 F4 π4 H4 e4 w4 k4 => ⟨?_, ?_⟩
      · rw [wipe_same k4.1 fun j hj => k4.2 j fun z => hj (hw j z)]
        exact wipe_twice σ vs
      · refine ht E3 S3 b4 S4 l2 Λ F4 π4 H4 σ4 w4 _ fun F5 π5 H5 e5 w5 => ?_
        have b5 := b.step ((e3.trans e4).trans e5) w5
        cases b4 with
        | false => exact ⟨F5, π5, S4, acc, b5, l⟩
        | true =>
          obtain ⟨⟨s6, S6⟩, l3, l⟩ := Option.bind_eq_some_iff.mp l
          have a5 := w4.step e5 w5
          refine hi1 E3 S4 s6 S6 l3 Λ F5 π5 H5 σ4 a5 _ fun J1 F6 π6 H6 e6 w6 gv6 => ?_
          have b6 := b5.step e6 w6
          refine ⟨fun j k H' => ∃ F' π' S2 acc, Bd K C Λ D F1 π1 H1 F' π' S2 H' (.lst acc) ∧ Sub F6 π6 F' π' ∧ (lcF fg1 ft1 fe s6 (wipeE E3 vs1) k j acc S2).bind (fun u => lc2F vs1 fg ft fi1 fg1 ft1 fe s (wipeE E vs) m (i + 1) u.1 u.2) = some (xs, S'),
            ⟨_, F6, π6, S6, acc, b6, ⟨Same.refl _, List.prefix_refl _⟩, l⟩, ?_⟩
          rintro j k H7 ⟨F7, π7, S7, acc7, b7, e7, l⟩
          have gj := gv6 j F7 π7 S7 H7 e7 b7.w
          have env7 : EnvR K C F7 π7 (L2.wipe σ4 vs1) (wipeE E3 vs1) := (a5.r.mono (e6.sub.trans e7).f (e6.sub.trans e7).p).wipe vs1
          have stop1 : s6.at S7 j = some none → (lc2F vs1 fg ft fi1 fg1 ft1 fe s (wipeE E vs) m (i + 1) acc7 S7 = some (xs, S')) → (J1.stop j H7 ∧ ∃ F' π' S2 acc, Bd K C Λ D F1 π1 H1 F' π' S2 H7 (.lst acc) ∧ lc2F vs1 fg ft fi1 fg1 ft1 fe s (wipeE E vs) m (i + 1) acc S2 = some (xs, S')) := fun z y => ⟨gj.1 z, F7, π7, S7, acc7, b7, y⟩
          cases k with
          | zero =>
            simp only [lcF] at l
            split at l
            · rename_i z
              exact .inl (stop1 z l)
            · cases l
          | succ k =>
            simp only [lcF] at l
            split at l
            · rename_i z
              exact .inl (stop1 z l)
            · rename_i d z
              obtain ⟨u, l, lr⟩ := Option.bind_eq_some_iff.mp l
              obtain ⟨⟨E8, S8⟩, l1, l⟩ := Option.bind_eq_some_iff.mp l
              obtain ⟨⟨b9, S9⟩, l2, l⟩ := Option.bind_eq_some_iff.mp l
              obtain ⟨go1, yl1⟩ := gj.2 d z
              refine .inr ⟨go1, _, fun H2 h => ⟨k, Nat.lt_succ_self k, h⟩, fun x H3 y => ?_⟩
              obtain ⟨Fa, ea, wa, ra⟩ := yl1 x H3 y
              refine hg1 d _ S7 E8 S8 l1 Λ Fa π7 H3 _ x ⟨wa, env7.mono ea.f ea.p⟩ ra _ fun σb Fb πb Hb eb wb kb => ⟨?_, ?_⟩
              · rw [wipe_same kb.1 fun j hj => kb.2 j fun z => hj (hw1 j z)]
                exact wipe_twice σ4 vs1
              · refine ht1 E8 S8 b9 S9 l2 Λ Fb πb Hb σb wb _ fun Fc πc Hc ec wc => ?_
                have eac := (ea.trans eb).trans ec
                have bc := b7.step eac wc
                cases b9 with
                | false => exact ⟨Fc, πc, S9, acc7, bc, e7.trans eac.sub, by rw [show lcF _ _ _ _ _ k (j + 1) acc7 S9 = some u from l]; exact lr⟩
                | true =>
                  obtain ⟨⟨dd, Sd⟩, l3, l⟩ := Option.bind_eq_some_iff.mp l
                  simp only at l
                  split at l
                  · rename_i hz
                    refine he E8 S9 dd Sd l3 Λ Fc πc Hc σb (wb.step ec wc) _ fun v Fd πd Hd ed wd rd => ?_
                    have bd := bc.step ed wd
                    obtain ⟨us, u1, u2⟩ := bd.r
                    have ex := e7.trans (eac.trans ed).sub
                    refine ⟨us, u1, by rw [u2.length]; exact hz, Fd, πd, Sd, acc7 ++ [dd], bd.put hD ⟨_, upd_same, u2.append (RepA.one rd)⟩, ex, by rw [show lcF _ _ _ _ _ k (j + 1) (acc7 ++ [dd]) Sd = some u from l]; exact lr⟩
                  · cases l
            · cases l
    · cases l
end
end DL

set_option Elab.async false
set_option linter.all false
set_option maxRecDepth 100000
set_option maxHeartbeats 2000000
/-! DL: the rules for dict comprehensions and comprehensions of two loops; what a def hands back, frozen. -/
namespace DL
open PySem PySem.Spec PyProof.Rows L2
section
variable {X : Cx} {C : Ctx} {tg iter elt kx tg1 iter1 : Expr} {ifs ifs1 : List Expr} {scope : Scope} {ws ws1 vs1 : List Nat} {pos spos : Pos} {fi fi1 : DF Src} {fg fg1 : DFG} {ft ft1 : DF Bool} {fe fk : DF D}
theorem de_dc (own : List (Str × Nat)) (new : Bool) (hN : X.N.Nodup) (hi : DI X C tg iter fi) (hg : ∀ p, DG (blkX X scope p) C ws tg fg) (ht : ∀ p, DTs (blkX X scope p) C ifs ft) (hk : ∀ p, DE (blkX X scope p) C kx fk) (he : ∀ p, DE (blkX X scope p) C elt fe)
    (hw : ∀ j ∈ ws, j ∈ own.map (·.2) := by decide) (ok : blkC X.N X.env.scope scope own = true := by first | decide +kernel | kernel_rfl) (hc : X.calm = true := by rfl) (hs : ∀ x, foldedSetIterable iter X.env x = pure x := by intro _; rfl) :
    DE X C (.DictComp kx elt [⟨tg, iter, ifs, 0⟩] scope pos) (if new then dNewD (dDc (own.map (·.2)) fi fg ft fk fe) else dTreeK (dDc (own.map (·.2)) fi fg ft fk fe)) := by
  obtain ⟨wi, i1, i2⟩ := hi
  obtain ⟨g, g1, g2⟩ := dg_all (Xs := blkX X scope) (K := X.K) (fun _ => rfl) hg
  obtain ⟨tt, t1, t2⟩ := dts_all (Xs := blkX X scope) (K := X.K) (fun _ => rfl) ht
  obtain ⟨tk, k1, k2⟩ := de_all (Xs := blkX X scope) (K := X.K) (fun _ => rfl) hk
  obtain ⟨te, e1, e2⟩ := de_all (Xs := blkX X scope) (K := X.K) (fun _ => rfl) he
  exact ⟨_, pe_dc (own := own) hc hN i1 (blkOk_by ok) (fun s H A cl fp => g1 ⟨s, H, A, cl, fp⟩) (fun s H A cl fp => t1 ⟨s, H, A, cl, fp⟩) (fun s H A cl fp => k1 ⟨s, H, A, cl, fp⟩) (fun s H A cl fp => e1 ⟨s, H, A, cl, fp⟩) hs, (snd_dc i2 g2 t2 k2 e2 hw).snd new⟩
/-- name = {..} on one line, the name a local -/
theorem run_setDc {i : Nat} {y : Str} {py : Pos} {own : List (Str × Nat)} {wi : TI} {g : TG} {tt : TT} {tk te : TE} (hc : X.calm = true) (hN : X.N.Nodup) (hy : X.N[i]? = some y) (hyl : X.env.scope.names.lookup y = some .local)
    (hsw : swapsWith (.DictComp kx elt [⟨tg, iter, ifs, 0⟩] scope pos) (some (.Name y py)) spos.line X.env = pure true) (hi : PI X tg iter wi) (ok : BlkOk X.N X.env.scope scope own)
    (hg : ∀ p, PG (blkX X scope p) tg g) (ht : ∀ p, PTs (blkX X scope p) ifs tt) (hk : ∀ p, PE (blkX X scope p) kx tk) (he : ∀ p, PE (blkX X scope p) elt te) (hs : ∀ x, foldedSetIterable iter X.env x = pure x) :
    PS X (.Assign [.Name y py] (.DictComp kx elt [⟨tg, iter, ifs, 0⟩] scope pos) spos) (tAsg (tDc wi g tt tk te (own.map (·.2))) (gName i)) := by
  constructor
  intro pins s σ H Dn I q
  rw [exec_Assign_Name_used _ _ _ _ hsw]
  apply wpAny_bind
  apply wpAny_standAt
  apply wpAny_bind
  show wpAny _ X.A (Bind.bind (comprehension (.DictComp kx elt [⟨tg, iter, ifs, 0⟩] scope pos) scope X.env (firstIterPos [⟨tg, iter, ifs, 0⟩] pos) newDict false (eval iter X.env) (some (assign (.Name y py) X.env))) fun _ => _) _ _ s
  replace q : tDc wi g tt tk te (own.map (·.2)) σ H (fun x H1 => gName i x σ H1 Dn.nx) := q
  apply wpAny_bind
  refine thn (dc_core (Qf := fun _ s' => SP X pins Dn .next s') hc hN I hi ok (fun s H A cl fp => hg ⟨s, H, A, cl, fp⟩) (fun s H A cl fp => ht ⟨s, H, A, cl, fp⟩) (fun s H A cl fp => hk ⟨s, H, A, cl, fp⟩) (fun s H A cl fp => he ⟨s, H, A, cl, fp⟩) hs q ?_) fun _ s2 h2 => wpAny_pure (wpAny_pure h2)
  rintro L A s2 m H2 I2 q2 hn ⟨k0, k1, k2, k3, k4, k5⟩
  show wpAny _ _ (assign (.Name y py) X.env (.ref L)) _ _ _
  refine wpAny_assign_Name (store_ok2 (v := V.ref L) I2 hN hy (.inl hyl) rfl ?_ (.inr hyl))
  rintro s3 I3 ⟨b, hb, hcase⟩
  have hne : A ≠ b := by
    cases hcase with
    | inl z => rw [z]; exact k1
    | inr z => exact fun e => k4 y b z e.symm
  refine ⟨m, hn.sameBut hb hne, fun h4 hb4 => ⟨_, H2, ?_, q2⟩⟩
  exact I3.turned (t' := s3.toks) (fun c o hc e => (hb4.2 c hc).trans e) k0 k1 k3 k4 k5
theorem ds_setDc (i : Nat) {y : Str} {py : Pos} (own : List (Str × Nat)) (new : Bool) (hN : X.N.Nodup) (hi : DI X C tg iter fi) (hg : ∀ p, DG (blkX X scope p) C ws tg fg) (ht : ∀ p, DTs (blkX X scope p) C ifs ft) (hk : ∀ p, DE (blkX X scope p) C kx fk) (he : ∀ p, DE (blkX X scope p) C elt fe)
    (hw : ∀ j ∈ ws, j ∈ own.map (·.2) := by decide) (ok : blkC X.N X.env.scope scope own = true := by first | decide +kernel | kernel_rfl) (hy : X.N[i]? = some y := by rfl) (hyl : X.env.scope.names.lookup y = some .local := by rfl)
    (hsw : swapsWith (.DictComp kx elt [⟨tg, iter, ifs, 0⟩] scope pos) (some (.Name y py)) spos.line X.env = pure true := by exact sw_true rfl rfl rfl (by first | decide +kernel | kernel_rfl)) (hc : X.calm = true := by rfl) (hs : ∀ x, foldedSetIterable iter X.env x = pure x := by intro _; rfl) :
    DSt X C (.Assign [.Name y py] (.DictComp kx elt [⟨tg, iter, ifs, 0⟩] scope pos) spos) (sAsg i (if new then dNewD (dDc (own.map (·.2)) fi fg ft fk fe) else dTreeK (dDc (own.map (·.2)) fi fg ft fk fe))) := by
  obtain ⟨wi, i1, i2⟩ := hi
  obtain ⟨g, g1, g2⟩ := dg_all (Xs := blkX X scope) (K := X.K) (fun _ => rfl) hg
  obtain ⟨tt, t1, t2⟩ := dts_all (Xs := blkX X scope) (K := X.K) (fun _ => rfl) ht
  obtain ⟨tk, k1, k2⟩ := de_all (Xs := blkX X scope) (K := X.K) (fun _ => rfl) hk
  obtain ⟨te, e1, e2⟩ := de_all (Xs := blkX X scope) (K := X.K) (fun _ => rfl) he
  exact ⟨_, run_setDc (own := own) hc hN hy hyl hsw i1 (blkOk_by ok) g1 t1 k1 e1 hs, snd_asg ((snd_dc i2 g2 t2 k2 e2 hw).snd new)⟩
theorem dn_lc2 (own : List (Str × Nat)) (vs1 : List Nat) (hN : X.N.Nodup) (hi : DI X C tg iter fi) (hg : ∀ p, DG (blkX X scope p) C ws tg fg) (ht : ∀ p, DTs (blkX X scope p) C ifs ft) (hi1 : ∀ p, DI (blkX X scope p) C tg1 iter1 fi1) (hg1 : ∀ p, DG (blkX X scope p) C ws1 tg1 fg1) (ht1 : ∀ p, DTs (blkX X scope p) C ifs1 ft1) (he : ∀ p, DE (blkX X scope p) C elt fe)
    (hw : ∀ j ∈ ws, j ∈ own.map (·.2) := by decide) (hw1 : ∀ j ∈ ws1, j ∈ vs1 := by decide) (hv : ∀ i ∈ vs1, i ∈ own.map (·.2) := by decide) (ok : blkC X.N X.env.scope scope own = true := by first | decide +kernel | kernel_rfl) (hc : X.calm = true := by rfl) (hs : ∀ x, foldedSetIterable iter X.env x = pure x := by intro _; rfl) (hs1 : ∀ env x, foldedSetIterable iter1 env x = pure x := by intro _ _; rfl) :
    DN X C (.ListComp elt [⟨tg, iter, ifs, 0⟩, ⟨tg1, iter1, ifs1, 0⟩] scope pos) (dLc2 (own.map (·.2)) vs1 fi fg ft fi1 fg1 ft1 fe) := by
  obtain ⟨wi, i1, i2⟩ := hi
  obtain ⟨g, g1, g2⟩ := dg_all (Xs := blkX X scope) (K := X.K) (fun _ => rfl) hg
  obtain ⟨tt, t1, t2⟩ := dts_all (Xs := blkX X scope) (K := X.K) (fun _ => rfl) ht
  obtain ⟨wi1, j1, j2⟩ := di_all (Xs := blkX X scope) (K := X.K) (fun _ => rfl) hi1
  obtain ⟨g', g3, g4⟩ := dg_all (Xs := blkX X scope) (K := X.K) (fun _ => rfl) hg1
  obtain ⟨tt', t3, t4⟩ := dts_all (Xs := blkX X scope) (K := X.K) (fun _ => rfl) ht1
  obtain ⟨te, e1, e2⟩ := de_all (Xs := blkX X scope) (K := X.K) (fun _ => rfl) he
  exact ⟨_, pe_lc2 (own := own) hc hN i1 (blkOk_by ok) hv (fun s H A cl fp => g1 ⟨s, H, A, cl, fp⟩) (fun s H A cl fp => t1 ⟨s, H, A, cl, fp⟩) (fun s H A cl fp => j1 ⟨s, H, A, cl, fp⟩) (fun s H A cl fp => g3 ⟨s, H, A, cl, fp⟩) (fun s H A cl fp => t3 ⟨s, H, A, cl, fp⟩) (fun s H A cl fp => e1 ⟨s, H, A, cl, fp⟩) hs hs1,
    snd_lc2 i2 g2 t2 j2 g4 t4 e2 hw hw1⟩
theorem SndN.snd {K : PySem.W.Frag} {t : TE} {f : DF (List D)} (h : SndN K C t f) (new : Bool) : Snd K C t (if new then dNew f else dTree f) := by
  cases new with
  | true =>
    intro E S d S' q Λ F π H σ w Q p
    obtain ⟨⟨xs, S1⟩, q1, q2⟩ := Option.map_eq_some_iff.mp q
    cases q2
    exact h E S xs S1 q1 Λ F π H σ w Q p.new
  | false =>
    intro E S d S' q Λ F π H σ w Q p
    obtain ⟨⟨xs, S1⟩, q1, q2⟩ := Option.map_eq_some_iff.mp q
    cases q2
    exact h E S xs S1 q1 Λ F π H σ w Q p.tree
theorem ds_setLc2 (new : Bool) (i : Nat) {y : Str} {py : Pos} (own : List (Str × Nat)) (vs1 : List Nat) (hN : X.N.Nodup) (hi : DI X C tg iter fi) (hg : ∀ p, DG (blkX X scope p) C ws tg fg) (ht : ∀ p, DTs (blkX X scope p) C ifs ft) (hi1 : ∀ p, DI (blkX X scope p) C tg1 iter1 fi1) (hg1 : ∀ p, DG (blkX X scope p) C ws1 tg1 fg1) (ht1 : ∀ p, DTs (blkX X scope p) C ifs1 ft1) (he : ∀ p, DE (blkX X scope p) C elt fe)
    (hw : ∀ j ∈ ws, j ∈ own.map (·.2) := by decide) (hw1 : ∀ j ∈ ws1, j ∈ vs1 := by decide) (hv : ∀ i ∈ vs1, i ∈ own.map (·.2) := by decide) (ok : blkC X.N X.env.scope scope own = true := by first | decide +kernel | kernel_rfl) (hy : X.N[i]? = some y := by rfl) (hyl : X.env.scope.names.lookup y = some .local := by rfl)
    (hsw : swapsWith (.ListComp elt [⟨tg, iter, ifs, 0⟩, ⟨tg1, iter1, ifs1, 0⟩] scope pos) (some (.Name y py)) spos.line X.env = pure true := by exact sw_true rfl rfl rfl (by first | decide +kernel | kernel_rfl)) (hc : X.calm = true := by rfl) (hs : ∀ x, foldedSetIterable iter X.env x = pure x := by intro _; rfl) (hs1 : ∀ env x, foldedSetIterable iter1 env x = pure x := by intro _ _; rfl) :
    DSt X C (.Assign [.Name y py] (.ListComp elt [⟨tg, iter, ifs, 0⟩, ⟨tg1, iter1, ifs1, 0⟩] scope pos) spos) (sAsg i (if new then dNew (dLc2 (own.map (·.2)) vs1 fi fg ft fi1 fg1 ft1 fe) else dTree (dLc2 (own.map (·.2)) vs1 fi fg ft fi1 fg1 ft1 fe))) := by
  obtain ⟨wi, i1, i2⟩ := hi
  obtain ⟨g, g1, g2⟩ := dg_all (Xs := blkX X scope) (K := X.K) (fun _ => rfl) hg
  obtain ⟨tt, t1, t2⟩ := dts_all (Xs := blkX X scope) (K := X.K) (fun _ => rfl) ht
  obtain ⟨wi1, j1, j2⟩ := di_all (Xs := blkX X scope) (K := X.K) (fun _ => rfl) hi1
  obtain ⟨g', g3, g4⟩ := dg_all (Xs := blkX X scope) (K := X.K) (fun _ => rfl) hg1
  obtain ⟨tt', t3, t4⟩ := dts_all (Xs := blkX X scope) (K := X.K) (fun _ => rfl) ht1
  obtain ⟨te, e1, e2⟩ := de_all (Xs := blkX X scope) (K := X.K) (fun _ => rfl) he
  exact ⟨_, ps_setLc2 (own := own) hc hN hy hyl hsw i1 (blkOk_by ok) hv (fun s H A cl fp => g1 ⟨s, H, A, cl, fp⟩) (fun s H A cl fp => t1 ⟨s, H, A, cl, fp⟩) (fun s H A cl fp => j1 ⟨s, H, A, cl, fp⟩) (fun s H A cl fp => g3 ⟨s, H, A, cl, fp⟩) (fun s H A cl fp => t3 ⟨s, H, A, cl, fp⟩) (fun s H A cl fp => e1 ⟨s, H, A, cl, fp⟩) hs hs1,
    snd_asg ((snd_lc2 i2 g2 t2 j2 g4 t4 e2 hw hw1).snd new)⟩
end

/-! ### frozen: what lies behind the n-th thing of the store becomes data -/
section
variable (n : Nat) (S : List Ob)
mutual
/-- d' (told first) is d with the things behind n told -/
def Rz : D → D → Prop
  | .non, d => d = .non
  | .bl b, d => d = .bl b
  | .int i, d => d = .int i
  | .str x, d => d = .str x
  | .lst ys, d => (∃ xs, d = .lst xs ∧ RzA ys xs) ∨ ∃ k xs, n ≤ k ∧ d = .ptr k ∧ S[k]? = some (.lst xs) ∧ RzA ys xs
  | .tup ys, d => ∃ xs, d = .tup xs ∧ RzA ys xs
  | .ktp ys, d => ∃ xs, d = .ktp xs ∧ RzA ys xs
  | .dK ys, d => (∃ xs, d = .dK xs ∧ RzK ys xs) ∨ ∃ k xs, n ≤ k ∧ d = .ptr k ∧ S[k]? = some (.dK xs) ∧ RzK ys xs
  | .dT ys, d => (∃ xs, d = .dT xs ∧ RzT ys xs) ∨ ∃ k xs, n ≤ k ∧ d = .ptr k ∧ S[k]? = some (.dT xs) ∧ RzT ys xs
  | .obj c ys, d => (∃ xs, d = .obj c xs ∧ RzF ys xs) ∨ ∃ k xs, n ≤ k ∧ d = .ptr k ∧ S[k]? = some (.ins c xs) ∧ RzF ys xs
  | .ptr k, d => d = .ptr k ∧ k < n
  | .scr, d => d = .scr
  | .ty m, d => d = .ty m
  | .cls c, d => d = .cls c
termination_by structural x => x
def RzA : List D → List D → Prop
  | [], xs => xs = []
  | y :: ys, xs => ∃ x r, xs = x :: r ∧ Rz y x ∧ RzA ys r
termination_by structural x => x
def RzK : List (Key × D) → List (Key × D) → Prop
  | [], xs => xs = []
  | (k, y) :: ys, xs => ∃ x r, xs = (k, x) :: r ∧ Rz y x ∧ RzK ys r
termination_by structural x => x
def RzT : List (List Key × D) → List (List Key × D) → Prop
  | [], xs => xs = []
  | (k, y) :: ys, xs => ∃ x r, xs = (k, x) :: r ∧ Rz y x ∧ RzT ys r
termination_by structural x => x
def RzF : List (Str × D) → List (Str × D) → Prop
  | [], xs => xs = []
  | (k, y) :: ys, xs => ∃ x r, xs = (k, x) :: r ∧ Rz y x ∧ RzF ys r
termination_by structural x => x
end
def RzO : Ob → Ob → Prop
  | .lst ys, .lst xs => RzA n S ys xs
  | .dK ys, .dK xs => RzK n S ys xs
  | .dT ys, .dT xs => RzT n S ys xs
  | .ins c ys, .ins c' xs => c = c' ∧ RzF n S ys xs
  | .lkK ys, .lkK xs => RzK n S ys xs
  | .lkT ys, .lkT xs => RzT n S ys xs
  | _, _ => False
end
section
variable {K : PySem.W.Frag} {C : Ctx} {Λ : Lk} {n : Nat} {S : List Ob} {F F' H : Hp} {π π' : List Addr}
/-- F' is F with all things behind n frozen, π' the first n -/
structure Frz (K : PySem.W.Frag) (C : Ctx) (n : Nat) (S : List Ob) (F : Hp) (π : List Addr) (H F' : Hp) (π' : List Addr) : Prop where
  s : Same F F'
  lo : ∀ k a, k < n → π[k]? = some a → π'[k]? = some a
  hi : ∀ k ob a, n ≤ k → S[k]? = some ob → π[k]? = some a → F' a = H a ∧ ∃ lo, ObR K C F π lo H a ob
mutual
theorem Rz.rep (z : Frz K C n S F π H F' π') : ∀ (d' d : D) (v : V), Rz n S d' d → Rep K C F π d v → Rep K C F' π' d' v
  | .non, d, v, h, r => by cases (show d = .non from h); exact r
  | .bl b, d, v, h, r => by cases (show d = .bl b from h); exact r
  | .int b, d, v, h, r => by cases (show d = .int b from h); exact r
  | .str b, d, v, h, r => by cases (show d = .str b from h); exact r
  | .scr, d, v, h, r => by
    cases (show d = .scr from h)
    obtain ⟨a, q1, q2⟩ := r
    exact ⟨a, q1, Same.seq z.s q2⟩
  | .ty b, d, v, h, r => by cases (show d = .ty b from h); exact r
  | .cls b, d, v, h, r => by cases (show d = .cls b from h); exact r
  | .ptr k, d, v, h, r => by
    obtain ⟨rfl, hk⟩ := h
    obtain ⟨a, q1, q2⟩ := r
    exact ⟨a, q1, z.lo k a hk q2⟩
  | .tup ys, d, v, h, r => by
    obtain ⟨xs, rfl, h⟩ := h
    obtain ⟨a, vs, q1, q2, q3⟩ := r
    exact ⟨a, vs, q1, z.s _ _ q2, RzA.rep z ys xs vs h q3⟩
  | .ktp ys, d, v, h, r => by
    obtain ⟨xs, rfl, h⟩ := h
    obtain ⟨a, vs, q1, q2, q3⟩ := r
    refine ⟨a, vs, q1, ?_, RzA.rep z ys xs vs h q3⟩
    rcases q2 with (q2 | ⟨o, q2⟩) | q2
    · exact .inl (.inl (z.s _ _ q2))
    · exact .inl (.inr ⟨o, z.s _ _ q2⟩)
    · exact .inr q2
  | .lst ys, d, v, h, r => by
    rcases h with ⟨xs, rfl, h⟩ | ⟨k, xs, hk, rfl, hs, h⟩
    · obtain ⟨a, vs, q1, q2, q3⟩ := r
      exact ⟨a, vs, q1, z.s _ _ q2, RzA.rep z ys xs vs h q3⟩
    · obtain ⟨a, q1, q2⟩ := r
      obtain ⟨e, lo, vs, q3, q4⟩ := z.hi k _ a hk hs q2
      exact ⟨a, vs, q1, e.trans q3, RzA.rep z ys xs vs h q4⟩
  | .dK ys, d, v, h, r => by
    rcases h with ⟨xs, rfl, h⟩ | ⟨k, xs, hk, rfl, hs, h⟩
    · obtain ⟨a, vs, q1, q2, q3⟩ := r
      exact ⟨a, vs, q1, z.s _ _ q2, RzK.rep z ys xs vs h q3⟩
    · obtain ⟨a, q1, q2⟩ := r
      obtain ⟨e, lo, vs, q3, q4⟩ := z.hi k _ a hk hs q2
      exact ⟨a, vs, q1, e.trans q3, RzK.rep z ys xs vs h q4⟩
  | .dT ys, d, v, h, r => by
    rcases h with ⟨xs, rfl, h⟩ | ⟨k, xs, hk, rfl, hs, h⟩
    · obtain ⟨a, vs, q1, q2, q3⟩ := r
      exact ⟨a, vs, q1, z.s _ _ q2, RzT.rep z ys xs vs h q3⟩
    · obtain ⟨a, q1, q2⟩ := r
      obtain ⟨e, lo, vs, q3, q4⟩ := z.hi k _ a hk hs q2
      exact ⟨a, vs, q1, e.trans q3, RzT.rep z ys xs vs h q4⟩
  | .obj c ys, d, v, h, r => by
    rcases h with ⟨xs, rfl, h⟩ | ⟨k, xs, hk, rfl, hs, h⟩
    · obtain ⟨a, dx, vs, q1, q2, q3⟩ := r
      exact ⟨a, dx, vs, q1, z.s _ _ q2, RzF.rep z ys xs vs h q3⟩
    · obtain ⟨a, q1, q2⟩ := r
      obtain ⟨e, lo, dx, vs, q3, q4⟩ := z.hi k _ a hk hs q2
      exact ⟨a, dx, vs, q1, e.trans q3, RzF.rep z ys xs vs h q4⟩
theorem RzA.rep (z : Frz K C n S F π H F' π') : ∀ (ys xs : List D) (vs : List V), RzA n S ys xs → RepA K C F π xs vs → RepA K C F' π' ys vs
  | [], xs, vs, h, r => by cases (show xs = [] from h); exact r
  | y :: ys, xs, vs, h, r => by
    obtain ⟨x, t, rfl, h1, h2⟩ := h
    obtain ⟨v, us, q1, q2, q3⟩ := r
    exact ⟨v, us, q1, Rz.rep z y x v h1 q2, RzA.rep z ys t us h2 q3⟩
theorem RzK.rep (z : Frz K C n S F π H F' π') : ∀ (ys xs : List (Key × D)) (vs : List (Key × V)), RzK n S ys xs → RepK K C F π xs vs → RepK K C F' π' ys vs
  | [], xs, vs, h, r => by cases (show xs = [] from h); exact r
  | (k, y) :: ys, xs, vs, h, r => by
    obtain ⟨x, t, rfl, h1, h2⟩ := h
    obtain ⟨v, us, q1, q2, q3⟩ := r
    exact ⟨v, us, q1, Rz.rep z y x v h1 q2, RzK.rep z ys t us h2 q3⟩
theorem RzT.rep (z : Frz K C n S F π H F' π') : ∀ (ys xs : List (List Key × D)) (vs : List (List Key × V)), RzT n S ys xs → RepT K C F π xs vs → RepT K C F' π' ys vs
  | [], xs, vs, h, r => by cases (show xs = [] from h); exact r
  | (k, y) :: ys, xs, vs, h, r => by
    obtain ⟨x, t, rfl, h1, h2⟩ := h
    obtain ⟨v, us, q1, q2, q3⟩ := r
    exact ⟨v, us, q1, Rz.rep z y x v h1 q2, RzT.rep z ys t us h2 q3⟩
theorem RzF.rep (z : Frz K C n S F π H F' π') : ∀ (ys xs : List (Str × D)) (vs : List (Str × V)), RzF n S ys xs → RepF K C F π xs vs → RepF K C F' π' ys vs
  | [], xs, vs, h, r => by cases (show xs = [] from h); exact r
  | (k, y) :: ys, xs, vs, h, r => by
    obtain ⟨x, t, rfl, h1, h2⟩ := h
    obtain ⟨v, us, q1, q2, q3⟩ := r
    exact ⟨v, us, q1, Rz.rep z y x v h1 q2, RzF.rep z ys t us h2 q3⟩
end
theorem RzO.ob (z : Frz K C n S F π H F' π') {lo : Option (Obj × HO)} {p : Addr} : ∀ (o' o : Ob), RzO n S o' o → ObR K C F π lo H p o → ObR K C F' π' lo H p o'
  | .lst ys, o, h, r => by
    cases o with
    | lst xs => obtain ⟨vs, a, b⟩ := r; exact ⟨vs, a, RzA.rep z ys xs vs h b⟩
    | _ => exact h.elim
  | .dK ys, o, h, r => by
    cases o with
    | dK xs => obtain ⟨vs, a, b⟩ := r; exact ⟨vs, a, RzK.rep z ys xs vs h b⟩
    | _ => exact h.elim
  | .dT ys, o, h, r => by
    cases o with
    | dT xs => obtain ⟨vs, a, b⟩ := r; exact ⟨vs, a, RzT.rep z ys xs vs h b⟩
    | _ => exact h.elim
  | .ins c ys, o, h, r => by
    cases o with
    | ins c' xs => obtain ⟨dx, vs, a, b⟩ := r; obtain ⟨rfl, h⟩ := h; exact ⟨dx, vs, a, RzF.rep z ys xs vs h b⟩
    | _ => exact h.elim
  | .lkK ys, o, h, r => by
    cases o with
    | lkK xs => obtain ⟨oo, vs, a, b, c⟩ := r; exact ⟨oo, vs, a, b, RzK.rep z ys xs vs h c⟩
    | _ => exact h.elim
  | .lkT ys, o, h, r => by
    cases o with
    | lkT xs => obtain ⟨oo, vs, a, b, c⟩ := r; exact ⟨oo, vs, a, b, RzT.rep z ys xs vs h c⟩
    | _ => exact h.elim
end
/-! ### data whose pointers lie below n -/
mutual
def bndD (n : Nat) : D → Bool
  | .lst xs | .tup xs | .ktp xs => bndA n xs
  | .dK xs => bndK n xs
  | .dT xs => bndT n xs
  | .obj _ xs => bndF n xs
  | .ptr k => decide (k < n)
  | _ => true
termination_by structural x => x
def bndA (n : Nat) : List D → Bool
  | [] => true
  | x :: xs => bndD n x && bndA n xs
termination_by structural x => x
def bndK (n : Nat) : List (Key × D) → Bool
  | [] => true
  | (_, x) :: xs => bndD n x && bndK n xs
termination_by structural x => x
def bndT (n : Nat) : List (List Key × D) → Bool
  | [] => true
  | (_, x) :: xs => bndD n x && bndT n xs
termination_by structural x => x
def bndF (n : Nat) : List (Str × D) → Bool
  | [] => true
  | (_, x) :: xs => bndD n x && bndF n xs
termination_by structural x => x
end
def bndO (n : Nat) : Ob → Bool
  | .lst xs => bndA n xs
  | .dK xs | .lkK xs => bndK n xs
  | .dT xs | .lkT xs => bndT n xs
  | .ins _ xs => bndF n xs
/-- no pointers at all -/
abbrev pureD (d : D) : Bool := bndD 0 d
section
variable {n : Nat} {S : List Ob}
mutual
theorem rz_bnd : ∀ d : D, bndD n d = true → Rz n S d d
  | .non, _ => rfl
  | .bl _, _ => rfl
  | .int _, _ => rfl
  | .str _, _ => rfl
  | .scr, _ => rfl
  | .ty _, _ => rfl
  | .cls _, _ => rfl
  | .ptr _, h => ⟨rfl, of_decide_eq_true h⟩
  | .lst xs, h => .inl ⟨xs, rfl, rzA_bnd xs h⟩
  | .tup xs, h => ⟨xs, rfl, rzA_bnd xs h⟩
  | .ktp xs, h => ⟨xs, rfl, rzA_bnd xs h⟩
  | .dK xs, h => .inl ⟨xs, rfl, rzK_bnd xs h⟩
  | .dT xs, h => .inl ⟨xs, rfl, rzT_bnd xs h⟩
  | .obj c xs, h => .inl ⟨xs, rfl, rzF_bnd xs h⟩
theorem rzA_bnd : ∀ d : List D, bndA n d = true → RzA n S d d
  | [], _ => rfl
  | x :: xs, h => by
    obtain ⟨h1, h2⟩ := Bool.and_eq_true_iff.mp h
    exact ⟨x, xs, rfl, rz_bnd x h1, rzA_bnd xs h2⟩
theorem rzK_bnd : ∀ d : List (Key × D), bndK n d = true → RzK n S d d
  | [], _ => rfl
  | (k, x) :: xs, h => by
    obtain ⟨h1, h2⟩ := Bool.and_eq_true_iff.mp h
    exact ⟨x, xs, rfl, rz_bnd x h1, rzK_bnd xs h2⟩
theorem rzT_bnd : ∀ d : List (List Key × D), bndT n d = true → RzT n S d d
  | [], _ => rfl
  | (k, x) :: xs, h => by
    obtain ⟨h1, h2⟩ := Bool.and_eq_true_iff.mp h
    exact ⟨x, xs, rfl, rz_bnd x h1, rzT_bnd xs h2⟩
theorem rzF_bnd : ∀ d : List (Str × D), bndF n d = true → RzF n S d d
  | [], _ => rfl
  | (k, x) :: xs, h => by
    obtain ⟨h1, h2⟩ := Bool.and_eq_true_iff.mp h
    exact ⟨x, xs, rfl, rz_bnd x h1, rzF_bnd xs h2⟩
end
theorem rzO_bnd : ∀ o : Ob, bndO n o = true → RzO n S o o
  | .lst xs, h => rzA_bnd xs h
  | .dK xs, h => rzK_bnd xs h
  | .dT xs, h => rzT_bnd xs h
  | .lkK xs, h => rzK_bnd xs h
  | .lkT xs, h => rzT_bnd xs h
  | .ins c xs, h => ⟨rfl, rzF_bnd xs h⟩
end
section
variable {n m : Nat} (hm : n ≤ m)
include hm
mutual
theorem bndD.mono : ∀ d : D, bndD n d = true → bndD m d = true
  | .non, _ => rfl
  | .bl _, _ => rfl
  | .int _, _ => rfl
  | .str _, _ => rfl
  | .scr, _ => rfl
  | .ty _, _ => rfl
  | .cls _, _ => rfl
  | .ptr _, h => decide_eq_true (Nat.lt_of_lt_of_le (of_decide_eq_true h) hm)
  | .lst xs, h => bndA.mono xs h
  | .tup xs, h => bndA.mono xs h
  | .ktp xs, h => bndA.mono xs h
  | .dK xs, h => bndK.mono xs h
  | .dT xs, h => bndT.mono xs h
  | .obj c xs, h => bndF.mono xs h
theorem bndA.mono : ∀ d : List D, bndA n d = true → bndA m d = true
  | [], _ => rfl
  | x :: xs, h => by
    obtain ⟨h1, h2⟩ := Bool.and_eq_true_iff.mp h
    exact Bool.and_eq_true_iff.mpr ⟨bndD.mono x h1, bndA.mono xs h2⟩
theorem bndK.mono : ∀ d : List (Key × D), bndK n d = true → bndK m d = true
  | [], _ => rfl
  | (k, x) :: xs, h => by
    obtain ⟨h1, h2⟩ := Bool.and_eq_true_iff.mp h
    exact Bool.and_eq_true_iff.mpr ⟨bndD.mono x h1, bndK.mono xs h2⟩
theorem bndT.mono : ∀ d : List (List Key × D), bndT n d = true → bndT m d = true
  | [], _ => rfl
  | (k, x) :: xs, h => by
    obtain ⟨h1, h2⟩ := Bool.and_eq_true_iff.mp h
    exact Bool.and_eq_true_iff.mpr ⟨bndD.mono x h1, bndT.mono xs h2⟩
theorem bndF.mono : ∀ d : List (Str × D), bndF n d = true → bndF m d = true
  | [], _ => rfl
  | (k, x) :: xs, h => by
    obtain ⟨h1, h2⟩ := Bool.and_eq_true_iff.mp h
    exact Bool.and_eq_true_iff.mpr ⟨bndD.mono x h1, bndF.mono xs h2⟩
end
end
section
variable {K : PySem.W.Frag} {C : Ctx} {F : Hp} {π : List Addr}
mutual
theorem rep_bnd : ∀ (d : D) (v : V), Rep K C F π d v → bndD π.length d = true
  | .non, _, _ => rfl
  | .bl _, _, _ => rfl
  | .int _, _, _ => rfl
  | .str _, _, _ => rfl
  | .scr, _, _ => rfl
  | .ty _, _, _ => rfl
  | .cls _, _, _ => rfl
  | .ptr k, v, h => by
    obtain ⟨a, _, h⟩ := h
    exact decide_eq_true (List.getElem?_eq_some_iff.mp h).1
  | .lst xs, v, h => let ⟨_, _, _, _, q⟩ := h; repA_bnd xs _ q
  | .tup xs, v, h => let ⟨_, _, _, _, q⟩ := h; repA_bnd xs _ q
  | .ktp xs, v, h => let ⟨_, _, _, _, q⟩ := h; repA_bnd xs _ q
  | .dK xs, v, h => let ⟨_, _, _, _, q⟩ := h; repK_bnd xs _ q
  | .dT xs, v, h => let ⟨_, _, _, _, q⟩ := h; repT_bnd xs _ q
  | .obj c xs, v, h => let ⟨_, _, _, _, _, q⟩ := h; repF_bnd xs _ q
theorem repA_bnd : ∀ (d : List D) (v : List V), RepA K C F π d v → bndA π.length d = true
  | [], _, _ => rfl
  | x :: xs, v, h => by
    obtain ⟨_, _, _, h1, h2⟩ := h
    exact Bool.and_eq_true_iff.mpr ⟨rep_bnd x _ h1, repA_bnd xs _ h2⟩
theorem repK_bnd : ∀ (d : List (Key × D)) (v : List (Key × V)), RepK K C F π d v → bndK π.length d = true
  | [], _, _ => rfl
  | (k, x) :: xs, v, h => by
    obtain ⟨_, _, _, h1, h2⟩ := h
    exact Bool.and_eq_true_iff.mpr ⟨rep_bnd x _ h1, repK_bnd xs _ h2⟩
theorem repT_bnd : ∀ (d : List (List Key × D)) (v : List (List Key × V)), RepT K C F π d v → bndT π.length d = true
  | [], _, _ => rfl
  | (k, x) :: xs, v, h => by
    obtain ⟨_, _, _, h1, h2⟩ := h
    exact Bool.and_eq_true_iff.mpr ⟨rep_bnd x _ h1, repT_bnd xs _ h2⟩
theorem repF_bnd : ∀ (d : List (Str × D)) (v : List (Str × V)), RepF K C F π d v → bndF π.length d = true
  | [], _, _ => rfl
  | (k, x) :: xs, v, h => by
    obtain ⟨_, _, _, h1, h2⟩ := h
    exact Bool.and_eq_true_iff.mpr ⟨rep_bnd x _ h1, repF_bnd xs _ h2⟩
end
theorem obR_bnd {lo : Option (Obj × HO)} {H : Hp} {p : Addr} : ∀ o : Ob, ObR K C F π lo H p o → bndO π.length o = true
  | .lst xs, ⟨_, _, q⟩ => repA_bnd xs _ q
  | .dK xs, ⟨_, _, q⟩ => repK_bnd xs _ q
  | .dT xs, ⟨_, _, q⟩ => repT_bnd xs _ q
  | .lkK xs, ⟨_, _, _, _, q⟩ => repK_bnd xs _ q
  | .lkT xs, ⟨_, _, _, _, q⟩ => repT_bnd xs _ q
  | .ins c xs, ⟨_, _, _, q⟩ => repF_bnd xs _ q
end
/-- the store S' is the first things of S, frozen, S0 the store at the start -/
structure RzS (S0 S S' : List Ob) : Prop where
  len : S'.length = S0.length
  ob : ∀ (k : Nat) (o : Ob), S'[k]? = some o → ∃ o1, S[k]? = some o1 ∧ (RzO S0.length S o o1 ∨ (S0[k]? = some o ∧ o1 = o))
/-- a computation, frozen -/
def RzR (S0 : List Ob) (r r' : D × List Ob) : Prop := Rz S0.length r.2 r'.1 r.1 ∧ RzS S0 r.2 r'.2
theorem Post.frz {K : PySem.W.Frag} {C : Ctx} {Λ : Lk} {F H : Hp} {π : List Addr} {S0 S S' : List Ob} {d d' : D} {Q : VK} (w0 : Wd K C Λ F π S0 H) (p : Post K C Λ F π H S' d' Q) (h : RzR S0 (d, S) (d', S')) : Post K C Λ F π H S d Q := fun v F1 π1 H1 e w r => by
  obtain ⟨h1, h2⟩ := h
  simp only at h1 h2
  obtain ⟨ρ, hρ⟩ := e.p
  have hlen : π.length = S0.length := w0.len
  have hnd : (π ++ ρ).Nodup := by rw [hρ]; exact w.nd
  have hdis : ∀ a ∈ π, a ∉ ρ := fun a h3 h4 => (List.nodup_append.mp hnd).2.2 a h3 a h4 rfl
  let F2 : Hp := fun a => open Classical in if a ∈ ρ then H1 a else F1 a
  have f_in : ∀ a, a ∈ ρ → F2 a = H1 a := fun a h => if_pos h
  have f_out : ∀ a, a ∉ ρ → F2 a = F1 a := fun a h => if_neg h
  have s12 : Same F1 F2 := fun a o q => by
    have : a ∉ ρ := fun h => by
      have := w.fr a (by rw [← hρ]; exact List.mem_append_right _ h)
      rw [q] at this
      cases this
    rw [f_out a this]
    exact q
  have z : Frz K C S0.length S F1 π1 H1 F2 π := by
    refine ⟨s12, fun k a hk q => ?_, fun k ob a hk q1 q2 => ⟨f_in a ?_, Λ k, w.ob k ob a q1 q2⟩⟩
    · rw [← hρ, List.getElem?_append_left (by rw [hlen]; exact hk)] at q
      exact q
    · rw [← hρ, List.getElem?_append_right (by rw [hlen]; exact hk)] at q2
      exact List.mem_of_getElem? q2
  refine p v F2 π H1 ⟨e.f.trans s12, List.prefix_refl _, e.k, fun a o _ n => n, fun a o q n y => ?_⟩ ⟨fun a o q => ?_, hlen.trans h2.len.symm, w0.nd, fun a ha => ?_, fun k o a q1 q2 => ?_⟩ (Rz.rep z _ _ _ h1 r)
  · have : a ∉ ρ := fun h => e.n a o q n (by rw [← hρ]; exact List.mem_append_right _ h)
    rw [f_out a this]
    exact e.m a o q n y
  · by_cases ha : a ∈ ρ
    · rw [f_in a ha] at q
      exact q
    · rw [f_out a ha] at q
      exact w.ext a o q
  · rw [f_out a (hdis a ha)]
    exact w.fr a (by rw [← hρ]; exact List.mem_append_left _ ha)
  · obtain ⟨o1, q3, q4⟩ := h2.ob k o q1
    have r2 := w.ob k o1 a q3 (pre_get e.p q2)
    rcases q4 with q4 | ⟨q4, rfl⟩
    · exact RzO.ob z o o1 q4 r2
    · refine RzO.ob z o1 o1 (rzO_bnd o1 ?_) r2
      have := obR_bnd o1 (w0.ob k o1 a q4 q2)
      rwa [hlen] at this
theorem RzR.same {S0 T : List Ob} {d d' : D} (h : Rz S0.length (S0 ++ T) d' d) : RzR S0 (d, S0 ++ T) (d', S0) :=
  ⟨h, rfl, fun k o q => ⟨o, by rw [List.getElem?_append_left (List.getElem?_eq_some_iff.mp q).1]; exact q, .inr ⟨q, rfl⟩⟩⟩
theorem RzR.set {S0 T : List Ob} {d d' : D} {k : Nat} {ob : Ob} (h : Rz S0.length (S0.set k ob ++ T) d' d) (hb : bndO S0.length ob = true) : RzR S0 (d, S0.set k ob ++ T) (d', S0.set k ob) := by
  refine ⟨h, List.length_set, fun j o q => ⟨o, by rw [List.getElem?_append_left (List.getElem?_eq_some_iff.mp q).1]; exact q, ?_⟩⟩
  by_cases e : k = j
  · subst e
    have hk := (List.getElem?_eq_some_iff.mp q).1
    rw [List.length_set] at hk
    rw [List.getElem?_set_self hk] at q
    cases q
    exact .inl (rzO_bnd _ hb)
  · rw [List.getElem?_set_ne e] at q
    exact .inr ⟨q, rfl⟩
/-- another description: what it leaves behind is frozen -/
theorem Fn.frz {P : Program} {w : World} {K : PySem.W.Frag} {mg : Str → Option Value} {base : Heap} {C : Ctx} {k : Nat} {x : Str} {n : Nat} {sem sem' : List D → List Ob → Option (D × List Ob)} (h : Fn P w K mg base C k x n sem) (hs : ∀ ds S r, ds.length = n → sem' ds S = some r → ∃ r', sem ds S = some r' ∧ RzR S r' r) : Fn P w K mg base C k x n sem' := by
  obtain ⟨f, fd, ps, a, b, c, d⟩ := h.ex
  refine ⟨f, fd, ps, a.imp ?_, b, c, d⟩
  rintro vs H Q E ⟨Λ, F, π, S, ds, d, S', hl, wd, r, q, p⟩
  obtain ⟨⟨d1, S1⟩, q1, q2⟩ := hs ds S _ hl q
  exact ⟨Λ, F, π, S, ds, d1, S1, hl, wd, r, q1, p.frz wd q2⟩
end DL

set_option Elab.async false
set_option linter.all false
set_option maxRecDepth 100000
set_option maxHeartbeats 2000000
/-! DL: repr; defs that lean on the guards; the end. -/
namespace DL
open PySem PySem.Spec PyProof.Rows L2

/-! ### repr -/
def okP (p : PyData) : Prop := p.showable = true ∧ p.hasDict = false ∧ p.depth ≤ 60 ∧ p.shown.length ≤ sizeLine
instance (p : PyData) : Decidable (okP p) := by unfold okP; infer_instance
def fRepr (S : List Ob) : List D → Option D
  | [d] => (toP S 60 d).bind fun p => if okP p then some (.str p.shown) else none
  | _ => none
def rRepr (K : PySem.W.Frag) : List V → Hp → VK → Prop := fun xs H Q => ∃ v p, xs = [v] ∧ Dp K H v p ∧ okP p ∧ Q (.str p.shown) H
theorem call_repr {X : Cx} {k : Nat} (hr : Room k X.A) (hg : X.A.guards = some []) : CallR X (.builtin "repr") (rRepr X.K) := by
  rintro pins s σ H xs us Q I r ⟨v, p, rfl, hd, ⟨h1, h2, h3, h4⟩, q⟩
  obtain ⟨u, rfl, ru⟩ := vals1 r
  have done : ∀ (tk : Nat) (t : Tok), EP X pins σ Q (.str p.shown t) { s with toks := tk } := fun tk t => ⟨.str p.shown, H, I.tok _, ⟨t, rfl⟩, q⟩
  obtain ⟨as, rd⟩ := Dp.reads I p v u hd ru
  have room := hr.units
  have byref : ∀ a, u = .ref a → wpAny (model X.prog X.w) X.A (call (.builtin "repr") [u]) (EP X pins σ Q) X.xe s := by
    rintro a rfl
    refine repr_of_reads' rd h1 (PyData.noDict_hsm h2) hg (by omega) (fun _ _ e => e) (fun h' t tk hk => ?_) h4
    exact ⟨.str p.shown, H, I.kept (t' := tk) fun b o e => hk b o e, ⟨t, rfl⟩, q⟩
  cases rd with
  | none => exact PySem.P.repr_of_none (done _ _)
  | bool b => exact PySem.P.repr_of_bool (by cases b <;> exact done _ _)
  | int i t => exact PySem.P.repr_of_int (of_decide_eq_true h1) (done _ _)
  | str x t => exact PySem.P.repr_of_str (done _ _) h4
  | _ => exact byref _ rfl
theorem cs_repr {K : PySem.W.Frag} {C : Ctx} : CallS K C (rRepr K) fRepr := by
  intro Λ F π S H ds vs d h w r Q p
  match ds, h with
  | [x], h =>
    obtain ⟨y, h1, h2⟩ := Option.bind_eq_some_iff.mp h
    split at h2
    · rename_i hy
      cases h2
      obtain ⟨v, rfl, q⟩ := rep_one r
      exact ⟨v, y, rfl, toP_ok w _ _ _ _ h1 q, hy, p.val w rfl⟩
    · cases h2

/-! ### defs that lean on the guards -/
structure FnG (P : Program) (w : World) (K : PySem.W.Frag) (mg : Str → Option Value) (base : Heap) (k : Nat) (f : Addr) (fd : FuncData) (ps : List Str) (sp : Sp) : Prop where
  len : ∀ vs H Q, sp vs H Q E0 → vs.length = ps.length
  run : ∀ (A : Around) (outer : List Env) (s : Shared) (H : Hp) (args : Args) (us : List Value) (vs : List V) (Q : VK), Room k A → A.guards = some [] → Env0 P w K mg base A outer s H → BindsTo s fd args (ps.zip us) → Vals vs us → sp vs H Q E0 →
    codeAny (model P w) A (.call (.ref f) args) (CR CX0 outer P w H s Q E0) s
section
variable {P : Program} {w : World} {K : PySem.W.Frag} {mg : Str → Option Value} {base : Heap} {f : Addr} {fd : FuncData} {ps : List Str} {sp : Sp}
theorem FnG.of {k : Nat} (h : FnOk P w K mg base CX0 k f fd ps sp) : FnG P w K mg base k f fd ps sp := ⟨fun vs H Q => h.len vs H Q E0, fun A outer s H args us vs Q r _ => h.run A outer s H args us vs Q E0 r⟩
theorem okG {x qual : Str} {st : Stmt} {N : List Str} {k : Nat} (Fu : Fun K x qual st f fd) (Sc : FnScope N ps (defScope st)) (len : ∀ vs H Q, sp vs H Q E0 → vs.length = ps.length)
    (body : ∀ (cdv : Value) (A : Around) (outer : List Env) (s : Shared) (H : Hp) (vs : List V) (Q : VK), Room k (A.deeper (envOfC qual (defScope st) s.heap.objs.size f cdv)) → A.guards = some [] → sp vs H Q E0 →
      ∃ t, PSs (cxOf CX0 P w K mg base N qual (defScope st) f cdv A outer s H E0).nox (defBody st) t ∧ t { nx := fun _ H' => Q .non H', rt := Q } (L2.start N vs) H) : FnG P w K mg base (k + 1) f fd ps sp := by
  obtain ⟨oc, od, kV, doc, pm, an, cdv, ct, osl, rfl, lk, hcd⟩ := Fu.ex
  constructor
  · exact len
  intro A outer s H args us vs Q hr hG e0 hb rv hsp
  have hl := len vs H Q hsp
  have stands : ∀ b o, base.get? b = some o → s.heap.get? b = some o := fun b o e => (e0.bs b o e).1
  have KX : K.In s.heap := e0.mod.kin.keeps stands
  have lim := e0.mod.nolimit.keeps stands
  refine codeAny_call_function hr.depth (KX _ _ lk) rfl Sc.co Sc.gen rfl (PySem.W.codeRec_of KX hcd) (hb _ _ _ _ ?_)
  refine wpAny_newFunctionEnv_cells Sc.kind (fun y hy => ?_) fun env he s1 x => ?_
  · obtain ⟨n, v⟩ := y
    exact (Sc.par n (List.of_mem_zip hy).1).imp id fun q => ⟨q, PySem.W.cellsFrom_some _ _ _ (.inl q)⟩
  subst he
  refine ⟨lim.keeps x.toInCall.keep, codeAny_func ?_⟩
  obtain ⟨t, ht, hq⟩ := body cdv A outer s H vs Q (hr.deeper _) hG hsp
  have I := inv_start (CX := CX0) (E := E0) Sc hr.hd e0 hl rv x
  refine wpAny_mono ((PSs.nox ht).run [] s1 (L2.start N vs) H _ I hq) (fun fl s' hs => ?_) fun _ _ z => z
  cases fl with
  | next =>
    obtain ⟨σ', H', J, q⟩ := hs
    exact ⟨.non, H', J.os, J.bare, J.base, J.hok, rfl, q⟩
  | ret u =>
    obtain ⟨v, σ', H', J, rv, q⟩ := hs
    exact ⟨v, H', J.os, J.bare, J.base, J.hok, rv, q⟩
  | brk => exact hs.elim fun _ z => z.elim fun _ z => z.2.elim
  | cont => exact hs.elim fun _ z => z.elim fun _ z => z.2.elim
theorem fnG_ok {x qual : Str} {st : Stmt} {N : List Str} {k : Nat} {g : DFS} {C : Ctx} (Fu : Fun K x qual st f fd) (Sc : FnScope N ps (defScope st))
    (hb : ∀ (cdv : Value) (A : Around) (outer : List Env) (s : Shared) (H : Hp), Room k (A.deeper (envOfC qual (defScope st) s.heap.objs.size f cdv)) → A.guards = some [] → DB (cxOf CX0 P w K mg base N qual (defScope st) f cdv A outer s H E0).nox C (defBody st) g) :
    FnG P w K mg base (k + 1) f fd ps (spD K C ps.length (runB N.length g)) := by
  refine okG Fu Sc (fun vs H Q h => ?_) (fun cdv A outer s H vs Q hr hG h => ?_)
  · obtain ⟨_, _, _, _, ds, _, _, hl, _, r, _⟩ := h
    rw [r.length, hl]
  · obtain ⟨Λ, F, π, S, ds, d, S', hl, wd, r, q, p⟩ := h
    obtain ⟨t, t1, t2⟩ := hb cdv A outer s H hr hG
    refine ⟨t, t1, ?_⟩
    obtain ⟨⟨o, S1⟩, q1, q⟩ := Option.bind_eq_some_iff.mp q
    refine t2 _ S o S1 q1 Λ F π H _ ⟨wd, env_start r⟩ _ ?_
    cases o with
    | nx E' =>
      cases q
      exact fun σ' F' π' H' e' w' _ => p .non F' π' H' e' w' rfl
    | rt d' =>
      cases q
      exact p
    | _ => cases q
end
section
variable {X : Cx} {C : Ctx} {e : Expr} {es : List Expr} {pos p : Pos} {x : Str} {k n : Nat} {fs : DF (List D)} {sem : List D → List Ob → Option (D × List Ob)}
/-- a def of the module by its name, called where the guards are at hand -/
structure FnL (P : Program) (w : World) (K : PySem.W.Frag) (mg : Str → Option Value) (base : Heap) (C : Ctx) (k : Nat) (x : Str) (n : Nat) (sem : List D → List Ob → Option (D × List Ob)) : Prop where
  ex : ∃ f fd ps, FnG P w K mg base k f fd ps (spD K C n sem) ∧ mg x = some (.ref f) ∧ PySem.W.keepIn K (.ref f) = true ∧ Binds K fd ps []
theorem FnL.frz {P : Program} {w : World} {K : PySem.W.Frag} {mg : Str → Option Value} {base : Heap} {sem' : List D → List Ob → Option (D × List Ob)} (h : FnL P w K mg base C k x n sem) (hs : ∀ ds S r, ds.length = n → sem' ds S = some r → ∃ r', sem ds S = some r' ∧ RzR S r' r) : FnL P w K mg base C k x n sem' := by
  obtain ⟨f, fd, ps, a, b, c, d⟩ := h.ex
  have imp : ∀ vs H Q, spD K C n sem' vs H Q E0 → spD K C n sem vs H Q E0 := by
    rintro vs H Q ⟨Λ, F, π, S, ds, d, S', hl, wd, r, q, p⟩
    obtain ⟨⟨d1, S1⟩, q1, q2⟩ := hs ds S _ hl q
    exact ⟨Λ, F, π, S, ds, d1, S1, hl, wd, r, q1, p.frz wd q2⟩
  exact ⟨f, fd, ps, ⟨fun vs H Q q => a.len vs H Q (imp _ _ _ q), fun A outer s H args us vs Q r g e0 b v q => a.run A outer s H args us vs Q r g e0 b v (imp _ _ _ q)⟩, b, c, d⟩
theorem pe_callG {f : Addr} {fd : FuncData} {ps : List Str} {sp : Sp} {t : TA} (F : FnG X.prog X.w X.K X.mg X.base k f fd ps sp) (hr : Room k X.A) (hG : X.A.guards = some []) (hg : Gl X x) (hm : X.mg x = some (.ref f)) (hk : PySem.W.keepIn X.K (.ref f) = true) (hb : Binds X.K fd ps [])
    (ha : PA X (e :: es) t) (hdb : (x == ("__debug__" : Str)) = false) (he : starEach (e :: es) X.env = (false, eval e X.env) :: starEach es X.env) (hpl : (backTo pos (starEach es X.env)).any (·.1) = false) :
    PE X (.Call (.Name x p) (e :: es) [] pos) (tCall sp [] E0 t) := by
  constructor
  intro pins s σ H Q I h
  apply wpAny_Call_Name_kw
  refine ld_glob I hg hm ?_ hdb
  refine PySem.W.callWith_K (h₀ := X.base) I.ok.mod.kin hk (thn (ha.run pos pins s σ H _ I h) ?_) he hpl
  rintro us s1 ⟨vs, H1, I1, r1, q⟩
  refine ⟨I1.kIn, ?_⟩
  rw [List.append_nil] at q
  have hl : us.length = ps.length := by rw [← r1.length]; exact F.len vs H1 Q q
  have hb1 := hb s1 us I1.kIn (by rw [List.append_nil]; exact hl)
  rw [List.append_nil] at hb1
  refine wpAny_call (codeAny_mono (F.run X.A X.stack s1 H1 ⟨us, []⟩ us vs Q hr hG I1.env0 hb1 r1 q) ?_)
  intro rr s2 hq
  cases rr with
  | error z => exact False.elim hq
  | ok fl =>
    cases fl with
    | ret u => exact I1.after hq
    | next => exact hq.elim
    | brk => exact hq.elim
    | cont => exact hq.elim
theorem de_callG (hF : FnL X.prog X.w X.K X.mg X.base C k x n sem) (hr : Room k X.A) (hG : X.A.guards = some []) (ha : DA X C (e :: es) fs) (hg : Gl X x := by rfl) (hdb : (x == ("__debug__" : Str)) = false := by decide) (he : starEach (e :: es) X.env = (false, eval e X.env) :: starEach es X.env := by rfl)
    (hpl : (backTo pos (starEach es X.env)).any (·.1) = false := by rfl) : DE X C (.Call (.Name x p) (e :: es) [] pos) (dCall n sem fs) := by
  obtain ⟨f, fd, ps, h1, h2, h3, h4⟩ := hF.ex
  obtain ⟨t, t1, t2⟩ := ha
  exact ⟨_, pe_callG h1 hr hG hg h2 h3 h4 t1 hdb he hpl, snd_call t2⟩
end

/-! ### the end -/
theorem lawG {P : Program} {w : World} {K : PySem.W.Frag} {mg mb : Str → Option Value} {k : Nat} {fa a : Addr} {fd : FuncData} {x : Str} {sp : Sp} {s₁ : Shared} {vs : List Value} {ns : List Int}
    (KX : K.In s₁.heap) (hns : s₁.heap.Ns mainGlobals mg) (hb : s₁.heap.Ns builtinsNs mb) (hbb : ∀ x : Str, x ≠ "__name__" → mb x = bootBuiltins x) (hlim : s₁.heap.NoLimit) (hg : s₁.gens = #[])
    (ha : s₁.heap.get? a = some { cls := .type "list", data := .seq vs.toArray }) (hi : IntsAre vs ns) (hl : ns.length ≤ sizeLine) (hr : Room k callerA)
    (F : ∀ base : Heap, K.In base → base.Ns mainGlobals mg → FnG P w K mg base k fa fd [x] sp) (hbind : ∀ (s : Shared) (u : Value), BindsTo s fd ⟨[u], []⟩ [(x, u)])
    (hsp : ∀ H : Hp, Only H → SqL K H a (ns.map V.int) → sp [.ref a] H (fun v _ => v = .bl true) E0) :
    codeAny (model P w) callerA (.call (.ref fa) ⟨[.ref a], []⟩) (fun r s' => r = .ok (.ret (.bool true)) ∧ OldK s₁.heap s'.heap ∧ s'.os = s₁.os ∧ AllBare s'.gens) s₁ := by
  have rv := vals_ints hi
  have main : ∀ H : Hp, Only H → SqL K H a (ns.map V.int) → HOk P w H s₁.heap → (∀ b, H b ≠ none → b = a) → (H a ≠ none → K.lookup a = none) →
      codeAny (model P w) callerA (.call (.ref fa) ⟨[.ref a], []⟩) (fun r s' => r = .ok (.ret (.bool true)) ∧ OldK s₁.heap s'.heap ∧ s'.os = s₁.os ∧ AllBare s'.gens) s₁ := by
    intro H hO hS hok hA hK
    have alone : ∀ {b : Addr} {o : Obj}, s₁.heap.get? b = some o → b ≠ a → (hidT s₁.heap H).get? b = some o := fun {b o} e n => hidT_get e (by
      cases q : H b with
      | none => rfl
      | some u => exact absurd (hA b (by rw [q]; exact nofun)) n)
    have space : ∀ {b : Addr} {m : Str → Option Value}, s₁.heap.Ns b m → (hidT s₁.heap H).Ns b m := by
      rintro b m ⟨o, es, ep, e, d, r⟩
      refine ⟨o, es, ep, alone e fun z => ?_, d, r⟩
      subst z
      rw [ha] at e
      cases e
      exact nomatch d
    have hKb : K.In (hidT s₁.heap H) := fun b o e => by
      cases q : H b with
      | none => exact hidT_get (KX b o e) q
      | some u =>
        have z := hA b (by rw [q]; exact nofun)
        subst z
        rw [hK (by rw [q]; exact nofun)] at e
        cases e
    have hM : Mod K mg (hidT s₁.heap H) := by
      obtain ⟨mc, h1, h2⟩ := hlim
      exact ⟨hKb, space hns, ⟨mb, space hb, hbb⟩, mc, space h1, h2⟩
    have e0 : Env0 P w K mg (hidT s₁.heap H) callerA [] s₁ H := ⟨rfl, hM, fun b o e => of_hidT e, Nat.le_of_eq (hidT_size _ _), trivial, fun b hb => absurd (show b ∈ ([] : List Addr) from hb) (by simp), hok, .of_eq hg⟩
    have run := (F _ hKb (space hns)).run callerA [] s₁ H ⟨[.ref a], []⟩ [.ref a] [.ref a] (fun v _ => v = .bl true) hr rfl e0 (hbind s₁ (.ref a)) (.cons rfl .nil) (hsp H hO hS)
    refine codeAny_mono run ?_
    intro r s' h
    cases r with
    | error e => exact False.elim h
    | ok fl =>
      cases fl with
      | ret u =>
        obtain ⟨v, H', os, bare, un, hok', r', q⟩ := h
        subst q
        cases (show u = Value.bool true from r')
        refine ⟨rfl, OldK.of_keep ?_, os, bare⟩
        intro b o e
        rcases hO b with z | ⟨ob, xs, z⟩
        · exact un.keep b o e z (fun y => absurd (show b ∈ ([] : List Addr) from y) (by simp)) (by simp)
        · obtain ⟨e1, _⟩ := hok b _ z
          obtain ⟨e2, _⟩ := hok' b _ (un.frzs b ob _ z)
          rw [e] at e1
          cases e1
          exact e2
      | next => exact h.elim
      | brk => exact h.elim
      | cont => exact h.elim
  cases hk : K.lookup a with
  | some o =>
    have e := KX a o hk
    rw [ha] at e
    cases e
    refine main (fun _ => none) (fun _ => .inl rfl) (.inr ⟨_, vs.toArray, _, hk, rfl, rfl, rfl, ?_, by simpa using rv⟩) (fun b u z => nomatch z) (fun b z => absurd rfl z) fun z => absurd rfl z
    rw [List.size_toArray, hi.length]
    exact hl
  | none =>
    refine main (fun b => if b = a then some (.frz { cls := .type "list", data := .seq vs.toArray } (.lst (ns.map V.int))) else none) ?_ (.inl (.inr ⟨_, if_pos rfl⟩)) ?_ ?_ fun _ => hk
    · intro b
      by_cases hb : b = a
      · exact .inr ⟨_, _, if_pos hb⟩
      · exact .inl (if_neg hb)
    · intro b u z
      by_cases hb : b = a
      · have y := (if_pos hb).symm.trans z
        cases y
        subst hb
        exact ⟨ha, by rw [List.length_map]; exact hl, vs, _, rv, ha⟩
      · exact nomatch (if_neg hb).symm.trans z
    · intro b z
      by_cases hb : b = a
      · exact hb
      · exact absurd (if_neg hb) z
/-- from the law's def, what it computes at the script: true -/
theorem walkG {l : PySem.W.OpenLaw} {n k : Nat} {q : Program} {loose : List Str} {XP : (Str → Option Value) → Heap → Prop} {YP : World → Heap → Prop} {d : DefRec} {K : Params → PySem.W.Frag} (x : Str) (C : Params → List Int → Ctx) (sem : List Int → List D → List Ob → Option (D × List Ob))
    (hn : l.most = some n) (hn2 : n ≤ sizeLine) (hdf : d.params.defaults = []) (hr : Room k callerA) (hY : ∀ (w : World) (h : Heap), YP w h → (K w.params).In h) (hC : ∀ p ns, (C p ns).ns = ns)
    (F : ∀ (w : World) (mg : Str → Option Value) (fa : Addr) (h : Heap), (K w.params).In h → h.Ns mainGlobals mg → mg d.name = some (.ref fa) →
      ∃ fd : FuncData, (∀ (s : Shared) (u : Value), BindsTo s fd ⟨[u], []⟩ [(x, u)]) ∧ ∀ (base : Heap) (ns : List Int), (K w.params).In base → base.Ns mainGlobals mg → FnG l.prog w (K w.params) mg base k fa fd [x] (spD (K w.params) (C w.params ns) 1 (sem ns)))
    (T : ∀ (ns : List Int), ns.length ≤ n → ∃ S', sem ns [.scr] [] = some (.bl true, S')) : PySem.W.WalkO q loose XP YP l.row.toRowW d [] (fun f vs => PySem.call f vs) := by
  refine Att.attach_call hn hdf fun w s₀ s₁ mg mb fa o pm cd doc a vs ns G Y ho hd hcd hmg hobj hints hlen hg => ?_
  obtain ⟨fd, hb, hF⟩ := F w mg fa _ (hY w _ Y) G.T.g hmg
  refine lawG (hY w _ Y) G.T.g G.T.b G.T.builtins G.T.nolimit hg hobj hints (Nat.le_trans hlen hn2) hr (fun base h1 h2 => hF base ns h1 h2) hb fun H hO hS => ?_
  obtain ⟨S', hT⟩ := T ns hlen
  refine ⟨fun _ => none, H, [], [], [.scr], .bl true, S', rfl, ⟨Same.refl _, rfl, List.nodup_nil, fun _ z => (nomatch z), fun k o p z => (nomatch z)⟩, ⟨.ref a, [], rfl, ⟨a, rfl, ?_⟩, rfl⟩, hT, fun v F' π' H' e w' r => r⟩
  rw [hC]
  exact hS
end DL

set_option Elab.async false
set_option linter.all false
set_option maxRecDepth 100000
set_option maxHeartbeats 2000000
/-! DL: classes, properties, methods, own equality, frozen. -/
namespace DL
open PySem PySem.Spec PyProof.Rows L2
section
variable {P : Program} {w : World} {K : PySem.W.Frag} {mg : Str → Option Value} {base : Heap} {C : Ctx}
theorem spD_frz {n : Nat} {sem sem' : List D → List Ob → Option (D × List Ob)} (h : ∀ ds S r, ds.length = n → sem' ds S = some r → ∃ r', sem ds S = some r' ∧ RzR S r' r) : ∀ vs H Q E, spD K C n sem' vs H Q E → spD K C n sem vs H Q E := by
  rintro vs H Q E ⟨Λ, F, π, S, ds, d, S', hl, wd, r, q, p⟩
  obtain ⟨⟨d1, S1⟩, q1, q2⟩ := h ds S _ hl q
  exact ⟨Λ, F, π, S, ds, d1, S1, hl, wd, r, q1, p.frz wd q2⟩
theorem PropFn.frz {k c : Nat} {x : Str} {sem sem' : List D → List Ob → Option (D × List Ob)} (h : PropFn P w K mg base C k x c sem) (hs : ∀ ds S r, ds.length = 1 → sem' ds S = some r → ∃ r', sem ds S = some r' ∧ RzR S r' r) : PropFn P w K mg base C k x c sem' := by
  obtain ⟨p, g, fd, ps, a, b, z⟩ := h.ex
  exact ⟨p, g, fd, ps, a, b.imp (spD_frz hs), z⟩
theorem MethFn.frz {k c n : Nat} {x : Str} {sem sem' : List D → List Ob → Option (D × List Ob)} (h : MethFn P w K mg base C k x c n sem) (hs : ∀ ds S r, ds.length = n → sem' ds S = some r → ∃ r', sem ds S = some r' ∧ RzR S r' r) : MethFn P w K mg base C k x c n sem' := by
  obtain ⟨f, fd, ps, a, b, z⟩ := h.ex
  exact ⟨f, fd, ps, a, b.imp (spD_frz hs), z⟩
theorem EqFn.frz {k c : Nat} {sem sem' : List D → List Ob → Option (D × List Ob)} (h : EqFn P w K mg base C k c sem) (hs : ∀ ds S r, ds.length = 2 → sem' ds S = some r → ∃ r', sem ds S = some r' ∧ RzR S r' r) : EqFn P w K mg base C k c sem' := by
  obtain ⟨f, fd, ps, a, b⟩ := h.ex
  exact ⟨⟨f, fd, ps, a.imp (spD_frz hs), b⟩, h.no, h.nf⟩
theorem ClsFn.up {j k c n : Nat} {x : Str} {sem : List D → List Ob → Option (D × List Ob)} (h : ClsFn P w K mg base C j x c n sem) (hk : j ≤ k) : ClsFn P w K mg base C k x c n sem := by
  obtain ⟨f, fd, ps, a, b, c, d⟩ := h.ex
  exact ⟨f, fd, ps, a, b.mono hk, c, d⟩
theorem PropFn.up {j k c : Nat} {x : Str} {sem : List D → List Ob → Option (D × List Ob)} (h : PropFn P w K mg base C j x c sem) (hk : j ≤ k) : PropFn P w K mg base C k x c sem := by
  obtain ⟨p, g, fd, ps, a, b, z⟩ := h.ex
  exact ⟨p, g, fd, ps, a, b.mono hk, z⟩
theorem MethFn.up {j k c n : Nat} {x : Str} {sem : List D → List Ob → Option (D × List Ob)} (h : MethFn P w K mg base C j x c n sem) (hk : j ≤ k) : MethFn P w K mg base C k x c n sem := by
  obtain ⟨f, fd, ps, a, b, z⟩ := h.ex
  exact ⟨f, fd, ps, a, b.mono hk, z⟩
theorem EqFn.up {j k c : Nat} {sem : List D → List Ob → Option (D × List Ob)} (h : EqFn P w K mg base C j c sem) (hk : j ≤ k) : EqFn P w K mg base C k c sem := by
  obtain ⟨f, fd, ps, a, b⟩ := h.ex
  exact ⟨⟨f, fd, ps, a.mono hk, b⟩, h.no, h.nf⟩
end
section
variable {X : Cx} {C : Ctx} {e : Expr} {es : List Expr} {fs : DF (List D)} {pos : Pos}
/-- C(..), the new instance frozen: semM tells it from the arguments -/
theorem de_makeF {x : Str} {c k m : Nat} {p1 : Pos} {sem : List D → List Ob → Option (D × List Ob)} (semM : List D → List Ob → Option (D × List Ob)) (hF : ClsFn X.prog X.w X.K X.mg X.base C k x c (m + 1) sem)
    (hM : ∀ ds S r, ds.length = m → semM ds S = some r → ∃ S1, sem (.ptr S.length :: ds) (S ++ [.ins c []]) = some (.non, S1) ∧ RzR S (.ptr S.length, S1) r)
    (hr : Room (k + 1) X.A) (ha : DA X C (e :: es) fs) (hx : Passes CX0 X E0 := by exact pass0) (hg : Gl X x := by rfl) (hdb : (x == ("__debug__" : Str)) = false := by decide) (he : starEach (e :: es) X.env = (false, eval e X.env) :: starEach es X.env := by rfl)
    (hpl : (backTo pos (starEach es X.env)).any (·.1) = false := by rfl) : DE X C (.Call (.Name x p1) (e :: es) [] pos) (dCall m semM fs) := by
  obtain ⟨f, fd, ps, h0, h1, h2, h3⟩ := hF.ex
  obtain ⟨t, a1, a2⟩ := ha
  refine ⟨_, pe_make h0 h1 hr hg h2 h3 .nil hx a1 hdb he hpl, fun E S d S' q Λ F π H σ w Q p => ?_⟩
  obtain ⟨⟨ds, S1⟩, q1, q⟩ := Option.bind_eq_some_iff.mp q
  simp only at q
  split at q
  · rename_i hl
    obtain ⟨S2, q2, q3⟩ := hM ds S1 _ hl q
    refine a2 E S ds S1 q1 Λ F π H σ w _ fun vs F1 π1 H1 e1 w1 r1 => ?_
    have p1 := (p.step e1).frz w1 q3
    intro y dx hy hdx hne
    have hy2 : upd H1 dx (.own y) y = none := by
      rw [upd_ne (fun z => hne z.symm)]
      exact hy
    have wj : Wd X.K C Λ F1 π1 S1 (upd H1 dx (.own y)) := w1.junk (same_new hdx)
    have w2 := wj.new (ob := .ins c []) hy2 ⟨dx, [], upd_same, rfl⟩
    have e2 : Ext F1 π1 H1 F1 (π1 ++ [y]) (upd (upd H1 dx (.own y)) y (.ins (C.cls c) dx [])) := (Ext.junk (same_new hdx)).trans (Ext.new hy2)
    refine ⟨Λ, F1, π1 ++ [y], _, .ptr S1.length :: ds, .non, _, by rw [List.length_cons, hl], w2, ⟨.ref y, vs, by rw [List.append_nil], wj.new_at, RepA.mono e2.f e2.p _ _ r1⟩, q2, fun v F3 π3 H3 e3 w3 r3 => ⟨r3, ?_⟩⟩
    exact p1 (.ref y) F3 π3 H3 (e2.trans e3) w3 (Rep.mono (F := F1) e3.f e3.p _ _ (wj.new_at (K := X.K) (C := C) (F := F1)))
  · cases q
end

end DL

set_option Elab.async false
set_option linter.all false
set_option maxRecDepth 100000
set_option maxHeartbeats 2000000
/-! DL: the built-in names. -/
namespace DL
open PySem PySem.Spec PyProof.Rows L2
theorem u1 {k : Nat} {A : Around} (r : Room k A) : A.units + 1 < cLine := by
  have := r.un
  omega
/-- the module leaves these names to Python -/
structure Bt (mg : Str → Option Value) : Prop where
  len : mg "len" = none
  range : mg "range" = none
  sorted : mg "sorted" = none
  int : mg "int" = none
  str : mg "str" = none
  max : mg "max" = none
  min : mg "min" = none
  sum : mg "sum" = none
  abs : mg "abs" = none
  list : mg "list" = none
  tuple : mg "tuple" = none
  dict : mg "dict" = none
  isinstance : mg "isinstance" = none
  repr : mg "repr" = none
  zip : mg "zip" = none
  enumerate : mg "enumerate" = none
section
variable {X : Cx} {C : Ctx} {e : Expr} {es : List Expr} {pos p : Pos} {fs : DF (List D)} {k : Nat}
theorem de_len (B : Bt X.mg) (ha : DA X C (e :: es) fs) (hg : Gl X "len" := by rfl) (hs : starEach (e :: es) X.env = (false, eval e X.env) :: starEach es X.env := by rfl) (hpl : (backTo pos (starEach es X.env)).any (·.1) = false := by rfl) : DE X C (.Call (.Name "len" p) (e :: es) [] pos) (dCB fLen fs) :=
  de_callB (call_len.or (call_lenD.or call_len_dT)) cs_len B.len PySem.boot_len ha hg (by decide) (by decide) hs hpl
theorem de_intC (B : Bt X.mg) (ha : DA X C (e :: es) fs) (hg : Gl X "int" := by rfl) (hs : starEach (e :: es) X.env = (false, eval e X.env) :: starEach es X.env := by rfl) (hpl : (backTo pos (starEach es X.env)).any (·.1) = false := by rfl) : DE X C (.Call (.Name "int" p) (e :: es) [] pos) (dCB fInt fs) :=
  de_callTy call_int1 cs_int B.int (by decide +kernel) ha hg (by decide) (by decide) hs hpl
theorem de_strC (B : Bt X.mg) (ha : DA X C (e :: es) fs) (hg : Gl X "str" := by rfl) (hs : starEach (e :: es) X.env = (false, eval e X.env) :: starEach es X.env := by rfl) (hpl : (backTo pos (starEach es X.env)).any (·.1) = false := by rfl) : DE X C (.Call (.Name "str" p) (e :: es) [] pos) (dCB fStr fs) :=
  de_callTy (SkE.call_str_str.or call_str_int) cs_str B.str (by decide +kernel) ha hg (by decide) (by decide) hs hpl
theorem de_max2 (B : Bt X.mg) (ha : DA X C (e :: es) fs) (hc : X.calm = true := by rfl) (hg : Gl X "max" := by rfl) (hs : starEach (e :: es) X.env = (false, eval e X.env) :: starEach es X.env := by rfl) (hpl : (backTo pos (starEach es X.env)).any (·.1) = false := by rfl) : DE X C (.Call (.Name "max" p) (e :: es) [] pos) (dCB fMax2 fs) :=
  de_callB (call_max2 hc) cs_max2 B.max (by decide +kernel) ha hg (by decide) (by decide) hs hpl
theorem de_max (B : Bt X.mg) (ha : DA X C (e :: es) fs) (hc : X.calm = true := by rfl) (hg : Gl X "max" := by rfl) (hs : starEach (e :: es) X.env = (false, eval e X.env) :: starEach es X.env := by rfl) (hpl : (backTo pos (starEach es X.env)).any (·.1) = false := by rfl) : DE X C (.Call (.Name "max" p) (e :: es) [] pos) (dCB fMax fs) :=
  de_callB (cr_max hc) cs_max B.max (by decide +kernel) ha hg (by decide) (by decide) hs hpl
theorem de_min (B : Bt X.mg) (ha : DA X C (e :: es) fs) (hc : X.calm = true := by rfl) (hg : Gl X "min" := by rfl) (hs : starEach (e :: es) X.env = (false, eval e X.env) :: starEach es X.env := by rfl) (hpl : (backTo pos (starEach es X.env)).any (·.1) = false := by rfl) : DE X C (.Call (.Name "min" p) (e :: es) [] pos) (dCB fMin fs) :=
  de_callB (cr_min hc) cs_min B.min (by decide +kernel) ha hg (by decide) (by decide) hs hpl
theorem de_sum (B : Bt X.mg) (ha : DA X C (e :: es) fs) (hc : X.calm = true := by rfl) (hg : Gl X "sum" := by rfl) (hs : starEach (e :: es) X.env = (false, eval e X.env) :: starEach es X.env := by rfl) (hpl : (backTo pos (starEach es X.env)).any (·.1) = false := by rfl) : DE X C (.Call (.Name "sum" p) (e :: es) [] pos) (dCB fSum fs) :=
  de_callB (cr_sum hc) cs_sum B.sum (by decide +kernel) ha hg (by decide) (by decide) hs hpl
theorem de_abs (B : Bt X.mg) (ha : DA X C (e :: es) fs) (hg : Gl X "abs" := by rfl) (hs : starEach (e :: es) X.env = (false, eval e X.env) :: starEach es X.env := by rfl) (hpl : (backTo pos (starEach es X.env)).any (·.1) = false := by rfl) : DE X C (.Call (.Name "abs" p) (e :: es) [] pos) (dCB fAbs fs) :=
  de_callB call_abs cs_abs B.abs (by decide +kernel) ha hg (by decide) (by decide) hs hpl
theorem dn_sortI (B : Bt X.mg) (ha : DA X C (e :: es) fs) (hg : Gl X "sorted" := by rfl) (hs : starEach (e :: es) X.env = (false, eval e X.env) :: starEach es X.env := by rfl) (hpl : (backTo pos (starEach es X.env)).any (·.1) = false := by rfl) : DN X C (.Call (.Name "sorted" p) (e :: es) [] pos) (dCB fSortI fs) :=
  dn_callB cr_sortedI cn_sortI B.sorted (by decide +kernel) ha hg (by decide) (by decide) hs hpl
theorem dn_sortS (B : Bt X.mg) (hr : Room k X.A) (ha : DA X C (e :: es) fs) (hg : Gl X "sorted" := by rfl) (hs : starEach (e :: es) X.env = (false, eval e X.env) :: starEach es X.env := by rfl) (hpl : (backTo pos (starEach es X.env)).any (·.1) = false := by rfl) : DN X C (.Call (.Name "sorted" p) (e :: es) [] pos) (dCB fSortS fs) :=
  dn_callB (cr_sortedSD hr.units) cn_sortS B.sorted (by decide +kernel) ha hg (by decide) (by decide) hs hpl
theorem dn_listC (B : Bt X.mg) (ha : DA X C (e :: es) fs) (hg : Gl X "list" := by rfl) (hs : starEach (e :: es) X.env = (false, eval e X.env) :: starEach es X.env := by rfl) (hpl : (backTo pos (starEach es X.env)).any (·.1) = false := by rfl) : DN X C (.Call (.Name "list" p) (e :: es) [] pos) (dCB fList fs) :=
  dn_callTy call_list_of cn_list B.list (by decide +kernel) ha hg (by decide) (by decide) hs hpl
theorem de_tupleC (B : Bt X.mg) (ha : DA X C (e :: es) fs) (hg : Gl X "tuple" := by rfl) (hs : starEach (e :: es) X.env = (false, eval e X.env) :: starEach es X.env := by rfl) (hpl : (backTo pos (starEach es X.env)).any (·.1) = false := by rfl) : DE X C (.Call (.Name "tuple" p) (e :: es) [] pos) (dCB fTuple fs) :=
  de_callTy call_tuple_of cs_tuple B.tuple (by decide +kernel) ha hg (by decide) (by decide) hs hpl
theorem de_reprC (B : Bt X.mg) (hr : Room k X.A) (hG : X.A.guards = some []) (ha : DA X C (e :: es) fs) (hg : Gl X "repr" := by rfl) (hs : starEach (e :: es) X.env = (false, eval e X.env) :: starEach es X.env := by rfl) (hpl : (backTo pos (starEach es X.env)).any (·.1) = false := by rfl) : DE X C (.Call (.Name "repr" p) (e :: es) [] pos) (dCB fRepr fs) :=
  de_callB (call_repr hr hG) cs_repr B.repr (by decide +kernel) ha hg (by decide) (by decide) hs hpl
/-- what isinstance answers of own instances, and of data against own classes -/
structure IsOk (K : PySem.W.Frag) (C : Ctx) : Prop where
  bo : ∀ d n, n ∈ ["int", "str", "list", "tuple", "bool"] → PySem.W.kitOne K (.ref (C.cls d)) (.type n) = some false
  ob : ∀ c m, m ∈ ["NoneType", "bool", "int", "str", "list", "tuple", "dict"] → PySem.W.kitOne K (.type m) (.ref (C.cls c)) = some false
  oo : ∀ d c, d < nCls → c < nCls → PySem.W.kitOne K (.ref (C.cls d)) (.ref (C.cls c)) = some (d == c)
theorem kit_b {K : PySem.W.Frag} {n : String} (h : IsOk K C) (hn : n ∈ ["int", "str", "list", "tuple", "bool"]) : ∀ t b, isiB n t = some b → PySem.W.kitOne K (tgV C t) (.type n) = some b := by
  intro t b q
  cases t with
  | b m =>
    simp only [isiB] at q
    split at q
    · rename_i hm
      have all : ∀ m ∈ ["NoneType", "bool", "int", "str", "list", "tuple", "dict"], ∀ n ∈ ["int", "str", "list", "tuple", "bool"], kitB m n = some (m == n || (m == "bool" && n == "int")) := by decide +kernel
      cases q
      exact kit_ty (all m hm n hn)
    · cases q
  | o d =>
    cases q
    exact h.bo d n hn
theorem kit_o {K : PySem.W.Frag} {c : Nat} (h : IsOk K C) : ∀ t b, isiO c t = some b → PySem.W.kitOne K (tgV C t) (.ref (C.cls c)) = some b := by
  intro t b q
  cases t with
  | b m =>
    simp only [isiO] at q
    split at q
    · rename_i hm
      cases q
      exact h.ob c m hm
    · cases q
  | o d =>
    simp only [isiO] at q
    split at q
    · rename_i hm
      cases q
      exact h.oo d c hm.1 hm.2
    · cases q
variable {a : Expr} {f : DF D} {y : Str} {p1 p2 : Pos}
theorem de_isB (n : String) (B : Bt X.mg) (hC : ClOk X.K C) (hI : IsOk X.K C) (ha : DE X C a f) (hm : X.mg y = none) (hn : n ∈ ["int", "str", "list", "tuple", "bool"] := by decide) (hv : bootBuiltins y = some (.type n) := by decide +kernel) (hy : Gl X y := by rfl) (hnn : y ≠ "__name__" := by decide) (hd : (y == ("__debug__" : Str)) = false := by decide)
    (hs : starEach [a, .Name y p2] X.env = (false, eval a X.env) :: starEach [.Name y p2] X.env := by rfl) (hs2 : starEach [(.Name y p2 : Expr)] X.env = (false, eval (.Name y p2) X.env) :: starEach [] X.env := by rfl) (hgl : Gl X "isinstance" := by rfl) (hpl : (backTo pos (starEach [(.Name y p2 : Expr)] X.env)).any (·.1) = false := by rfl) :
    DE X C (.Call (.Name "isinstance" p1) [a, .Name y p2] [] pos) (dIsi (isiB n) f) :=
  de_isi (x := y) (te := tC (.ty n)) hC (pe_bltn (v := .ty n) hy hm hv rfl hnn hd) (.ty n) (kit_b hI hn) ha B.isinstance hs hs2 hgl hpl
theorem de_isO (c : Nat) (B : Bt X.mg) (hC : ClOk X.K C) (hI : IsOk X.K C) (ha : DE X C a f) (hm : X.mg y = some (.ref (C.cls c))) (hy : Gl X y := by rfl) (hd : (y == ("__debug__" : Str)) = false := by decide)
    (hs : starEach [a, .Name y p2] X.env = (false, eval a X.env) :: starEach [.Name y p2] X.env := by rfl) (hs2 : starEach [(.Name y p2 : Expr)] X.env = (false, eval (.Name y p2) X.env) :: starEach [] X.env := by rfl) (hgl : Gl X "isinstance" := by rfl) (hpl : (backTo pos (starEach [(.Name y p2 : Expr)] X.env)).any (·.1) = false := by rfl) :
    DE X C (.Call (.Name "isinstance" p1) [a, .Name y p2] [] pos) (dIsi (isiO c) f) :=
  de_isi (x := y) (te := tC (.ref (C.cls c))) hC (pe_glob (v := .ref (C.cls c)) hy hm rfl hd) (.own _) (kit_o hI) ha B.isinstance hs hs2 hgl hpl
end
end DL

set_option Elab.async false
set_option linter.all false
set_option maxRecDepth 100000
set_option maxHeartbeats 2000000
/-! DL: names forgotten. -/
namespace DL
open PySem PySem.Spec PyProof.Rows L2
section
variable {K : PySem.W.Frag} {C : Ctx} {F : Hp} {π : List Addr} {σ : L2.St} {E : SE}
theorem EnvR.drop (r : EnvR K C F π σ E) (i : Nat) : EnvR K C F π σ (E.set i none) := by
  refine ⟨by rw [List.length_set]; exact r.1, fun j d' h => ?_⟩
  by_cases e : i = j
  · subst e
    have hi : i < E.length := by
      have := (List.getElem?_eq_some_iff.mp h).1
      rwa [List.length_set] at this
    rw [List.getElem?_set_self hi] at h
    cases h
  · rw [List.getElem?_set_ne e] at h
    exact r.2 j d' h
theorem EnvR.wipeS (r : EnvR K C F π σ E) : ∀ vs : List Nat, EnvR K C F π σ (wipeE E vs)
  | [] => r
  | v :: vs => (EnvR.wipeS r vs).drop v
end
def wOut (vs : List Nat) : Out → Out
  | .nx E => .nx (wipeE E vs)
  | .ct E => .ct (wipeE E vs)
  | .bk E => .bk (wipeE E vs)
  | .rt d => .rt d
/-- behind a piece some names are forgotten -/
def sW (vs : List Nat) (g : DFS) : DFS := fun E S => (g E S).map fun p => (wOut vs p.1, p.2)
/-- ahead of a piece some names are forgotten -/
def sV (vs : List Nat) (g : DFS) : DFS := fun E S => g (wipeE E vs) S
section
variable {X : Cx} {C : Ctx} {st : Stmt} {b : List Stmt} {g : DFS}
theorem sndS_wipe {K : PySem.W.Frag} {t : TS} (vs : List Nat) (h : SndS K C t g) : SndS K C t (sW vs g) := by
  intro E S o S' q Λ F π H σ w Dn p
  obtain ⟨⟨o0, S0⟩, q1, q2⟩ := Option.map_eq_some_iff.mp q
  cases q2
  refine h E S o0 S0 q1 Λ F π H σ w Dn ?_
  cases o0 with
  | nx E1 => exact fun σ' F' π' H' e w' r => p σ' F' π' H' e w' (r.wipeS vs)
  | ct E1 => exact fun σ' F' π' H' e w' r => p σ' F' π' H' e w' (r.wipeS vs)
  | bk E1 => exact fun σ' F' π' H' e w' r => p σ' F' π' H' e w' (r.wipeS vs)
  | rt d => exact p
theorem db_wipe (vs : List Nat) (h : DB X C b g) : DB X C b (sW vs g) := let ⟨t, a, s⟩ := h; ⟨t, a, sndS_wipe vs s⟩
theorem ds_wipe (vs : List Nat) (h : DSt X C st g) : DSt X C st (sV vs g) := by
  obtain ⟨t, a, s⟩ := h
  exact ⟨t, a, fun E S o S' q Λ F π H σ w Dn p => s _ S o S' q Λ F π H σ ⟨w.w, w.r.wipeS vs⟩ Dn p⟩
end
end DL

set_option Elab.async false
set_option linter.all false
set_option maxRecDepth 100000
set_option maxHeartbeats 2000000
/-! M0: what loops and comprehensions compute. -/
namespace DL
open PySem PySem.Spec PyProof.Rows L2
theorem lcF_pure {tg : DFG} {t : DF Bool} {el : DF D} {s : Src} {E : SE} {S : List Ob} {xs : List D} (b : D → Bool) (v : D → D) (E1 : D → SE) (hS : ∀ i, s.at S i = some xs[i]?) (hg : ∀ d ∈ xs, tg d E S = some (E1 d, S)) (ht : ∀ d ∈ xs, t (E1 d) S = some (b d, S))
    (he : ∀ d ∈ xs, b d = true → el (E1 d) S = some (v d, S)) : ∀ (n i : Nat) (acc : List D), i + n = xs.length → acc.length + n ≤ sizeLine → lcF tg t el s E n i acc S = some (acc ++ ((xs.drop i).filter b).map v, S)
  | 0, i, acc, hi, ha => by
    have e : xs[i]? = none := List.getElem?_eq_none (by omega)
    simp only [lcF, hS, e]
    rw [List.drop_eq_nil_of_le (by omega)]
    simp
  | n + 1, i, acc, hi, ha => by
    have hlt : i < xs.length := by omega
    have e : xs[i]? = some xs[i] := List.getElem?_eq_getElem hlt
    have hm : xs[i] ∈ xs := List.getElem_mem hlt
    simp only [lcF, hS, e, hg _ hm, Option.bind_some, ht _ hm]
    rw [List.drop_eq_getElem_cons hlt, List.filter_cons]
    cases hb : b xs[i] with
    | false =>
      simp only [Bool.false_eq_true, if_false]
      exact lcF_pure b v E1 hS hg ht he n (i + 1) acc (by omega) (by omega)
    | true =>
      simp only [if_true, he _ hm hb, Option.bind_some]
      rw [if_pos (by omega), lcF_pure b v E1 hS hg ht he n (i + 1) (acc ++ [v xs[i]]) (by omega) (by rw [List.length_append, List.length_singleton]; omega)]
      simp
/-- a comprehension whose source stands and whose parts change nothing -/
theorem dLc_pure {vs : List Nat} {fi : DF Src} {tg : DFG} {t : DF Bool} {el : DF D} {s : Src} {E : SE} {S : List Ob} {xs : List D} (b : D → Bool) (v : D → D) (E1 : D → SE) (hi : fi E S = some (s, S)) (hS : ∀ i, s.at S i = some xs[i]?) (hl : s.len S = xs.length) (hz : xs.length ≤ sizeLine)
    (hg : ∀ d ∈ xs, tg d (wipeE E vs) S = some (E1 d, S)) (ht : ∀ d ∈ xs, t (E1 d) S = some (b d, S)) (he : ∀ d ∈ xs, b d = true → el (E1 d) S = some (v d, S)) : dLc vs fi tg t el E S = some ((xs.filter b).map v, S) := by
  unfold dLc
  rw [hi]
  simp only [Option.bind_some]
  rw [hl, lcF_pure b v E1 hS hg ht he xs.length 0 [] (by omega) (by simpa using hz)]
  simp
/-- a loop -/
theorem loopF_inv {tg : DFG} {b : DFS} {s : Src} {xs : List D} (I : Nat → SE → List Ob → Prop) (hS : ∀ i E S, I i E S → s.at S i = some xs[i]?)
    (step : ∀ i d E S, I i E S → xs[i]? = some d → ∃ E1 S1 E2 S2, tg d E S = some (E1, S1) ∧ (b E1 S1 = some (.nx E2, S2) ∨ b E1 S1 = some (.ct E2, S2)) ∧ I (i + 1) E2 S2) :
    ∀ (n i : Nat) (E : SE) (S : List Ob), i + n = xs.length → I i E S → ∃ E' S', loopF tg b s n i E S = some (.nx E', S') ∧ I xs.length E' S'
  | 0, i, E, S, hi, h => by
    have e : xs[i]? = none := List.getElem?_eq_none (by omega)
    refine ⟨E, S, by simp only [loopF, hS i E S h, e], ?_⟩
    rw [show xs.length = i by omega]
    exact h
  | n + 1, i, E, S, hi, h => by
    have hlt : i < xs.length := by omega
    have e : xs[i]? = some xs[i] := List.getElem?_eq_getElem hlt
    obtain ⟨E1, S1, E2, S2, h1, h2, h3⟩ := step i _ E S h e
    obtain ⟨E', S', h4, h5⟩ := loopF_inv I hS step n (i + 1) E2 S2 (by omega) h3
    refine ⟨E', S', ?_, h5⟩
    rcases h2 with h2 | h2
    · simp only [loopF, hS i E S h, e, h1, Option.bind_some, h2, h4]
    · simp only [loopF, hS i E S h, e, h1, Option.bind_some, h2, h4]
theorem sFor_inv {fi : DF Src} {tg : DFG} {b : DFS} {s : Src} {xs : List D} (I : Nat → SE → List Ob → Prop) {E : SE} {S S1 : List Ob} (hi : fi E S = some (s, S1)) (hl : s.len S1 = xs.length) (hS : ∀ i E S, I i E S → s.at S i = some xs[i]?) (h0 : I 0 E S1)
    (step : ∀ i d E S, I i E S → xs[i]? = some d → ∃ E1 S1 E2 S2, tg d E S = some (E1, S1) ∧ (b E1 S1 = some (.nx E2, S2) ∨ b E1 S1 = some (.ct E2, S2)) ∧ I (i + 1) E2 S2) : ∃ E' S', sFor fi tg b E S = some (.nx E', S') ∧ I xs.length E' S' := by
  obtain ⟨E', S', h1, h2⟩ := loopF_inv I hS step xs.length 0 E S1 (by omega) h0
  refine ⟨E', S', ?_, h2⟩
  unfold sFor
  rw [hi]
  simp only [Option.bind_some, hl, h1]
theorem fix_at {xs : List D} {S : List Ob} (i : Nat) : (Src.fix xs).at S i = some xs[i]? := rfl
theorem live_at {xs : List D} {S : List Ob} {d : D} (h : lstOf S d = some xs) (i : Nat) : (Src.live d).at S i = some xs[i]? := by
  show (lstOf S d).map _ = _
  rw [h]
  rfl
theorem live_len {xs : List D} {S : List Ob} {d : D} (h : lstOf S d = some xs) : (Src.live d).len S = xs.length := by
  show ((lstOf S d).map _).getD 0 = _
  rw [h]
  rfl
theorem keys_at {S : List Ob} {k : Nat} {l : List (Key × D)} (h : S[k]? = some (.lkK l)) (i : Nat) : (Src.keys k).at S i = some ((l.map fun p => keyD p.1)[i]?) := by
  show (dictK S k).map _ = _
  unfold dictK
  rw [h]
  simp [List.getElem?_map, Option.map_map, Function.comp_def]
theorem keys_len {S : List Ob} {k : Nat} {l : List (Key × D)} (h : S[k]? = some (.lkK l)) : (Src.keys k).len S = (l.map fun p => keyD p.1).length := by
  show ((dictK S k).map _).getD 0 = _
  unfold dictK
  rw [h]
  simp

/-! ### texts of 0 and 1 -/
def ws (b : List Bool) : Str := ⟨(b.map fun x => if x then 49 else 48).toArray⟩
abbrev wd (b : List Bool) : D := .str (ws b)
theorem ws_len (b : List Bool) : (ws b).length = b.length := by simp [ws, Str.length]
theorem ws_cps (b : List Bool) : (ws b).cps = (b.map fun x => if x then 49 else 48).toArray := rfl
theorem ws_inj {a b : List Bool} (h : ws a = ws b) : a = b := by
  have h1 := congrArg (fun x : Str => x.cps.toList) h
  simp only [ws] at h1
  have inj : Function.Injective (fun x : Bool => if x then 49 else 48) := by
    intro x y h
    cases x <;> cases y <;> simp_all
  exact (List.map_inj_right fun x y e => inj e).mp h1
theorem ws_app (a b : List Bool) : ws a ++ ws b = ws (a ++ b) := by
  show (⟨_⟩ : Str) = _
  simp [ws]
theorem s_zero : ("0" : Str) = ws [false] := by decide +kernel
theorem s_one : ("1" : Str) = ws [true] := by decide +kernel
theorem s_nil : ("" : Str) = ws [] := by decide +kernel
theorem s_01 : signsOf ("01" : Str) = [wd [false], wd [true]] := by rfl

/-! ### the purse -/
def pu (a b c : Int) : Ob := .lst [.int a, .int b, .int c]
structure Pu (S : List Ob) (p : Nat) (n : Nat) : Prop where
  ex : ∃ a b c, S[p]? = some (pu a b c) ∧ 0 ≤ a ∧ 0 ≤ b ∧ b < 2147483648 ∧ 0 ≤ c ∧ c ≤ n
structure But (p : Nat) (S S' : List Ob) : Prop where
  len : S'.length = S.length
  ne : ∀ k, k ≠ p → S'[k]? = S[k]?
theorem But.refl (p : Nat) (S : List Ob) : But p S S := ⟨rfl, fun _ _ => rfl⟩
theorem But.trans {p : Nat} {S S1 S2 : List Ob} (a : But p S S1) (b : But p S1 S2) : But p S S2 := ⟨b.len.trans a.len, fun k h => (b.ne k h).trans (a.ne k h)⟩
theorem But.set (p : Nat) (S : List Ob) (o : Ob) : But p S (S.set p o) := ⟨List.length_set, fun k h => List.getElem?_set_ne fun e => h e.symm⟩
end DL

set_option Elab.async false
set_option linter.all false
set_option maxRecDepth 100000
set_option maxHeartbeats 2000000
/-! EV: what the pieces compute, step by step. -/
namespace DL
open PySem PySem.Spec PyProof.Rows L2
section
variable {α : Type} {E E1 E2 : SE} {S S1 S2 S3 : List Ob} {f fa fb fo fi fk fx : DF D} {c c1 c2 : DF Bool} {x y z d : D} {xs ys : List D} {b b1 b2 : Bool} {g : List Ob → D → D → Option D} {fs : DF (List D)} {i j k n : Nat} {p q : DFS} {o : Out} {r : Out × List Ob} {rd : D × List Ob} {rb : Bool × List Ob} {rl : List D × List Ob}
theorem dVar_ev (h : E[i]? = some (some d)) : dVar i E S = some (d, S) := by
  unfold dVar
  rw [h]
theorem dC_ev : dC d E S = some (d, S) := rfl
theorem dBin_ev (ha : fa E S = some (x, S1)) (hb : fb E S1 = some (y, S2)) (hg : g S2 x y = some d) : dBin g fa fb E S = some (d, S2) := by
  unfold dBin
  rw [ha, Option.bind_some, hb, Option.bind_some, hg]
  rfl
theorem dTest_ev (h : f E S = some (.bl b, S1)) : dTest f E S = some (b, S1) := by
  unfold dTest
  rw [h]
  rfl
theorem dNot_ev (h : c E S = some (b, S1)) : dNot c E S = some (!b, S1) := by
  unfold dNot
  rw [h]
  rfl
def ifK {β : Type} (b : Bool) (p q : SE → List Ob → Option β) (E : SE) (S : List Ob) : Option β := if b = true then p E S else q E S
theorem ifK_t {β : Type} {p q : SE → List Ob → Option β} {r : Option β} (h : p E S = r) : ifK true p q E S = r := h
theorem ifK_f {β : Type} {p q : SE → List Ob → Option β} {r : Option β} (h : q E S = r) : ifK false p q E S = r := h
theorem ifK_dt {β : Type} {p q : SE → List Ob → Option β} {r : Option β} {P : Prop} [Decidable P] (hP : P) (h : p E S = r) : ifK (decide P) p q E S = r := by
  unfold ifK
  rw [if_pos (decide_eq_true hP)]
  exact h
theorem ifK_df {β : Type} {p q : SE → List Ob → Option β} {r : Option β} {P : Prop} [Decidable P] (hP : ¬ P) (h : q E S = r) : ifK (decide P) p q E S = r := by
  unfold ifK
  rw [if_neg (by rw [decide_eq_false hP]; exact Bool.false_ne_true)]
  exact h
theorem ifK_b {β : Type} {p q : SE → List Ob → Option β} {r : Option β} (hb : b = true) (h : p E S = r) : ifK b p q E S = r := by
  rw [hb]
  exact h
theorem ifK_n {β : Type} {p q : SE → List Ob → Option β} {r : Option β} (hb : b = false) (h : q E S = r) : ifK b p q E S = r := by
  rw [hb]
  exact h
theorem sIf_ev {r : Option (Out × List Ob)} (hc : c E S = some (b, S1)) (hk : ifK b p q E S1 = r) : sIf c p q E S = r := by
  unfold sIf
  rw [hc]
  exact hk
theorem dIf_ev {r : Option (D × List Ob)} (hc : c E S = some (b, S1)) (hk : ifK b fa fb E S1 = r) : dIf c fa fb E S = r := by
  unfold dIf
  rw [hc]
  exact hk
theorem dAnd_ev {r : Option (Bool × List Ob)} (hc : c1 E S = some (b, S1)) (hk : ifK b c2 (fun _ S => some (false, S)) E S1 = r) : dAnd c1 c2 E S = r := by
  unfold dAnd
  rw [hc]
  exact hk
theorem dOr_ev {r : Option (Bool × List Ob)} (hc : c1 E S = some (b, S1)) (hk : ifK b (fun _ S => some (true, S)) c2 E S1 = r) : dOr c1 c2 E S = r := by
  unfold dOr
  rw [hc]
  exact hk
theorem dOr_pure (h1 : c1 E S = some (b1, S)) (h2 : c2 E S = some (b2, S)) : dOr c1 c2 E S = some (b1 || b2, S) := by
  unfold dOr
  rw [h1, Option.bind_some, h2]
  cases b1 <;> rfl
theorem dAnd_pure (h1 : c1 E S = some (b1, S)) (h2 : c2 E S = some (b2, S)) : dAnd c1 c2 E S = some (b1 && b2, S) := by
  unfold dAnd
  rw [h1, Option.bind_some, h2]
  cases b1 <;> rfl
theorem dAndV_ev {r : Option (D × List Ob)} (hc : fa E S = some (.bl b, S1)) (hk : ifK b fb (fun _ S => some (.bl false, S)) E S1 = r) : dAndV fa fb E S = r := by
  unfold dAndV
  rw [hc]
  cases b <;> exact hk
theorem dOrV_ev {r : Option (D × List Ob)} (hc : fa E S = some (.bl b, S1)) (hk : ifK b (fun _ S => some (.bl true, S)) fb E S1 = r) : dOrV fa fb E S = r := by
  unfold dOrV
  rw [hc]
  cases b <;> exact hk
theorem dNil_ev : dNil E S = some ([], S) := rfl
theorem dCons_ev (h1 : f E S = some (x, S1)) (h2 : fs E S1 = some (xs, S2)) : dCons f fs E S = some (x :: xs, S2) := by
  unfold dCons
  rw [h1, Option.bind_some, h2]
  rfl
theorem few_ev (h : fs E S = some (xs, S1)) (hz : xs.length ≤ sizeLine) : few fs E S = some (xs, S1) := by
  unfold few
  rw [h, Option.bind_some, if_pos hz]
theorem dTree_ev (h : fs E S = some (xs, S1)) : dTree fs E S = some (.lst xs, S1) := by
  unfold dTree
  rw [h]
  rfl
theorem dNew_ev (h : fs E S = some (xs, S1)) : dNew fs E S = some (.ptr S1.length, S1 ++ [.lst xs]) := by
  unfold dNew
  rw [h]
  rfl
theorem dTup_ev (h : fs E S = some (xs, S1)) (hz : xs.length ≤ sizeLine) : dTup fs E S = some (.tup xs, S1) := by
  unfold dTup
  rw [few_ev h hz]
  rfl
theorem dCB_ev {g : List Ob → List D → Option α} {a : α} (h : fs E S = some (xs, S1)) (hg : g S1 xs = some a) : dCB g fs E S = some (a, S1) := by
  unfold dCB
  rw [h, Option.bind_some, hg]
  rfl
theorem dCall_ev {sem : List D → List Ob → Option (D × List Ob)} {r : Option (D × List Ob)} (h : fs E S = some (xs, S1)) (hl : xs.length = n) (hs : sem xs S1 = r) : dCall n sem fs E S = r := by
  unfold dCall
  rw [h, Option.bind_some, if_pos hl]
  exact hs
theorem dIsi_ev {g : Tg → Option Bool} {t : Tg} (h : f E S = some (d, S1)) (ht : tgOf S1 d = some t) (hg : g t = some b) : dIsi g f E S = some (.bl b, S1) := by
  unfold dIsi
  rw [h, Option.bind_some, ht, Option.bind_some, hg]
  rfl
theorem dFld_ev {m : Str} (h : f E S = some (x, S1)) (hg : fldOf S1 x m = some d) : dFld m f E S = some (d, S1) := by
  unfold dFld
  rw [h, Option.bind_some, hg]
  rfl
theorem dPart_ev {m : Int} (h : f E S = some (.int m, S1)) : dPart f E S = some (some m, S1) := by
  unfold dPart
  rw [h]
  rfl
theorem dNoPart_ev : dNoPart E S = some (none, S) := rfl
theorem sAsg_ev (h : f E S = some (d, S1)) : sAsg i f E S = some (.nx (E.set i (some d)), S1) := by
  unfold sAsg
  rw [h]
  rfl
theorem sRet_ev (h : f E S = some (d, S1)) : sRet f E S = some (.rt d, S1) := by
  unfold sRet
  rw [h]
  rfl
theorem sDrop_ev (h : f E S = some (d, S1)) : sDrop f E S = some (.nx E, S1) := by
  unfold sDrop
  rw [h]
  rfl
theorem sNil_ev : sNil E S = some (.nx E, S) := rfl
theorem sAsgG_ev {g : DFG} (h : f E S = some (d, S1)) (hg : g d E S1 = some (E2, S2)) : sAsgG f g E S = some (.nx E2, S2) := by
  unfold sAsgG
  rw [h, Option.bind_some, hg]
  rfl
def sqK (q : DFS) : Out × List Ob → Option (Out × List Ob)
  | (.nx E', S) => q E' S
  | r => some r
theorem sSeq_ev {s : Option (Out × List Ob)} (h : p E S = some r) (hk : sqK q r = s) : sSeq p q E S = s := by
  unfold sSeq
  rw [h, Option.bind_some, ← hk]
  obtain ⟨o, S'⟩ := r
  cases o <;> rfl
theorem sqK_nx {s : Option (Out × List Ob)} (h : q E S = s) : sqK q (.nx E, S) = s := h
theorem sqK_rt : sqK q (.rt d, S) = some (.rt d, S) := rfl
theorem gN_ev : gN i d E S = some (E.set i (some d), S) := rfl
theorem gSetL_ev {m : Int} (ho : fo E S = some (.ptr k, S1)) (hi : fi E S1 = some (.int m, S2)) (hx : S2[k]? = some (.lst xs)) (hj : ixN xs.length m = some j) : gSetL fo fi d E S = some (E, S2.set k (.lst (xs.set j d))) := by
  unfold gSetL
  rw [ho, Option.bind_some, hi, Option.bind_some]
  simp only [hx, hj]
  rfl
theorem runB_rt {m : Nat} {ds : List D} (h : p (ds.map some ++ List.replicate (m - ds.length) none) S = some (.rt d, S1)) : runB m p ds S = some (d, S1) := by
  unfold runB
  rw [h]
  rfl
theorem runB_nx {m : Nat} {ds : List D} (h : p (ds.map some ++ List.replicate (m - ds.length) none) S = some (.nx E, S1)) : runB m p ds S = some (.non, S1) := by
  unfold runB
  rw [h]
  rfl
/-! ### operators -/
theorem opMod_ev {a m : Int} (h : 0 < m) : opMod S (.int a) (.int m) = some (.int (a % m)) := if_pos h
theorem opDiv_ev {a m : Int} (h : 0 < m ∧ m < 1073741824) : opDiv S (.int a) (.int m) = some (.int (a / m)) := if_pos h
theorem opMul_ev {a m : Int} (h : (-(2 ^ 64) < a ∧ a < 2 ^ 64) ∨ (-(2 ^ 64) < m ∧ m < 2 ^ 64)) : opMul S (.int a) (.int m) = some (.int (a * m)) := if_pos h
theorem atD_ptr {m : Int} (hS : S[k]? = some (.lst xs)) (hi : atI xs m = some d) : atD S (.ptr k) (.int m) = some d := by
  have : seqOf S (.ptr k) = some xs := by simp only [seqOf, tupOf, lstOf, hS]
  simp only [atD, this, hi]
theorem atD_lst {m : Int} (hi : atI xs m = some d) : atD S (.lst xs) (.int m) = some d := by
  have : seqOf S (.lst xs) = some xs := rfl
  simp only [atD, this, hi]
theorem get_set {o : Ob} (h : k < S.length) : (S.set k o)[k]? = some o := List.getElem?_set_self h
end
def fScr (ns : List Int) (i : Nat) (fb : DF D) : DF D := fun E S => match E[i]? with
  | some (some .scr) => dScr ns fb E S
  | _ => none
def fScrLen (ns : List Int) (i : Nat) : DF D := fun E S => match E[i]? with
  | some (some .scr) => some (.int ns.length, S)
  | _ => none
theorem fScr_ev {ns : List Int} {i : Nat} {fb : DF D} {E : SE} {S S1 : List Ob} {j v : Int} (hE : E[i]? = some (some .scr)) (hb : fb E S = some (.int j, S1)) (hv : atI ns j = some v) : fScr ns i fb E S = some (.int v, S1) := by
  unfold fScr
  rw [hE]
  simp only
  unfold dScr
  rw [hb, Option.bind_some]
  simp only [hv]
  rfl
theorem lenOk {α : Type} {xs : List α} (h : xs.length ≤ 1000) : xs.length ≤ sizeLine := Nat.le_trans h (by decide)
end DL

set_option Elab.async false
set_option linter.all false
set_option maxRecDepth 100000
set_option maxHeartbeats 2000000
/-! M1: dict comprehensions and comprehensions of two loops, where the parts change nothing. -/
namespace DL
open PySem PySem.Spec PyProof.Rows L2
theorem putD_len {κ : Type} [DecidableEq κ] (l : List (κ × D)) (k : κ) (d : D) : (putD l k d).length ≤ l.length + 1 := by
  unfold putD
  split
  · rw [List.length_map]
    omega
  · rw [List.length_append, List.length_singleton]
    omega
theorem dcF_pure {tg : DFG} {t : DF Bool} {kx vx : DF D} {s : Src} {E : SE} {S : List Ob} {xs : List D} (b : D → Bool) (key : D → Key) (v : D → D) (E1 : D → SE) (hS : ∀ i, s.at S i = some xs[i]?) (hg : ∀ d ∈ xs, tg d E S = some (E1 d, S)) (ht : ∀ d ∈ xs, t (E1 d) S = some (b d, S))
    (hk : ∀ d ∈ xs, b d = true → ∃ y, kx (E1 d) S = some (y, S) ∧ keyOf y = some (key d)) (he : ∀ d ∈ xs, b d = true → vx (E1 d) S = some (v d, S)) :
    ∀ (n i : Nat) (acc : List (Key × D)), i + n = xs.length → acc.length + n ≤ sizeLine → dcF tg t kx vx s E n i acc S = some (((xs.drop i).filter b).foldl (fun a d => putD a (key d) (v d)) acc, S)
  | 0, i, acc, hi, ha => by
    have e : xs[i]? = none := List.getElem?_eq_none (by omega)
    simp only [dcF, hS, e]
    rw [List.drop_eq_nil_of_le (by omega)]
    rfl
  | n + 1, i, acc, hi, ha => by
    have hlt : i < xs.length := by omega
    have e : xs[i]? = some xs[i] := List.getElem?_eq_getElem hlt
    have hm : xs[i] ∈ xs := List.getElem_mem hlt
    simp only [dcF, hS, e, hg _ hm, Option.bind_some, ht _ hm]
    rw [List.drop_eq_getElem_cons hlt, List.filter_cons]
    cases hb : b xs[i] with
    | false =>
      simp only [Bool.false_eq_true, if_false]
      exact dcF_pure b key v E1 hS hg ht hk he n (i + 1) acc (by omega) (by omega)
    | true =>
      obtain ⟨y, y1, y2⟩ := hk _ hm hb
      simp only [if_true, y1, he _ hm hb, y2, Option.bind_some]
      have := putD_len acc (key xs[i]) (v xs[i])
      rw [if_pos (by omega), dcF_pure b key v E1 hS hg ht hk he n (i + 1) _ (by omega) (by omega)]
      rfl
theorem dDc_pure {vs : List Nat} {fi : DF Src} {tg : DFG} {t : DF Bool} {kx vx : DF D} {s : Src} {E : SE} {S : List Ob} {xs : List D} (b : D → Bool) (key : D → Key) (v : D → D) (E1 : D → SE) (hi : fi E S = some (s, S)) (hS : ∀ i, s.at S i = some xs[i]?) (hl : s.len S = xs.length) (hz : xs.length ≤ sizeLine)
    (hg : ∀ d ∈ xs, tg d (wipeE E vs) S = some (E1 d, S)) (ht : ∀ d ∈ xs, t (E1 d) S = some (b d, S)) (hk : ∀ d ∈ xs, b d = true → ∃ y, kx (E1 d) S = some (y, S) ∧ keyOf y = some (key d)) (he : ∀ d ∈ xs, b d = true → vx (E1 d) S = some (v d, S)) :
    dDc vs fi tg t kx vx E S = some ((xs.filter b).foldl (fun a d => putD a (key d) (v d)) [], S) := by
  unfold dDc
  rw [hi]
  simp only [Option.bind_some]
  rw [hl, dcF_pure b key v E1 hS hg ht hk he xs.length 0 [] (by omega) (by simpa using hz)]
  rfl
theorem lc2F_pure {vs1 : List Nat} {tg tg1 : DFG} {t t1 : DF Bool} {i1 : DF Src} {el : DF D} {s : Src} {E : SE} {S : List Ob} {xs : List D} (b : D → Bool) (E1 : D → SE) (s1 : D → Src) (ys : D → List D) (b2 : D → D → Bool) (v : D → D → D) (E2 : D → D → SE) (hS : ∀ i, s.at S i = some xs[i]?) (hg : ∀ d ∈ xs, tg d E S = some (E1 d, S)) (ht : ∀ d ∈ xs, t (E1 d) S = some (b d, S))
    (hi : ∀ d ∈ xs, b d = true → i1 (E1 d) S = some (s1 d, S)) (h1 : ∀ d ∈ xs, b d = true → ∀ i, (s1 d).at S i = some (ys d)[i]?) (hl : ∀ d ∈ xs, b d = true → (s1 d).len S = (ys d).length)
    (hg1 : ∀ d ∈ xs, b d = true → ∀ e ∈ ys d, tg1 e (wipeE (E1 d) vs1) S = some (E2 d e, S)) (ht1 : ∀ d ∈ xs, b d = true → ∀ e ∈ ys d, t1 (E2 d e) S = some (b2 d e, S)) (he : ∀ d ∈ xs, b d = true → ∀ e ∈ ys d, b2 d e = true → el (E2 d e) S = some (v d e, S)) (m : Nat) (hm : ∀ d ∈ xs, (ys d).length ≤ m) :
    ∀ (n i : Nat) (acc : List D), i + n = xs.length → acc.length + n * m ≤ sizeLine → lc2F vs1 tg t i1 tg1 t1 el s E n i acc S = some (acc ++ ((xs.drop i).filter b).flatMap (fun d => ((ys d).filter (b2 d)).map (v d)), S)
  | 0, i, acc, hi', ha => by
    have e : xs[i]? = none := List.getElem?_eq_none (by omega)
    simp only [lc2F, hS, e]
    rw [List.drop_eq_nil_of_le (by omega)]
    simp
  | n + 1, i, acc, hi', ha => by
    have hlt : i < xs.length := by omega
    have e : xs[i]? = some xs[i] := List.getElem?_eq_getElem hlt
    have hx : xs[i] ∈ xs := List.getElem_mem hlt
    rw [Nat.succ_mul] at ha
    simp only [lc2F, hS, e, hg _ hx, Option.bind_some, ht _ hx]
    rw [List.drop_eq_getElem_cons hlt, List.filter_cons]
    cases hb : b xs[i] with
    | false =>
      simp only [Bool.false_eq_true, if_false]
      exact lc2F_pure b E1 s1 ys b2 v E2 hS hg ht hi h1 hl hg1 ht1 he m hm n (i + 1) acc (by omega) (by omega)
    | true =>
      have hm' := hm _ hx
      simp only [if_true, hi _ hx hb, hl _ hx hb, Option.bind_some]
      rw [lcF_pure (b2 xs[i]) (v xs[i]) (E2 xs[i]) (h1 _ hx hb) (hg1 _ hx hb) (ht1 _ hx hb) (he _ hx hb) (ys xs[i]).length 0 acc (by omega) (by omega)]
      simp only [Option.bind_some, List.drop_zero]
      have hlen : (((ys xs[i]).filter (b2 xs[i])).map (v xs[i])).length ≤ m := by
        rw [List.length_map]
        exact Nat.le_trans (List.length_filter_le _ _) hm'
      rw [lc2F_pure b E1 s1 ys b2 v E2 hS hg ht hi h1 hl hg1 ht1 he m hm n (i + 1) _ (by omega) (by rw [List.length_append]; omega)]
      simp [List.flatMap_cons]
theorem dLc2_pure {vs vs1 : List Nat} {fi : DF Src} {tg tg1 : DFG} {t t1 : DF Bool} {i1 : DF Src} {el : DF D} {s : Src} {E : SE} {S : List Ob} {xs : List D} (b : D → Bool) (E1 : D → SE) (s1 : D → Src) (ys : D → List D) (b2 : D → D → Bool) (v : D → D → D) (E2 : D → D → SE) (hi0 : fi E S = some (s, S)) (hS : ∀ i, s.at S i = some xs[i]?) (hl0 : s.len S = xs.length) (hg : ∀ d ∈ xs, tg d (wipeE E vs) S = some (E1 d, S)) (ht : ∀ d ∈ xs, t (E1 d) S = some (b d, S))
    (hi : ∀ d ∈ xs, b d = true → i1 (E1 d) S = some (s1 d, S)) (h1 : ∀ d ∈ xs, b d = true → ∀ i, (s1 d).at S i = some (ys d)[i]?) (hl : ∀ d ∈ xs, b d = true → (s1 d).len S = (ys d).length)
    (hg1 : ∀ d ∈ xs, b d = true → ∀ e ∈ ys d, tg1 e (wipeE (E1 d) vs1) S = some (E2 d e, S)) (ht1 : ∀ d ∈ xs, b d = true → ∀ e ∈ ys d, t1 (E2 d e) S = some (b2 d e, S)) (he : ∀ d ∈ xs, b d = true → ∀ e ∈ ys d, b2 d e = true → el (E2 d e) S = some (v d e, S)) (m : Nat) (hm : ∀ d ∈ xs, (ys d).length ≤ m) (hz : xs.length * m ≤ sizeLine) :
    dLc2 vs vs1 fi tg t i1 tg1 t1 el E S = some ((xs.filter b).flatMap (fun d => ((ys d).filter (b2 d)).map (v d)), S) := by
  unfold dLc2
  rw [hi0]
  simp only [Option.bind_some]
  rw [hl0, lc2F_pure b E1 s1 ys b2 v E2 hS hg ht hi h1 hl hg1 ht1 he m hm xs.length 0 [] (by omega) (by simpa using hz)]
  simp
end DL

set_option Elab.async false
set_option linter.all false
set_option maxRecDepth 100000
set_option maxHeartbeats 2000000
/-! M2: first occurrences; dicts that are used as sets. -/
namespace DL
open PySem PySem.Spec PyProof.Rows L2
section
variable {α : Type} [DecidableEq α]
def addTo (a : List α) (r : α) : List α := if r ∈ a then a else a ++ [r]
/-- the first occurrences, in order -/
def ded (xs : List α) : List α := xs.foldl addTo []
theorem ded_nil : ded ([] : List α) = [] := rfl
theorem ded_snoc (xs : List α) (r : α) : ded (xs ++ [r]) = addTo (ded xs) r := by
  unfold ded
  rw [List.foldl_append]
  rfl
theorem snoc_ind {P : List α → Prop} (h0 : P []) (h1 : ∀ xs r, P xs → P (xs ++ [r])) : ∀ xs, P xs := fun xs => by
  rw [← List.reverse_reverse xs]
  induction xs.reverse with
  | nil => exact h0
  | cons r t ih =>
    rw [List.reverse_cons]
    exact h1 _ _ ih
theorem mem_addTo {a r : α} {xs : List α} : a ∈ addTo xs r ↔ a ∈ xs ∨ a = r := by
  unfold addTo
  split
  · rename_i h
    exact ⟨.inl, fun q => q.elim id fun e => by rw [e]; exact h⟩
  · rw [List.mem_append, List.mem_singleton]
theorem mem_ded {a : α} {xs : List α} : a ∈ ded xs ↔ a ∈ xs := by
  induction xs using snoc_ind with
  | h0 => simp [ded_nil]
  | h1 xs r ih => rw [ded_snoc, mem_addTo, ih, List.mem_append, List.mem_singleton]
theorem nodup_ded (xs : List α) : (ded xs).Nodup := by
  induction xs using snoc_ind with
  | h0 => exact List.nodup_nil
  | h1 xs r ih =>
    rw [ded_snoc, addTo]
    split
    · exact ih
    · rename_i h
      refine List.nodup_append.mpr ⟨ih, by simp, fun a ha b hb e => h ?_⟩
      rw [← List.mem_singleton.mp hb, ← e]
      exact ha
theorem ded_len (xs : List α) : (ded xs).length ≤ xs.length := by
  induction xs using snoc_ind with
  | h0 => exact Nat.le_refl _
  | h1 xs r ih =>
    rw [ded_snoc, addTo]
    split
    · rw [List.length_append]
      omega
    · rw [List.length_append, List.length_append]
      omega
theorem ded_filter (p : α → Bool) (xs : List α) : (ded xs).filter p = ded (xs.filter p) := by
  induction xs using snoc_ind with
  | h0 => rfl
  | h1 xs r ih =>
    rw [ded_snoc, addTo, List.filter_append]
    cases hp : p r with
    | false =>
      have e : [r].filter p = [] := by simp [hp]
      rw [e, List.append_nil, ← ih]
      split
      · rfl
      · rw [List.filter_append, e, List.append_nil]
    | true =>
      have e : [r].filter p = [r] := by simp [hp]
      rw [e, ded_snoc, addTo, ← ih]
      by_cases h : r ∈ ded xs
      · rw [if_pos h, if_pos (List.mem_filter.mpr ⟨h, hp⟩)]
      · rw [if_neg h, if_neg (fun q => h (List.mem_filter.mp q).1), List.filter_append, e]
theorem ded_id {xs : List α} (h : xs.Nodup) : ded xs = xs := by
  induction xs using snoc_ind with
  | h0 => rfl
  | h1 xs r ih =>
    obtain ⟨h1, _, h2⟩ := List.nodup_append.mp h
    rw [ded_snoc, ih h1, addTo, if_neg fun q => h2 r q r (List.mem_singleton_self r) rfl]
end
section
variable {κ : Type} [DecidableEq κ]
/-- a set of keys as a dict -/
def setK (xs : List κ) : List (κ × D) := xs.map fun k => (k, .bl true)
theorem any_key (f : κ → D) (xs : List κ) (k : κ) : ((xs.map fun x => (x, f x)).any fun p => decide (p.1 = k)) = decide (k ∈ xs) := by
  induction xs with
  | nil => simp
  | cons x xs ih =>
    rw [List.map_cons, List.any_cons, ih]
    by_cases h : x = k
    · simp [h]
    · have : ¬ k = x := fun e => h e.symm
      simp [h, this]
theorem putD_set (xs : List κ) (k : κ) : putD (setK xs) k (.bl true) = setK (addTo xs k) := by
  unfold putD setK
  rw [any_key (fun _ => D.bl true)]
  unfold addTo
  by_cases h : k ∈ xs
  · rw [if_pos (decide_eq_true h), if_pos h, List.map_map]
    apply List.map_congr_left
    intro x _
    show (if x = k then _ else _) = _
    split
    · rfl
    · rfl
  · rw [if_neg (by rw [decide_eq_false h]; exact Bool.false_ne_true), if_neg h, List.map_append]
    rfl
theorem fold_set (xs : List κ) : xs.foldl (fun a k => putD a k (.bl true)) [] = setK (ded xs) := by
  induction xs using snoc_ind with
  | h0 => rfl
  | h1 xs r ih =>
    rw [List.foldl_append, ih, ded_snoc]
    exact putD_set _ _
theorem getD_set (xs : List κ) (k : κ) : getD' (setK xs) k = if k ∈ xs then some (.bl true) else none := by
  induction xs with
  | nil => rfl
  | cons x xs ih =>
    by_cases h : x = k
    · subst h
      simp [setK, getD']
    · have h2 : ¬ k = x := fun e => h e.symm
      have : getD' (setK (x :: xs)) k = getD' (setK xs) k := by simp [setK, getD', h]
      rw [this, ih]
      simp [h2]
end
end DL

set_option Elab.async false
set_option linter.all false
set_option maxRecDepth 100000
set_option maxHeartbeats 2000000
/-! M3: loops and comprehensions over things of Lean. -/
namespace DL
open PySem PySem.Spec PyProof.Rows L2
structure Gv (s : Src) (S : List Ob) (l : List D) : Prop where
  at_ : ∀ i, s.at S i = some l[i]?
  len : s.len S = l.length
theorem gv_fix {S : List Ob} {l : List D} : Gv (.fix l) S l := ⟨fun _ => rfl, rfl⟩
theorem gv_live {S : List Ob} {d : D} {l : List D} (h : lstOf S d = some l) : Gv (.live d) S l := ⟨live_at h, live_len h⟩
theorem gv_lst {S : List Ob} {l : List D} : Gv (.live (.lst l)) S l := gv_live rfl
theorem gv_ptr {S : List Ob} {k : Nat} {l : List D} (h : S[k]? = some (.lst l)) : Gv (.live (.ptr k)) S l := gv_live (by simp only [lstOf, h])
section
variable {E : SE} {S S1 : List Ob} {α : Type} {xs : List α} {f : α → D} {s : Src} {fi : DF Src} {tg : DFG}
theorem lc_ev {vs : List Nat} {t : DF Bool} {el : DF D} {b : α → Bool} {v : α → D} {E1 : α → SE} (hi : fi E S = some (s, S)) (hs : Gv s S (xs.map f)) (hz : xs.length ≤ sizeLine)
    (hg : ∀ x ∈ xs, tg (f x) (wipeE E vs) S = some (E1 x, S)) (ht : ∀ x ∈ xs, t (E1 x) S = some (b x, S)) (he : ∀ x ∈ xs, b x = true → el (E1 x) S = some (v x, S)) :
    dLc vs fi tg t el E S = some ((xs.filter b).map v, S) := by
  have main : ∀ (n i : Nat) (acc : List D), i + n = xs.length → acc.length + n ≤ sizeLine → lcF tg t el s (wipeE E vs) n i acc S = some (acc ++ ((xs.drop i).filter b).map v, S) := by
    intro n
    induction n with
    | zero =>
      intro i acc hi ha
      have e : (xs.map f)[i]? = none := List.getElem?_eq_none (by rw [List.length_map]; omega)
      simp only [lcF, hs.at_, e]
      rw [List.drop_eq_nil_of_le (by omega)]
      simp
    | succ n ih =>
      intro i acc hi ha
      have hlt : i < xs.length := by omega
      have e : (xs.map f)[i]? = some (f xs[i]) := by rw [List.getElem?_map, List.getElem?_eq_getElem hlt]; rfl
      have hm : xs[i] ∈ xs := List.getElem_mem hlt
      simp only [lcF, hs.at_, e, hg _ hm, Option.bind_some, ht _ hm]
      rw [List.drop_eq_getElem_cons hlt, List.filter_cons]
      cases hb : b xs[i] with
      | false =>
        simp only [Bool.false_eq_true, if_false]
        exact ih (i + 1) acc (by omega) (by omega)
      | true =>
        simp only [if_true, he _ hm hb, Option.bind_some]
        rw [if_pos (by omega), ih (i + 1) (acc ++ [v xs[i]]) (by omega) (by rw [List.length_append, List.length_singleton]; omega)]
        simp
  unfold dLc
  rw [hi]
  simp only [Option.bind_some]
  rw [hs.len, List.length_map, main xs.length 0 [] (by omega) (by simpa using hz)]
  simp
/-- without a test -/
theorem lcm_ev {vs : List Nat} {el : DF D} {v : α → D} {E1 : α → SE} (hi : fi E S = some (s, S)) (hs : Gv s S (xs.map f)) (hz : xs.length ≤ sizeLine)
    (hg : ∀ x ∈ xs, tg (f x) (wipeE E vs) S = some (E1 x, S)) (he : ∀ x ∈ xs, el (E1 x) S = some (v x, S)) :
    dLc vs fi tg dYes el E S = some (xs.map v, S) := by
  have := lc_ev (b := fun _ => true) (vs := vs) (t := dYes) hi hs hz hg (fun _ _ => rfl) (fun x hx _ => he x hx)
  rwa [List.filter_eq_self.mpr (fun _ _ => rfl)] at this
/-- a comprehension whose parts may change the store -/
theorem lc_rel {vs : List Nat} {t : DF Bool} {el : DF D} (I : Nat → List D → List Ob → Prop) (hi : fi E S = some (s, S1)) (hG : ∀ i acc S, I i acc S → Gv s S (xs.map f)) (h0 : I 0 [] S1) (hz : xs.length ≤ sizeLine)
    (step : ∀ i x acc S, I i acc S → xs[i]? = some x → ∃ E1 S2 b S3, tg (f x) (wipeE E vs) S = some (E1, S2) ∧ t E1 S2 = some (b, S3) ∧ (b = false → I (i + 1) acc S3) ∧ (b = true → ∃ d S4, el E1 S3 = some (d, S4) ∧ I (i + 1) (acc ++ [d]) S4)) :
    ∃ ys S', dLc vs fi tg t el E S = some (ys, S') ∧ I xs.length ys S' := by
  have main : ∀ (n i : Nat) (acc : List D) (S : List Ob), i + n = xs.length → acc.length + n ≤ sizeLine → I i acc S → ∃ ys S', lcF tg t el s (wipeE E vs) n i acc S = some (ys, S') ∧ I xs.length ys S' := by
    intro n
    induction n with
    | zero =>
      intro i acc S hi ha h
      have e : (xs.map f)[i]? = none := List.getElem?_eq_none (by rw [List.length_map]; omega)
      refine ⟨acc, S, by simp only [lcF, (hG i acc S h).at_, e], ?_⟩
      rw [show xs.length = i by omega]
      exact h
    | succ n ih =>
      intro i acc S hi ha h
      have hlt : i < xs.length := by omega
      have e : (xs.map f)[i]? = some (f xs[i]) := by rw [List.getElem?_map, List.getElem?_eq_getElem hlt]; rfl
      obtain ⟨E1, S2, b, S3, g1, g2, g3, g4⟩ := step i xs[i] acc S h (List.getElem?_eq_getElem hlt)
      cases b with
      | false =>
        obtain ⟨ys, S', y1, y2⟩ := ih (i + 1) acc S3 (by omega) (by omega) (g3 rfl)
        refine ⟨ys, S', ?_, y2⟩
        simp only [lcF, (hG i acc S h).at_, e, g1, Option.bind_some, g2, Bool.false_eq_true, if_false, y1]
      | true =>
        obtain ⟨d, S4, e1, e2⟩ := g4 rfl
        obtain ⟨ys, S', y1, y2⟩ := ih (i + 1) (acc ++ [d]) S4 (by omega) (by rw [List.length_append, List.length_singleton]; omega) e2
        refine ⟨ys, S', ?_, y2⟩
        simp only [lcF, (hG i acc S h).at_, e, g1, Option.bind_some, g2, if_true, e1]
        rw [if_pos (by omega), y1]
  obtain ⟨ys, S', y1, y2⟩ := main xs.length 0 [] S1 (by omega) (by simpa using hz) h0
  refine ⟨ys, S', ?_, y2⟩
  unfold dLc
  rw [hi]
  simp only [Option.bind_some]
  rw [(hG 0 [] S1 h0).len, List.length_map, y1]
/-- a loop, by a state of Lean -/
theorem for_st {σ : Type} {b : DFS} (rE : σ → SE) (rS : σ → List Ob) (P : Nat → σ → Prop) {st0 : σ} (hi : fi E S = some (s, rS st0)) (hE : E = rE st0) (h0 : P 0 st0) (hG : ∀ i st, P i st → Gv s (rS st) (xs.map f))
    (step : ∀ i x st, P i st → xs[i]? = some x → ∃ E1 S1 st', tg (f x) (rE st) (rS st) = some (E1, S1) ∧ b E1 S1 = some (.nx (rE st'), rS st') ∧ P (i + 1) st') :
    ∃ st', sFor fi tg b E S = some (.nx (rE st'), rS st') ∧ P xs.length st' := by
  subst hE
  obtain ⟨E', S', h1, st', rfl, rfl, h2⟩ := sFor_inv (xs := xs.map f) (tg := tg) (b := b) (fun i E S => ∃ st, E = rE st ∧ S = rS st ∧ P i st) hi (hG 0 st0 h0).len (fun i E S ⟨st, e1, e2, h⟩ => by subst e2; exact (hG i st h).at_ i) ⟨st0, rfl, rfl, h0⟩
    (fun i d E S ⟨st, e1, e2, h⟩ hd => by
      subst e1
      subst e2
      rw [List.getElem?_map] at hd
      obtain ⟨x, hx, rfl⟩ := Option.map_eq_some_iff.mp hd
      obtain ⟨E1, S1, st', g1, g2, g3⟩ := step i x st h hx
      exact ⟨E1, S1, _, _, g1, .inl g2, st', rfl, rfl, g3⟩)
  rw [List.length_map] at h2
  exact ⟨st', h1, h2⟩
/-- a loop whose state is a fold -/
theorem for_fold {σ : Type} {b : DFS} (rE : σ → SE) (rS : σ → List Ob) (stp : σ → α → σ) (P : Nat → σ → Prop) {st0 : σ} (hi : fi E S = some (s, rS st0)) (hE : E = rE st0) (h0 : P 0 st0) (hG : ∀ i st, P i st → Gv s (rS st) (xs.map f))
    (step : ∀ i x st, P i st → xs[i]? = some x → (∃ E1 S1, tg (f x) (rE st) (rS st) = some (E1, S1) ∧ b E1 S1 = some (.nx (rE (stp st x)), rS (stp st x))) ∧ P (i + 1) (stp st x)) :
    sFor fi tg b E S = some (.nx (rE (xs.foldl stp st0)), rS (xs.foldl stp st0)) ∧ P xs.length (xs.foldl stp st0) := by
  obtain ⟨st', h1, h2, h3⟩ := for_st (xs := xs) (f := f) (tg := tg) (b := b) rE rS (fun i st => P i st ∧ st = (xs.take i).foldl stp st0) hi hE ⟨h0, by simp⟩ (fun i st h => hG i st h.1) (fun i x st h hx => by
    obtain ⟨⟨E1, S1, g1, g2⟩, g3⟩ := step i x st h.1 hx
    refine ⟨E1, S1, _, g1, g2, g3, ?_⟩
    rw [List.take_add_one, hx, h.2]
    simp)
  rw [List.take_length] at h3
  subst h3
  exact ⟨h1, h2⟩
theorem sV_ev {vs : List Nat} {g : DFS} {r : Option (Out × List Ob)} (h : g (wipeE E vs) S = r) : sV vs g E S = r := h
theorem sW_ev {vs : List Nat} {g : DFS} {E1 : SE} (h : g E S = some (.nx E1, S1)) : sW vs g E S = some (.nx (wipeE E1 vs), S1) := by
  unfold sW
  rw [h]
  rfl
theorem sW_rt {vs : List Nat} {g : DFS} {d : D} (h : g E S = some (.rt d, S1)) : sW vs g E S = some (.rt d, S1) := by
  unfold sW
  rw [h]
  rfl
theorem iTu_ev {fx : DF D} {d : D} {l : List D} (h : fx E S = some (d, S1)) (ht : tupOf d = some l) : iTu fx E S = some (.fix l, S1) := by
  unfold iTu
  rw [h, Option.bind_some, ht]
  rfl
theorem iSt_ev {fx : DF D} {x : Str} (h : fx E S = some (.str x, S1)) : iSt fx E S = some (.fix (signsOf x), S1) := by
  unfold iSt
  rw [h]
  rfl
/-- two loops -/
theorem lc2_ev {β : Type} {vs vs1 : List Nat} {t : DF Bool} {i1 : DF Src} {tg1 : DFG} {t1 : DF Bool} {el : DF D} {b : α → Bool} {E1 : α → SE} {s1 : α → Src} {ys : α → List β} {g : α → β → D} {b2 : α → β → Bool} {v : α → β → D} {E2 : α → β → SE} (c : Nat)
    (hi : fi E S = some (s, S)) (hs : Gv s S (xs.map f)) (hg : ∀ x ∈ xs, tg (f x) (wipeE E vs) S = some (E1 x, S)) (ht : ∀ x ∈ xs, t (E1 x) S = some (b x, S))
    (hi1 : ∀ x ∈ xs, b x = true → i1 (E1 x) S = some (s1 x, S)) (hs1 : ∀ x ∈ xs, b x = true → Gv (s1 x) S ((ys x).map (g x))) (hg1 : ∀ x ∈ xs, b x = true → ∀ y ∈ ys x, tg1 (g x y) (wipeE (E1 x) vs1) S = some (E2 x y, S))
    (ht1 : ∀ x ∈ xs, b x = true → ∀ y ∈ ys x, t1 (E2 x y) S = some (b2 x y, S)) (he : ∀ x ∈ xs, b x = true → ∀ y ∈ ys x, b2 x y = true → el (E2 x y) S = some (v x y, S))
    (hc : ∀ x ∈ xs, (ys x).length ≤ c) (hz : xs.length * c ≤ sizeLine) :
    dLc2 vs vs1 fi tg t i1 tg1 t1 el E S = some ((xs.filter b).flatMap fun x => ((ys x).filter (b2 x)).map (v x), S) := by
  have inner : ∀ x ∈ xs, b x = true → ∀ (n i : Nat) (acc : List D), i + n = (ys x).length → acc.length + n ≤ sizeLine → lcF tg1 t1 el (s1 x) (wipeE (E1 x) vs1) n i acc S = some (acc ++ (((ys x).drop i).filter (b2 x)).map (v x), S) := by
    intro x hx hb n
    induction n with
    | zero =>
      intro i acc hi ha
      have e : ((ys x).map (g x))[i]? = none := List.getElem?_eq_none (by rw [List.length_map]; omega)
      simp only [lcF, (hs1 x hx hb).at_, e]
      rw [List.drop_eq_nil_of_le (by omega)]
      simp
    | succ n ih =>
      intro i acc hi ha
      have hlt : i < (ys x).length := by omega
      have e : ((ys x).map (g x))[i]? = some (g x (ys x)[i]) := by rw [List.getElem?_map, List.getElem?_eq_getElem hlt]; rfl
      have hm : (ys x)[i] ∈ ys x := List.getElem_mem hlt
      simp only [lcF, (hs1 x hx hb).at_, e, hg1 x hx hb _ hm, Option.bind_some, ht1 x hx hb _ hm]
      rw [List.drop_eq_getElem_cons hlt, List.filter_cons]
      cases hb2 : b2 x (ys x)[i] with
      | false =>
        simp only [Bool.false_eq_true, if_false]
        exact ih (i + 1) acc (by omega) (by omega)
      | true =>
        simp only [if_true, he x hx hb _ hm hb2, Option.bind_some]
        rw [if_pos (by omega), ih (i + 1) (acc ++ [v x (ys x)[i]]) (by omega) (by rw [List.length_append, List.length_singleton]; omega)]
        simp
  have main : ∀ (n i : Nat) (acc : List D), i + n = xs.length → acc.length + n * c ≤ sizeLine → lc2F vs1 tg t i1 tg1 t1 el s (wipeE E vs) n i acc S = some (acc ++ ((xs.drop i).filter b).flatMap fun x => ((ys x).filter (b2 x)).map (v x), S) := by
    intro n
    induction n with
    | zero =>
      intro i acc hi ha
      have e : (xs.map f)[i]? = none := List.getElem?_eq_none (by rw [List.length_map]; omega)
      simp only [lc2F, hs.at_, e]
      rw [List.drop_eq_nil_of_le (by omega)]
      simp
    | succ n ih =>
      intro i acc hi ha
      have hlt : i < xs.length := by omega
      have e : (xs.map f)[i]? = some (f xs[i]) := by rw [List.getElem?_map, List.getElem?_eq_getElem hlt]; rfl
      have hm : xs[i] ∈ xs := List.getElem_mem hlt
      rw [Nat.succ_mul] at ha
      simp only [lc2F, hs.at_, e, hg _ hm, Option.bind_some, ht _ hm]
      rw [List.drop_eq_getElem_cons hlt, List.filter_cons]
      cases hb : b xs[i] with
      | false =>
        simp only [Bool.false_eq_true, if_false]
        exact ih (i + 1) acc (by omega) (by omega)
      | true =>
        have hl := hc _ hm
        simp only [if_true, hi1 _ hm hb, Option.bind_some]
        rw [(hs1 _ hm hb).len, List.length_map, inner _ hm hb (ys xs[i]).length 0 acc (by omega) (by omega)]
        simp only [Option.bind_some, List.drop_zero]
        rw [ih (i + 1) _ (by omega) (by
          rw [List.length_append, List.length_map]
          have := List.length_filter_le (b2 xs[i]) (ys xs[i])
          omega)]
        simp
  unfold dLc2
  rw [hi]
  simp only [Option.bind_some]
  rw [hs.len, List.length_map, main xs.length 0 [] (by omega) (by simpa using hz)]
  simp
end
end DL

set_option Elab.async false
set_option linter.all false
/-! T0: codes as trees. -/
namespace DL
abbrev Row := List Bool
inductive Tr where
  | no | lf | nd (a b : Tr)
  deriving DecidableEq
namespace Tr
def words : Tr → List Row
  | no => []
  | lf => [[]]
  | nd a b => (words a).map (List.cons false) ++ (words b).map (List.cons true)
def heads : Tr → List Row
  | no => []
  | lf => []
  | nd a b => [] :: ((heads a).map (List.cons false) ++ (heads b).map (List.cons true))
/-- each place has a word behind it -/
def ok : Tr → Prop
  | no => True
  | lf => True
  | nd a b => ok a ∧ ok b ∧ ¬ (a = no ∧ b = no)
def full : Tr → Prop
  | no => False
  | lf => True
  | nd a b => full a ∧ full b
def size : Tr → Nat
  | no => 0
  | lf => 1
  | nd a b => size a + size b
def hgt : Tr → Nat
  | no => 0
  | lf => 0
  | nd a b => max (hgt a) (hgt b) + 1
theorem words_len : ∀ t : Tr, (words t).length = size t
  | no => rfl
  | lf => rfl
  | nd a b => by simp [words, size, words_len a, words_len b]
theorem mem_words_nd {a b : Tr} {w : Row} : w ∈ words (nd a b) ↔ ∃ x v, w = x :: v ∧ v ∈ words (if x then b else a) := by
  simp only [words, List.mem_append, List.mem_map]
  constructor
  · rintro (⟨v, h, rfl⟩ | ⟨v, h, rfl⟩)
    · exact ⟨false, v, rfl, h⟩
    · exact ⟨true, v, rfl, h⟩
  · rintro ⟨x, v, rfl, h⟩
    cases x
    · exact .inl ⟨v, h, rfl⟩
    · exact .inr ⟨v, h, rfl⟩
theorem mem_heads_nd {a b : Tr} {w : Row} : w ∈ heads (nd a b) ↔ w = [] ∨ ∃ x v, w = x :: v ∧ v ∈ heads (if x then b else a) := by
  simp only [heads, List.mem_cons, List.mem_append, List.mem_map]
  constructor
  · rintro (h | ⟨v, h, rfl⟩ | ⟨v, h, rfl⟩)
    · exact .inl h
    · exact .inr ⟨false, v, rfl, h⟩
    · exact .inr ⟨true, v, rfl, h⟩
  · rintro (h | ⟨x, v, rfl, h⟩)
    · exact .inl h
    · cases x
      · exact .inr (.inl ⟨v, h, rfl⟩)
      · exact .inr (.inr ⟨v, h, rfl⟩)
theorem len_hgt : ∀ {t : Tr} {w : Row}, w ∈ words t → w.length ≤ hgt t
  | no, w, h => nomatch h
  | lf, w, h => by simp [words] at h; subst h; simp
  | nd a b, w, h => by
    obtain ⟨x, v, rfl, hv⟩ := mem_words_nd.mp h
    simp only [hgt, List.length_cons]
    cases x with
    | false =>
      have := len_hgt (t := a) hv
      omega
    | true =>
      have := len_hgt (t := b) hv
      omega
theorem hgt_word : ∀ {t : Tr}, t.ok → t ≠ no → ∃ w ∈ words t, w.length = hgt t
  | no, _, h => absurd rfl h
  | lf, _, _ => ⟨[], by simp [words], rfl⟩
  | nd a b, ⟨ha, hb, hn⟩, _ => by
    by_cases h1 : a = no
    · have h2 : b ≠ no := fun e => hn ⟨h1, e⟩
      obtain ⟨w, hw, hl⟩ := hgt_word hb h2
      subst h1
      exact ⟨true :: w, mem_words_nd.mpr ⟨true, w, rfl, hw⟩, by simp [hgt, hl]⟩
    · obtain ⟨w, hw, hl⟩ := hgt_word ha h1
      by_cases h2 : b = no
      · subst h2
        exact ⟨false :: w, mem_words_nd.mpr ⟨false, w, rfl, hw⟩, by simp [hgt, hl]⟩
      · obtain ⟨v, hv, hl2⟩ := hgt_word hb h2
        by_cases h3 : hgt a ≤ hgt b
        · exact ⟨true :: v, mem_words_nd.mpr ⟨true, v, rfl, hv⟩, by simp only [List.length_cons, hgt]; omega⟩
        · exact ⟨false :: w, mem_words_nd.mpr ⟨false, w, rfl, hw⟩, by simp only [List.length_cons, hgt]; omega⟩
theorem hgt_le {t : Tr} (hk : t.ok) {M : Nat} (h : ∀ w ∈ words t, w.length ≤ M) : hgt t ≤ M := by
  by_cases e : t = no
  · subst e
    exact Nat.zero_le _
  · obtain ⟨w, hw, hl⟩ := hgt_word hk e
    rw [← hl]
    exact h w hw
theorem hgt_size : ∀ {t : Tr}, full t → hgt t + 1 ≤ size t
  | no, h => h.elim
  | lf, _ => Nat.le_refl _
  | nd a b, ⟨h1, h2⟩ => by
    have := hgt_size h1
    have := hgt_size h2
    simp only [hgt, size]
    omega
theorem nodup_words : ∀ t : Tr, (words t).Nodup
  | no => List.nodup_nil
  | lf => by simp [words]
  | nd a b => by
    simp only [words]
    refine List.nodup_append.mpr ⟨?_, ?_, ?_⟩
    · exact List.pairwise_map.mpr ((nodup_words a).imp fun h e => h (List.cons.inj e).2)
    · exact List.pairwise_map.mpr ((nodup_words b).imp fun h e => h (List.cons.inj e).2)
    · intro x hx y hy e
      obtain ⟨v, _, rfl⟩ := List.mem_map.mp hx
      obtain ⟨u, _, rfl⟩ := List.mem_map.mp hy
      cases e
theorem nodup_heads : ∀ t : Tr, (heads t).Nodup
  | no => List.nodup_nil
  | lf => List.nodup_nil
  | nd a b => by
    simp only [heads]
    refine List.nodup_cons.mpr ⟨?_, List.nodup_append.mpr ⟨?_, ?_, ?_⟩⟩
    · intro h
      simp at h
    · exact List.pairwise_map.mpr ((nodup_heads a).imp fun h e => h (List.cons.inj e).2)
    · exact List.pairwise_map.mpr ((nodup_heads b).imp fun h e => h (List.cons.inj e).2)
    · intro x hx y hy e
      obtain ⟨v, _, rfl⟩ := List.mem_map.mp hx
      obtain ⟨u, _, rfl⟩ := List.mem_map.mp hy
      cases e
/-- no word begins with another one, nor is it a state -/
theorem no_pre : ∀ {t : Tr} {w : Row} (i : Nat), w ∈ words t → i < w.length → w.take i ∉ words t
  | no, w, i, h, _, _ => nomatch h
  | lf, w, i, h, hi, _ => by simp [words] at h; subst h; exact absurd hi (by simp)
  | nd a b, w, i, h, hi, h2 => by
    obtain ⟨x, v, rfl, hv⟩ := mem_words_nd.mp h
    cases i with
    | zero =>
      obtain ⟨y, u, e, _⟩ := mem_words_nd.mp h2
      cases e
    | succ i =>
      obtain ⟨y, u, e, h3⟩ := mem_words_nd.mp h2
      rw [List.take_succ_cons] at e
      obtain ⟨rfl, rfl⟩ := List.cons.inj e
      have hi' : i < v.length := by simpa using hi
      cases x with
      | false => exact no_pre (t := a) i hv hi' h3
      | true => exact no_pre (t := b) i hv hi' h3
/-- the states are the beginnings of words -/
theorem mem_heads : ∀ {t : Tr} (_ : ok t) {s : Row}, s ∈ heads t ↔ ∃ w ∈ words t, ∃ i, i < w.length ∧ s = w.take i
  | no, _, s => by simp [heads, words]
  | lf, _, s => by simp [heads, words]
  | nd a b, ⟨ha, hb, hn⟩, s => by
    rw [mem_heads_nd]
    constructor
    · rintro (rfl | ⟨x, v, rfl, h⟩)
      · have live : ∀ t : Tr, ok t → t ≠ no → ∃ w, w ∈ words t := by
          intro t
          induction t with
          | no => exact fun _ h => absurd rfl h
          | lf => exact fun _ _ => ⟨[], by simp [words]⟩
          | nd p q ihp ihq =>
            rintro ⟨h1, h2, h3⟩ _
            by_cases hp : p = no
            · obtain ⟨w, hw⟩ := ihq h2 fun e => h3 ⟨hp, e⟩
              exact ⟨true :: w, mem_words_nd.mpr ⟨true, w, rfl, hw⟩⟩
            · obtain ⟨w, hw⟩ := ihp h1 hp
              exact ⟨false :: w, mem_words_nd.mpr ⟨false, w, rfl, hw⟩⟩
        obtain ⟨w, hw⟩ := live (nd a b) ⟨ha, hb, hn⟩ (by intro e; cases e)
        obtain ⟨x, v, rfl, _⟩ := mem_words_nd.mp hw
        exact ⟨_, hw, 0, by simp, by simp⟩
      · cases x with
        | false =>
          obtain ⟨w, hw, i, hi, rfl⟩ := (mem_heads (t := a) ha).mp h
          exact ⟨false :: w, mem_words_nd.mpr ⟨false, w, rfl, hw⟩, i + 1, by simpa using hi, by simp⟩
        | true =>
          obtain ⟨w, hw, i, hi, rfl⟩ := (mem_heads (t := b) hb).mp h
          exact ⟨true :: w, mem_words_nd.mpr ⟨true, w, rfl, hw⟩, i + 1, by simpa using hi, by simp⟩
    · rintro ⟨w, hw, i, hi, rfl⟩
      obtain ⟨x, v, rfl, h⟩ := mem_words_nd.mp hw
      cases i with
      | zero => exact .inl (by simp)
      | succ i =>
        have hi' : i < v.length := by simpa using hi
        cases x with
        | false => exact .inr ⟨false, v.take i, by simp, (mem_heads (t := a) ha).mpr ⟨v, h, i, hi', rfl⟩⟩
        | true => exact .inr ⟨true, v.take i, by simp, (mem_heads (t := b) hb).mpr ⟨v, h, i, hi', rfl⟩⟩
theorem full_ok : ∀ {t : Tr}, full t → ok t
  | no, h => h.elim
  | lf, _ => trivial
  | nd a b, ⟨h1, h2⟩ => ⟨full_ok h1, full_ok h2, fun h => by rw [h.1] at h1; exact h1⟩
/-- Kraft's sum -/
def kraft (L : Nat) : Tr → Nat
  | no => 0
  | lf => 2 ^ L
  | nd a b => kraft (L - 1) a + kraft (L - 1) b
theorem kraft_sum : ∀ (t : Tr) (L : Nat), hgt t ≤ L → ((words t).map fun w => 2 ^ (L - w.length)).sum = kraft L t
  | no, L, _ => rfl
  | lf, L, _ => by simp [words, kraft]
  | nd a b, L, h => by
    simp only [hgt] at h
    have e : ∀ x : Bool, (fun w : Row => 2 ^ (L - w.length)) ∘ (List.cons x) = fun w : Row => 2 ^ (L - 1 - w.length) := by
      intro x
      funext w
      simp only [Function.comp, List.length_cons]
      congr 1
      omega
    simp only [words, kraft, List.map_append, List.map_map, List.sum_append_nat, e]
    rw [kraft_sum a (L - 1) (by omega), kraft_sum b (L - 1) (by omega)]
theorem kraft_le : ∀ (t : Tr) (L : Nat), hgt t ≤ L → kraft L t ≤ 2 ^ L ∧ (kraft L t = 2 ^ L ↔ full t)
  | no, L, _ => ⟨Nat.zero_le _, ⟨fun h => by have := Nat.two_pow_pos L; simp only [kraft] at h; omega, fun h => h.elim⟩⟩
  | lf, L, _ => ⟨Nat.le_refl _, by simp [kraft, full]⟩
  | nd a b, L, h => by
    simp only [hgt] at h
    obtain ⟨h1, h2⟩ := kraft_le a (L - 1) (by omega)
    obtain ⟨h3, h4⟩ := kraft_le b (L - 1) (by omega)
    have e : 2 ^ L = 2 ^ (L - 1) + 2 ^ (L - 1) := by
      obtain ⟨M, rfl⟩ : ∃ M, L = M + 1 := ⟨L - 1, by omega⟩
      rw [Nat.add_sub_cancel, Nat.pow_succ]
      omega
    simp only [kraft, full, ← h2, ← h4]
    omega
/-- the bits that can be read: how many -/
def ways : Tr → Nat
  | nd a b => (if a = no then 0 else 1) + (if b = no then 0 else 1) + ways a + ways b
  | _ => 0
theorem ways_le : ∀ (t : Tr), ways t ≤ 2 * (heads t).length ∧ (t ≠ no → (ways t = 2 * (heads t).length ↔ full t))
  | no => ⟨by simp [ways], fun h => absurd rfl h⟩
  | lf => ⟨by simp [ways], fun h => by simp [ways, heads, full]⟩
  | nd a b => by
    obtain ⟨h1, h2⟩ := ways_le a
    obtain ⟨h3, h4⟩ := ways_le b
    simp only [ways, heads, full, List.length_cons, List.length_append, List.length_map]
    by_cases ha : a = no
    · subst ha
      by_cases hb : b = no
      · subst hb
        simp [full, ways, heads]
      · have := h4 hb
        simp only [if_pos, if_neg hb, ways, heads, List.length_nil, full]
        refine ⟨by omega, fun _ => ⟨fun h => by omega, fun h => h.1.elim⟩⟩
    · by_cases hb : b = no
      · subst hb
        simp only [if_pos, if_neg ha, ways, heads, List.length_nil, full]
        refine ⟨by omega, fun _ => ⟨fun h => by omega, fun h => h.2.elim⟩⟩
      · have e1 := h2 ha
        have e2 := h4 hb
        simp only [if_neg ha, if_neg hb, ← e1, ← e2]
        omega
/-- a word parted -/
def split : Tr → Nat → Tr
  | no, _ => no
  | lf, 0 => nd lf lf
  | lf, _ + 1 => lf
  | nd a b, i => if i < size a then nd (split a i) b else nd a (split b (i - size a))
theorem split_words : ∀ (t : Tr) (i : Nat) (w : Row), (words t)[i]? = some w → words (split t i) = (words t).take i ++ [w ++ [false], w ++ [true]] ++ (words t).drop (i + 1)
  | no, i, w, h => by simp [words] at h
  | lf, 0, w, h => by
    simp [words] at h
    subst h
    rfl
  | lf, i + 1, w, h => by simp [words] at h
  | nd a b, i, w, h => by
    simp only [words] at h
    have hl : ((words a).map (List.cons false)).length = size a := by rw [List.length_map, words_len]
    by_cases hi : i < size a
    · rw [List.getElem?_append_left (by rw [hl]; exact hi), List.getElem?_map] at h
      obtain ⟨v, hv, rfl⟩ := Option.map_eq_some_iff.mp h
      simp only [split, if_pos hi, words, split_words a i v hv]
      rw [List.take_append_of_le_length (by rw [hl]; omega), List.drop_append_of_le_length (by rw [hl]; omega)]
      simp [List.map_take, List.map_drop]
    · rw [List.getElem?_append_right (by rw [hl]; omega), hl, List.getElem?_map] at h
      obtain ⟨v, hv, rfl⟩ := Option.map_eq_some_iff.mp h
      simp only [split, if_neg hi, words, split_words b (i - size a) v hv]
      have d1 : ((words a).map (List.cons false)).take i = (words a).map (List.cons false) := List.take_of_length_le (by rw [hl]; omega)
      have d2 : ((words a).map (List.cons false)).drop (i + 1) = [] := List.drop_of_length_le (by rw [hl]; omega)
      rw [List.take_append, List.drop_append, hl, d1, d2]
      rw [show i + 1 - size a = i - size a + 1 by omega]
      simp [List.map_take, List.map_drop]
theorem split_full : ∀ {t : Tr} (i : Nat), full t → full (split t i)
  | no, i, h => h.elim
  | lf, 0, _ => ⟨trivial, trivial⟩
  | lf, i + 1, _ => trivial
  | nd a b, i, ⟨h1, h2⟩ => by
    unfold split
    split
    · exact ⟨split_full i h1, h2⟩
    · exact ⟨h1, split_full _ h2⟩
theorem split_ok : ∀ {t : Tr} (i : Nat), ok t → ok (split t i)
  | no, i, h => h
  | lf, 0, _ => ⟨trivial, trivial, fun h => nomatch h.1⟩
  | lf, i + 1, _ => trivial
  | nd a b, i, ⟨h1, h2, h3⟩ => by
    have ne : ∀ (t : Tr) (i : Nat), split t i = no → t = no := by
      intro t i h
      cases t with
      | no => rfl
      | lf => cases i <;> cases h
      | nd p q =>
        unfold split at h
        split at h <;> cases h
    unfold split
    split
    · exact ⟨split_ok i h1, h2, fun h => h3 ⟨ne _ _ h.1, h.2⟩⟩
    · exact ⟨h1, split_ok _ h2, fun h => h3 ⟨h.1, ne _ _ h.2⟩⟩
theorem split_hgt : ∀ (t : Tr) (i : Nat), hgt (split t i) ≤ hgt t + 1
  | no, i => Nat.zero_le _
  | lf, 0 => Nat.le_refl _
  | lf, i + 1 => Nat.zero_le _
  | nd a b, i => by
    unfold split
    split
    · have := split_hgt a i
      simp only [hgt]
      omega
    · have := split_hgt b (i - size a)
      simp only [hgt]
      omega
theorem split_size : ∀ {t : Tr} {i : Nat}, i < size t → size (split t i) = size t + 1
  | no, i, h => by simp [size] at h
  | lf, 0, _ => rfl
  | lf, i + 1, h => by simp [size] at h
  | nd a b, i, h => by
    unfold split
    split
    · rename_i hi
      simp only [size, split_size hi]
      omega
    · rename_i hi
      simp only [size] at h ⊢
      rw [split_size (t := b) (i := i - size a) (by omega)]
      omega
/-- some words left out -/
def mk : Tr → Tr → Tr
  | no, no => no
  | a, b => nd a b
theorem mk_words : ∀ a b : Tr, words (mk a b) = (words a).map (List.cons false) ++ (words b).map (List.cons true)
  | no, no => rfl
  | no, lf => rfl
  | no, nd _ _ => rfl
  | lf, _ => rfl
  | nd _ _, _ => rfl
theorem mk_ok : ∀ {a b : Tr}, ok a → ok b → ok (mk a b)
  | no, no, _, _ => trivial
  | no, lf, h1, h2 => ⟨h1, h2, fun h => nomatch h.2⟩
  | no, nd _ _, h1, h2 => ⟨h1, h2, fun h => nomatch h.2⟩
  | lf, _, h1, h2 => ⟨h1, h2, fun h => nomatch h.1⟩
  | nd _ _, _, h1, h2 => ⟨h1, h2, fun h => nomatch h.1⟩
theorem mk_hgt : ∀ {a b : Tr}, hgt (mk a b) ≤ max (hgt a) (hgt b) + 1
  | no, no => Nat.zero_le _
  | no, lf => Nat.le_refl _
  | no, nd _ _ => Nat.le_refl _
  | lf, _ => Nat.le_refl _
  | nd _ _, _ => Nat.le_refl _
theorem mk_size : ∀ {a b : Tr}, size (mk a b) = size a + size b
  | no, no => rfl
  | no, lf => rfl
  | no, nd _ _ => rfl
  | lf, _ => rfl
  | nd _ _, _ => rfl
/-- any words of a code that stand in its order make a code again -/
theorem sub_tree : ∀ (t : Tr) {l : List Row}, ok t → List.Sublist l (words t) → ∃ t', words t' = l ∧ ok t' ∧ hgt t' ≤ hgt t
  | no, l, _, h => ⟨no, (List.sublist_nil.mp h).symm, trivial, Nat.le_refl _⟩
  | lf, l, _, h => by
    rcases (show l = [] ∨ l = [[]] by
      cases h with
      | cons _ h => exact .inl (List.sublist_nil.mp h)
      | cons_cons _ h => exact .inr (by rw [List.sublist_nil.mp h])) with rfl | rfl
    · exact ⟨no, rfl, trivial, Nat.le_refl _⟩
    · exact ⟨lf, rfl, trivial, Nat.le_refl _⟩
  | nd a b, l, ⟨h1, h2, _⟩, h => by
    obtain ⟨l1, l2, rfl, s1, s2⟩ := List.sublist_append_iff.mp h
    obtain ⟨m1, r1, rfl⟩ := List.sublist_map_iff.mp s1
    obtain ⟨m2, r2, rfl⟩ := List.sublist_map_iff.mp s2
    obtain ⟨ta, e1, k1, g1⟩ := sub_tree a h1 r1
    obtain ⟨tb, e2, k2, g2⟩ := sub_tree b h2 r2
    refine ⟨mk ta tb, by rw [mk_words, e1, e2], mk_ok k1 k2, Nat.le_trans mk_hgt ?_⟩
    simp only [hgt]
    omega
end Tr
end DL

set_option Elab.async false
set_option linter.all false
set_option maxRecDepth 100000
set_option maxHeartbeats 4000000
/-! P1: what the program's defs and the laws' helpers compute. -/
namespace DL
open PySem PySem.Spec PyProof.Rows L2
local macro_rules | `(tactic| walk_at "dl") => `(tactic| first
  | exact dVar_ev rfl | exact dC_ev | exact dNil_ev | exact dNoPart_ev | exact sNil_ev | exact gN_ev | exact sqK_rt
  | apply dBin_ev | apply dTest_ev | apply dNot_ev | apply sIf_ev | apply dIf_ev | apply dAnd_ev | apply dOr_ev | apply dAndV_ev | apply dOrV_ev | apply dCons_ev | apply few_ev | apply dTree_ev | apply dNew_ev | apply dTup_ev | apply dCB_ev | apply dIsi_ev | apply dFld_ev | apply dPart_ev | apply sAsg_ev | apply sRet_ev | apply sDrop_ev | apply sAsgG_ev | apply sSeq_ev | apply sqK_nx | apply gSetL_ev | apply ifK_t | apply ifK_f
  | apply dCall_ev | apply fScr_ev | exact lenOk (Nat.le_of_ble_eq_true rfl)
  | refine ifK_dt (by first | assumption | decide | omega) ?_ | refine ifK_df (by first | assumption | decide | omega) ?_
  | exact opMod_ev (by first | assumption | decide | omega) | exact opMul_ev (.inl (by omega)) | exact opMul_ev (.inr (by omega)) | exact opDiv_ev (by first | assumption | decide | omega) | (refine (@id.{0} _ ?_); assumption) | (with_reducible rfl) | rfl)
section
variable {C : Ctx}
def g__law_draw : DFS := (sSeq (sIf (dTest (dBin opGt (dBin atD (dVar 0) (dC (.int 0))) (dC (.int 0)))) (sSeq (sAsg 2 (dBin opMod (dCB fInt (dCons (dBin atD (dVar 0) (dC (.int 0))) dNil)) (dVar 1)))
    (sSeq (sAsgG (dBin opDiv (dBin atD (dVar 0) (dC (.int 0))) (dVar 1)) (gSetL (dVar 0) (dC (.int 0))))
    (sRet (dVar 2)))) sNil)
    (sSeq (sAsg 3 (dBin opAdd (dBin atD (dVar 0) (dC (.int 2))) (dC (.int 1))))
    (sSeq (sAsgG (dVar 3) (gSetL (dVar 0) (dC (.int 2))))
    (sSeq (sAsg 4 (dBin opMod (dCB fInt (dCons (dBin opMul (dBin opAdd (dBin atD (dVar 0) (dC (.int 1))) (dBin opMul (dC (.int 104729)) (dVar 3))) (dBin opAdd (dBin opMul (dVar 3) (dVar 3)) (dC (.int 7919)))) dNil)) (dC (.int 2147483629))))
    (sSeq (sAsg 4 (dBin opMod (dCB fInt (dCons (dBin opAdd (dBin opMul (dVar 4) (dVar 4)) (dVar 3)) dNil)) (dC (.int 2147483587))))
    (sRet (dBin opMod (dBin opDiv (dBin opMod (dCB fInt (dCons (dBin opMul (dVar 4) (dC (.int 48271))) dNil)) (dC (.int 2147483647))) (dC (.int 64))) (dVar 1))))))))
def g__law_purse (C : Ctx) : DFS := (sSeq (sAsg 2 (dC (.int 0)))
    (sSeq (sIf (dTest (dBin opLt (dVar 1) (fScrLen C.ns 0))) (sAsg 2 (fScr C.ns 0 (dVar 1))) sNil)
    (sRet (dNew (few (dCons (dBin opMod (dCB fInt (dCons (dCB fMax2 (dCons (dBin opSub (dVar 2) (dBin opPow (dC (.int 10)) (dC (.int 18)))) (dCons (dC (.int 0)) dNil))) dNil)) (dBin opPow (dBin opPow (dC (.int 10)) (dC (.int 40))) (dC (.int 10)))) (dCons (dBin opMod (dCB fInt (dCons (dBin opAdd (dVar 2) (dBin opMul (dC (.int 7919)) (dVar 1))) dNil)) (dC (.int 2147483629))) (dCons (dC (.int 0)) dNil))))))))
/-- what the draw computes -/
def c__law_draw := runB 5 g__law_draw
theorem at3 {a b c : Int} : atI [D.int a, .int b, .int c] 0 = some (.int a) ∧ atI [D.int a, .int b, .int c] 1 = some (.int b) ∧ atI [D.int a, .int b, .int c] 2 = some (.int c) := ⟨rfl, rfl, rfl⟩
theorem draw_pos {S : List Ob} {p : Nat} {m a b c : Int} (hS : S[p]? = some (pu a b c)) (ha : 0 < a) (hm : 0 < m) (hm2 : m < 1073741824) : c__law_draw [.ptr p, .int m] S = some (.int (a % m), S.set p (pu (a / m) b c)) := by
  refine runB_rt ?_
  unfold g__law_draw
  have h0 : atD S (.ptr p) (.int 0) = some (.int a) := atD_ptr hS rfl
  repeat' (walk_at "dl")
theorem draw_zero {S : List Ob} {p : Nat} {m a b c : Int} (hS : S[p]? = some (pu a b c)) (ha : ¬ 0 < a) (hm : 0 < m) (hb : 0 ≤ b) (hb2 : b < 2147483648) (hc : 0 ≤ c) (hc2 : c < 1073741824) : ∃ r, c__law_draw [.ptr p, .int m] S = some (.int r, S.set p (pu a b (c + 1))) ∧ 0 ≤ r ∧ r < m := by
  have hp : p < S.length := (List.getElem?_eq_some_iff.mp hS).1
  have h0 : atD S (.ptr p) (.int 0) = some (.int a) := atD_ptr hS rfl
  have h2 : atD S (.ptr p) (.int 2) = some (.int c) := atD_ptr hS rfl
  have h1 : atD (S.set p (pu a b (c + 1))) (.ptr p) (.int 1) = some (.int b) := atD_ptr (get_set hp) rfl
  have key : ∃ x : Int, c__law_draw [.ptr p, .int m] S = some (.int (x % m), S.set p (pu a b (c + 1))) := by
    apply Exists.intro
    refine runB_rt ?_
    unfold g__law_draw
    repeat' (walk_at "dl")
  obtain ⟨x, hx⟩ := key
  exact ⟨_, hx, Int.emod_nonneg _ (by omega), Int.emod_lt_of_pos _ hm⟩
theorem draw_ok {S : List Ob} {p n : Nat} {m : Int} (h : Pu S p n) (hm : 0 < m) (hm2 : m < 1073741824) (hn : n < 1000000) : ∃ r S', c__law_draw [.ptr p, .int m] S = some (.int r, S') ∧ 0 ≤ r ∧ r < m ∧ Pu S' p (n + 1) ∧ But p S S' := by
  obtain ⟨a, b, c, hS, ha, hb, hb2, hc, hc2⟩ := h.ex
  have hp : p < S.length := (List.getElem?_eq_some_iff.mp hS).1
  by_cases hz : 0 < a
  · exact ⟨_, _, draw_pos hS hz hm hm2, Int.emod_nonneg _ (by omega), Int.emod_lt_of_pos _ hm, ⟨_, _, _, get_set hp, Int.ediv_nonneg ha (by omega), hb, hb2, hc, by omega⟩, But.set _ _ _⟩
  · obtain ⟨r, h1, h2, h3⟩ := draw_zero hS hz hm hb hb2 hc (by omega)
    exact ⟨r, _, h1, h2, h3, ⟨_, _, _, get_set hp, ha, hb, hb2, by omega, by omega⟩, But.set _ _ _⟩
def c__law_purse (C : Ctx) := runB 3 (g__law_purse C)
theorem purse_ok {S : List Ob} {t : Int} (ht : 0 ≤ t) (ht2 : t < 1000) : ∃ a b, c__law_purse C [.scr, .int t] S = some (.ptr S.length, S ++ [pu a b 0]) ∧ 0 ≤ a ∧ 0 ≤ b ∧ b < 2147483648 := by
  by_cases h : t < C.ns.length
  · have hix : ∃ v, atI C.ns t = some v := by
      unfold atI ixN
      rw [if_pos ht, if_pos h, Option.bind_some, List.getElem?_eq_getElem (by omega)]
      exact ⟨_, rfl⟩
    obtain ⟨v, hv⟩ := hix
    have key : ∃ x y : Int, c__law_purse C [.scr, .int t] S = some (.ptr S.length, S ++ [pu (x % (10 ^ 40) ^ 10) (y % 2147483629) 0]) := by
      apply Exists.intro
      apply Exists.intro
      refine runB_rt ?_
      unfold g__law_purse
      repeat' (walk_at "dl")
    obtain ⟨x, y, hx⟩ := key
    exact ⟨_, _, hx, Int.emod_nonneg _ (by decide), Int.emod_nonneg _ (by decide), by omega⟩
  · have key : ∃ x y : Int, c__law_purse C [.scr, .int t] S = some (.ptr S.length, S ++ [pu (x % (10 ^ 40) ^ 10) (y % 2147483629) 0]) := by
      apply Exists.intro
      apply Exists.intro
      refine runB_rt ?_
      unfold g__law_purse
      repeat' (walk_at "dl")
    obtain ⟨x, y, hx⟩ := key
    exact ⟨_, _, hx, Int.emod_nonneg _ (by decide), Int.emod_nonneg _ (by decide), by omega⟩
end
end DL


set_option Elab.async false
set_option linter.all false
set_option maxRecDepth 100000
set_option maxHeartbeats 4000000
/-! P2: rows, beginnings. -/
namespace DL
open PySem PySem.Spec PyProof.Rows L2
local macro_rules | `(tactic| walk_at "dl") => `(tactic| first
  | exact dVar_ev rfl | exact dC_ev | exact dNil_ev | exact dNoPart_ev | exact sNil_ev | exact gN_ev | exact sqK_rt
  | apply dBin_ev | apply dTest_ev | apply dNot_ev | apply sIf_ev | apply dIf_ev | apply dAnd_ev | apply dOr_ev | apply dAndV_ev | apply dOrV_ev | apply dCons_ev | apply few_ev | apply dTree_ev | apply dNew_ev | apply dTup_ev | apply dCB_ev | apply dIsi_ev | apply dFld_ev | apply dPart_ev | apply sAsg_ev | apply sRet_ev | apply sDrop_ev | apply sAsgG_ev | apply sSeq_ev | apply sqK_nx | apply gSetL_ev | apply ifK_t | apply ifK_f
  | apply dCall_ev | apply fScr_ev | exact lenOk (Nat.le_of_ble_eq_true rfl)
  | refine ifK_dt (by first | assumption | decide | omega) ?_ | refine ifK_df (by first | assumption | decide | omega) ?_
  | exact opMod_ev (by first | assumption | decide | omega) | exact opMul_ev (.inl (by omega)) | exact opMul_ev (.inr (by omega)) | exact opDiv_ev (by first | assumption | decide | omega) | (refine (@id.{0} _ ?_); assumption) | (with_reducible rfl) | rfl)
theorem signs_ws (b : List Bool) : signsOf (ws b) = b.map fun x => wd [x] := by
  unfold signsOf ws
  simp only [List.map_map]
  apply List.map_congr_left
  intro x _
  cases x <;> rfl
theorem in_01 (S : List Ob) (x : Bool) : opNotIn S (wd [x]) (.str "01") = some (.bl false) := by
  cases x <;> rfl
def g_is_row : DFS := (sRet (dAndV (dIsi (isiB "str") (dVar 0)) (dBin opEq (dTree (dLc [1] (iSt (dVar 0)) (gN 1) (dTest (dBin opNotIn (dVar 1) (dC (.str "01")))) (dVar 1))) (dTree (few dNil)))))
def c_is_row := runB 2 g_is_row
theorem is_row_ok {S : List Ob} (b : List Bool) (hz : b.length ≤ 1000000) : c_is_row [wd b] S = some (.bl true, S) := by
  have key : dLc [1] (iSt (dVar 0)) (gN 1) (dTest (dBin opNotIn (dVar 1) (dC (.str "01")))) (dVar 1) [some (wd b), none] S = some ([], S) := by
    have := dLc_pure (vs := [1]) (fi := iSt (dVar 0)) (tg := gN 1) (t := dTest (dBin opNotIn (dVar 1) (dC (.str "01")))) (el := dVar 1) (E := [some (wd b), none]) (S := S) (s := .fix (signsOf (ws b))) (xs := signsOf (ws b)) (fun _ => false) id (fun d => [some (wd b), some d]) rfl fix_at rfl ?_ (fun d _ => rfl) ?_ (fun d _ h => nomatch h)
    · rw [this]
      simp
    · rw [signs_ws, List.length_map]
      exact Nat.le_trans hz (by decide)
    · intro d hd
      rw [signs_ws] at hd
      obtain ⟨x, _, rfl⟩ := List.mem_map.mp hd
      refine dTest_ev (dBin_ev (dVar_ev rfl) dC_ev (in_01 S x))
  refine runB_rt ?_
  unfold g_is_row
  repeat' (walk_at "dl")
def g_beginnings : DFS := (sRet (dTree (dLc [1] (iRg1 (dCons (dCB fLen (dCons (dVar 0) dNil)) dNil)) (gN 1) dYes (dSlS (dVar 0) dNoPart (dPart (dVar 1))))))
def begs (b : List Bool) : List (List Bool) := (List.range b.length).map fun i => b.take i
def c_beginnings := runB 2 g_beginnings
theorem cut_ws (b : List Bool) (i : Nat) (h : i ≤ b.length) : cutS (ws b) none (some (i : Int)) = ws (b.take i) := by
  unfold cutS
  rw [HT.sIx_none, HT.sIx_nat, ws_len, Nat.min_eq_left h]
  simp [ws, List.map_take]
theorem len_ws {S : List Ob} (b : List Bool) (hz : b.length ≤ 1000000) : fLen S [wd b] = some (.int (b.length : Nat)) := by
  show (lenS S (wd b)).map D.int = _
  simp only [lenS, wd, ws_len]
  rw [if_pos (Nat.le_trans hz (by decide))]
  rfl
theorem rg1_ev {fs : DF (List D)} {E : SE} {S S1 : List Ob} {n : Nat} (h : fs E S = some ([.int (n : Nat)], S1)) (hn : n ≤ 1000000) : iRg1 fs E S = some (.fix (upto 0 n), S1) := by
  unfold iRg1
  rw [h, Option.bind_some]
  simp only
  rw [if_pos (by omega)]
  simp
theorem upto0 (n : Nat) : upto 0 n = (List.range n).map fun i : Nat => D.int (i : Nat) := by
  unfold upto
  apply List.map_congr_left
  intro i _
  rw [Int.zero_add]
theorem beginnings_ok {S : List Ob} (b : List Bool) (hz : b.length ≤ 1000000) : c_beginnings [wd b] S = some (.lst ((begs b).map wd), S) := by
  have h1 : iRg1 (dCons (dCB fLen (dCons (dVar 0) dNil)) dNil) [some (wd b), none] S = some (.fix (upto 0 b.length), S) :=
    rg1_ev (dCons_ev (dCB_ev (dCons_ev (dVar_ev rfl) dNil_ev) (len_ws b hz)) dNil_ev) hz
  have key : dLc [1] (iRg1 (dCons (dCB fLen (dCons (dVar 0) dNil)) dNil)) (gN 1) dYes (dSlS (dVar 0) dNoPart (dPart (dVar 1))) [some (wd b), none] S = some ((begs b).map wd, S) := by
    have := dLc_pure (vs := [1]) (tg := gN 1) (t := dYes) (el := dSlS (dVar 0) dNoPart (dPart (dVar 1))) (E := [some (wd b), none]) (S := S) (xs := upto 0 b.length) (fun _ => true) (fun d => match d with | .int i => wd (b.take i.toNat) | d => d) (fun d => [some (wd b), some d]) h1 fix_at rfl ?_ (fun d _ => rfl) (fun d _ => rfl) ?_
    · rw [this, upto0, List.filter_eq_self.mpr (fun _ _ => rfl)]
      simp [begs, List.map_map, Function.comp_def]
    · rw [upto0, List.length_map, List.length_range]
      exact Nat.le_trans hz (by decide)
    · intro d hd _
      rw [upto0] at hd
      obtain ⟨i, hi, rfl⟩ := List.mem_map.mp hd
      have hi := List.mem_range.mp hi
      show (if (ws b).length ≤ sizeLine then some (D.str (cutS (ws b) none (some (i : Int))), S) else none) = _
      rw [if_pos (by rw [ws_len]; exact Nat.le_trans hz (by decide)), cut_ws b i (by omega)]
      simp
  refine runB_rt ?_
  unfold g_beginnings
  repeat' (walk_at "dl")
end DL


set_option Elab.async false
set_option linter.all false
set_option maxRecDepth 100000
set_option maxHeartbeats 4000000
/-! P3: in_order. -/
namespace DL
open PySem PySem.Spec PyProof.Rows L2
local macro_rules | `(tactic| walk_at "dl") => `(tactic| first
  | exact dVar_ev rfl | exact dC_ev | exact dNil_ev | exact dNoPart_ev | exact sNil_ev | exact gN_ev | exact sqK_rt
  | apply dBin_ev | apply dTest_ev | apply dNot_ev | apply sIf_ev | apply dIf_ev | apply dAnd_ev | apply dOr_ev | apply dAndV_ev | apply dOrV_ev | apply dCons_ev | apply few_ev | apply dTree_ev | apply dNew_ev | apply dTup_ev | apply dCB_ev | apply dIsi_ev | apply dFld_ev | apply dPart_ev | apply sAsg_ev | apply sRet_ev | apply sDrop_ev | apply sAsgG_ev | apply sSeq_ev | apply sqK_nx | apply gSetL_ev | apply ifK_t | apply ifK_f
  | apply dCall_ev | apply fScr_ev | exact lenOk (Nat.le_of_ble_eq_true rfl)
  | refine ifK_dt (by first | assumption | decide | omega) ?_ | refine ifK_df (by first | assumption | decide | omega) ?_
  | exact opMod_ev (by first | assumption | decide | omega) | exact opMul_ev (.inl (by omega)) | exact opMul_ev (.inr (by omega)) | exact opDiv_ev (by first | assumption | decide | omega) | (refine (@id.{0} _ ?_); assumption) | (with_reducible rfl) | rfl)
def g_in_order : DFS := (sSeq (sAsg 1 dNewK)
    (sSeq (sFor (iLst (dVar 0)) (gN 2) (sDP (dSetd (dVar 1) (dCB fLen (dCons (dVar 2) dNil)) dNewK) (dVar 2) (dC (.bl true))))
    (sSeq (sAsg 3 (dNew (few dNil)))
    (sSeq (sFor (iLst (dTree (dCB fSortI (dCons (dTree (lockAt (dVar 1) (dLc [5] (iDk .keys (dVar 1)) (gN 5) dYes (dCB fInt (dCons (dVar 5) dNil))))) dNil)))) (gN 4) (sDrop (dExt (dVar 3) (dTree (dCB fSortS (dCons (dTree (lockAt (dDGet (dVar 1) (dVar 4)) (dLc [2] (iDk .keys (dDGet (dVar 1) (dVar 4))) (gN 2) dYes (dCB fStr (dCons (dVar 2) dNil))))) dNil))))))
    (sRet (dVar 3))))))
def kvs (ls : List (Int × Nat)) : List (Key × D) := ls.map fun p => (.inl p.1, .ptr p.2)
theorem getD_kvs {l : Int} {j : Nat} : ∀ {ls : List (Int × Nat)}, (l, j) ∈ ls → (ls.map (·.1)).Nodup → getD' (kvs ls) (.inl l) = some (.ptr j)
  | [], h, _ => nomatch h
  | (a, b) :: ls, h, hn => by
    rw [List.map_cons, List.nodup_cons] at hn
    rcases List.mem_cons.mp h with e | h
    · cases e
      simp [kvs, getD']
    · have : ¬ a = l := fun e => hn.1 (e ▸ List.mem_map.mpr ⟨_, h, rfl⟩)
      have ih := getD_kvs h hn.2
      have e2 : getD' (kvs ((a, b) :: ls)) (.inl l) = getD' (kvs ls) (.inl l) := by simp [kvs, getD', this]
      rw [e2, ih]
theorem getD_none {l : Int} : ∀ {ls : List (Int × Nat)}, l ∉ ls.map (·.1) → getD' (kvs ls) (.inl l) = none ∧ ∀ d, putD (kvs ls) (.inl l) d = kvs ls ++ [(.inl l, d)] := fun {ls} h => by
  have key : ∀ p ∈ kvs ls, ¬ p.1 = Sum.inl l := by
    intro p hp e
    obtain ⟨q, hq, rfl⟩ := List.mem_map.mp hp
    exact h (List.mem_map.mpr ⟨q, hq, Sum.inl.inj e⟩)
  constructor
  · unfold getD'
    rw [List.find?_eq_none.mpr fun p hp => by simpa using key p hp]
    rfl
  · intro d
    unfold putD
    rw [if_neg]
    rw [List.any_eq_true]
    rintro ⟨p, hp, e⟩
    exact key p hp (of_decide_eq_true e)
/-- the rows of a length, as keys -/
def keysOfLen (xs : List Str) (l : Int) : List Key := (xs.filter fun r => decide ((r.length : Int) = l)).map Sum.inr
def lensOf (xs : List Str) : List Int := xs.map fun r => (r.length : Int)
structure Fnd (S : List Ob) (xs : List Str) (S' : List Ob) : Prop where
  pre : ∀ k, k < S.length → S'[k]? = S[k]?
  ls : ∃ ls : List (Int × Nat), ls.map (·.1) = ded (lensOf xs) ∧ S'[S.length]? = some (.dK (kvs ls)) ∧ (ls.map (·.2)).Nodup ∧ ∀ p ∈ ls, S.length < p.2 ∧ S'[p.2]? = some (.dK (setK (ded (keysOfLen xs p.1))))
theorem lens_snoc (xs : List Str) (r : Str) : lensOf (xs ++ [r]) = lensOf xs ++ [(r.length : Int)] := by simp [lensOf]
theorem keys_in (xs : List Str) (r : Str) : keysOfLen (xs ++ [r]) (r.length : Int) = keysOfLen xs r.length ++ [.inr r] := by simp [keysOfLen]
theorem keys_out (xs : List Str) (r : Str) {l : Int} (h : ¬ (r.length : Int) = l) : keysOfLen (xs ++ [r]) l = keysOfLen xs l := by simp [keysOfLen, h]
theorem keys_none {xs : List Str} {l : Int} (h : l ∉ lensOf xs) : keysOfLen xs l = [] := by
  unfold keysOfLen
  rw [List.filter_eq_nil_iff.mpr fun r hr => ?_]
  · rfl
  · exact fun e => h (List.mem_map.mpr ⟨r, hr, of_decide_eq_true e⟩)
theorem fst_inj {ls : List (Int × Nat)} (h : (ls.map (·.1)).Nodup) : ∀ {p q}, p ∈ ls → q ∈ ls → p.1 = q.1 → p = q := by
  induction ls with
  | nil => exact fun h => nomatch h
  | cons a ls ih =>
    rw [List.map_cons, List.nodup_cons] at h
    intro p q hp hq e
    rcases List.mem_cons.mp hp with p1 | p1
    · rcases List.mem_cons.mp hq with q1 | q1
      · rw [p1, q1]
      · rw [p1] at e
        exact absurd (List.mem_map.mpr ⟨q, q1, e.symm⟩) h.1
    · rcases List.mem_cons.mp hq with q1 | q1
      · rw [q1] at e
        exact absurd (List.mem_map.mpr ⟨p, p1, e⟩) h.1
      · exact ih h.2 p1 q1 e
theorem snd_inj {ls : List (Int × Nat)} (h : (ls.map (·.2)).Nodup) : ∀ {p q}, p ∈ ls → q ∈ ls → p.2 = q.2 → p = q := by
  induction ls with
  | nil => exact fun h => nomatch h
  | cons a ls ih =>
    rw [List.map_cons, List.nodup_cons] at h
    intro p q hp hq e
    rcases List.mem_cons.mp hp with p1 | p1
    · rcases List.mem_cons.mp hq with q1 | q1
      · rw [p1, q1]
      · rw [p1] at e
        exact absurd (List.mem_map.mpr ⟨q, q1, e.symm⟩) h.1
    · rcases List.mem_cons.mp hq with q1 | q1
      · rw [q1] at e
        exact absurd (List.mem_map.mpr ⟨p, p1, e⟩) h.1
      · exact ih h.2 p1 q1 e
theorem len_str {S : List Ob} {r : Str} (hz : r.length ≤ 1000000) : fLen S [.str r] = some (.int (r.length : Nat)) := by
  show (lenS S (.str r)).map D.int = _
  simp only [lenS]
  rw [if_pos (Nat.le_trans hz (by decide))]
  rfl
theorem fnd_step {S S' : List Ob} {xs : List Str} {r : Str} {E : SE} (h : Fnd S xs S') (hx : xs.length ≤ 1000000) (hr : r.length ≤ 1000000) (hE1 : E[1]? = some (some (.ptr S.length))) (hE2 : E[2]? = some (some (.str r))) :
    ∃ S'', sDP (dSetd (dVar 1) (dCB fLen (dCons (dVar 2) dNil)) dNewK) (dVar 2) (dC (.bl true)) E S' = some (.nx E, S'') ∧ Fnd S (xs ++ [r]) S'' := by
  obtain ⟨ls, e1, e2, e3, e4⟩ := h.ls
  have nd1 : (ls.map (·.1)).Nodup := e1 ▸ nodup_ded _
  have big : S.length < S'.length := (List.getElem?_eq_some_iff.mp e2).1
  have hlen : (kvs ls).length < sizeLine := by
    have h1 : (kvs ls).length = (ded (lensOf xs)).length := by rw [← e1, kvs, List.length_map, List.length_map]
    have h2 := ded_len (lensOf xs)
    rw [lensOf, List.length_map] at h2
    rw [h1]
    exact Nat.lt_of_le_of_lt (Nat.le_trans h2 hx) (by decide)
  have hfl : ∀ T, dCB fLen (dCons (dVar 2) dNil) E T = some (.int (r.length : Nat), T) := fun T => dCB_ev (dCons_ev (dVar_ev hE2) dNil_ev) (len_str hr)
  have hT : (S' ++ [Ob.dK []])[S.length]? = some (.dK (kvs ls)) := by rw [List.getElem?_append_left big, e2]
  have small : ∀ (ks : List Key), ks.length ≤ 1000000 → (setK (ded ks)).length < sizeLine := fun ks hk => by
    rw [setK, List.length_map]
    exact Nat.lt_of_le_of_lt (Nat.le_trans (ded_len ks) hk) (by decide)
  have kl : ∀ l, (keysOfLen xs l).length ≤ 1000000 := fun l => by
    rw [keysOfLen, List.length_map]
    exact Nat.le_trans (List.length_filter_le _ _) hx
  have setd : dSetd (dVar 1) (dCB fLen (dCons (dVar 2) dNil)) dNewK E S' = (match getD' (kvs ls) (.inl (r.length : Int)) with
      | some d => some (d, S' ++ [Ob.dK []])
      | none => some (.ptr S'.length, (S' ++ [Ob.dK []]).set S.length (.dK (putD (kvs ls) (.inl (r.length : Int)) (.ptr S'.length))))) := by
    unfold dSetd
    rw [dVar_ev hE1, Option.bind_some]
    have : isDict S' (.ptr S.length) = true := by simp only [isDict, e2]
    rw [if_pos this, hfl, Option.bind_some]
    simp only [dNewK, Option.bind_some, hT, keyOf, hlen, if_true]
    all_goals (cases getD' (kvs ls) (Sum.inl (r.length : Int)) <;> rfl)
  by_cases hm : (r.length : Int) ∈ lensOf xs
  · obtain ⟨⟨l, j⟩, hj, hl⟩ := List.mem_map.mp (show (r.length : Int) ∈ ls.map (·.1) by rw [e1]; exact mem_ded.mpr hm)
    cases (show l = (r.length : Int) from hl)
    obtain ⟨j1, j2⟩ := e4 _ hj
    have jl : j < S'.length := (List.getElem?_eq_some_iff.mp j2).1
    rw [getD_kvs hj nd1] at setd
    have hput : putO (S' ++ [Ob.dK []]) (.ptr j) (.str r) (.bl true) = some ((S' ++ [Ob.dK []]).set j (.dK (setK (ded (keysOfLen (xs ++ [r]) r.length))))) := by
      have : (S' ++ [Ob.dK []])[j]? = some (.dK (setK (ded (keysOfLen xs r.length)))) := by rw [List.getElem?_append_left jl]; exact j2
      simp only [putO, this, keyOf]
      rw [if_pos (small _ (kl _)), putD_set, keys_in, ded_snoc]
    refine ⟨(S' ++ [Ob.dK []]).set j (.dK (setK (ded (keysOfLen (xs ++ [r]) r.length)))), ?_, ?_⟩
    · unfold sDP
      rw [dC_ev, Option.bind_some, setd]
      simp only [Option.bind_some]
      rw [dVar_ev hE2, Option.bind_some, hput]
      rfl
    · refine ⟨fun k hk => ?_, ls, ?_, ?_, e3, fun p hp => ?_⟩
      · rw [List.getElem?_set_ne (by simp only at j1; omega), List.getElem?_append_left (by omega)]
        exact h.pre k hk
      · rw [e1, lens_snoc, ded_snoc, addTo, if_pos (mem_ded.mpr hm)]
      · rw [List.getElem?_set_ne (by simp only at j1; omega)]
        exact hT
      · obtain ⟨p1, p2⟩ := e4 p hp
        refine ⟨p1, ?_⟩
        by_cases hpj : p.2 = j
        · have := snd_inj e3 hp hj hpj
          subst this
          rw [List.getElem?_set_self (by rw [List.length_append]; omega)]
        · have hne : ¬ (r.length : Int) = p.1 := fun e => hpj (by rw [fst_inj nd1 hp hj e.symm])
          rw [List.getElem?_set_ne (fun e => hpj e.symm), List.getElem?_append_left (List.getElem?_eq_some_iff.mp p2).1, p2, keys_out xs r hne]
  · have hm2 : (r.length : Int) ∉ ls.map (·.1) := fun q => hm (mem_ded.mp (e1 ▸ q))
    obtain ⟨g1, g2⟩ := getD_none hm2
    rw [g1, g2] at setd
    simp only at setd
    have hkv : kvs ls ++ [(.inl (r.length : Int), .ptr S'.length)] = kvs (ls ++ [((r.length : Int), S'.length)]) := by simp [kvs]
    rw [hkv] at setd
    have hput : putO ((S' ++ [Ob.dK []]).set S.length (.dK (kvs (ls ++ [((r.length : Int), S'.length)])))) (.ptr S'.length) (.str r) (.bl true) = some (((S' ++ [Ob.dK []]).set S.length (.dK (kvs (ls ++ [((r.length : Int), S'.length)])))).set S'.length (.dK (setK (ded (keysOfLen (xs ++ [r]) r.length))))) := by
      have : ((S' ++ [Ob.dK []]).set S.length (.dK (kvs (ls ++ [((r.length : Int), S'.length)]))))[S'.length]? = some (.dK []) := by
        rw [List.getElem?_set_ne (by omega), List.getElem?_append_right (Nat.le_refl _), Nat.sub_self]
        rfl
      simp only [putO, this, keyOf]
      rw [if_pos (show ([] : List (Key × D)).length < sizeLine by decide), keys_in, keys_none hm]
      rfl
    refine ⟨((S' ++ [Ob.dK []]).set S.length (.dK (kvs (ls ++ [((r.length : Int), S'.length)])))).set S'.length (.dK (setK (ded (keysOfLen (xs ++ [r]) r.length)))), ?_, ?_⟩
    · unfold sDP
      rw [dC_ev, Option.bind_some, setd]
      simp only [Option.bind_some]
      rw [dVar_ev hE2, Option.bind_some, hput]
      rfl
    · refine ⟨fun k hk => ?_, ls ++ [((r.length : Int), S'.length)], ?_, ?_, ?_, fun p hp => ?_⟩
      · rw [List.getElem?_set_ne (by omega), List.getElem?_set_ne (by omega), List.getElem?_append_left (by omega)]
        exact h.pre k hk
      · rw [List.map_append, e1, lens_snoc, ded_snoc, addTo, if_neg (fun q => hm (mem_ded.mp q))]
        rfl
      · rw [List.getElem?_set_ne (by omega), List.getElem?_set_self (by rw [List.length_append]; omega)]
      · rw [List.map_append]
        refine List.nodup_append.mpr ⟨e3, by simp, fun a ha b hb e => ?_⟩
        obtain ⟨q, hq, rfl⟩ := List.mem_map.mp ha
        have := (List.getElem?_eq_some_iff.mp (e4 q hq).2).1
        rw [List.map_singleton, List.mem_singleton] at hb
        simp only at hb
        omega
      · rcases List.mem_append.mp hp with hp | hp
        · obtain ⟨p1, p2⟩ := e4 p hp
          have pl := (List.getElem?_eq_some_iff.mp p2).1
          have hne : ¬ (r.length : Int) = p.1 := fun e => hm2 (List.mem_map.mpr ⟨p, hp, e.symm⟩)
          refine ⟨p1, ?_⟩
          rw [List.getElem?_set_ne (by omega), List.getElem?_set_ne (by omega), List.getElem?_append_left pl, p2, keys_out xs r hne]
        · rw [List.mem_singleton] at hp
          subst hp
          refine ⟨big, ?_⟩
          rw [List.getElem?_set_self (by rw [List.length_set, List.length_append, List.length_singleton]; omega)]
end DL


set_option Elab.async false
set_option linter.all false
set_option maxRecDepth 4000
set_option maxHeartbeats 4000000
/-! P4: in_order, the second half. -/
namespace DL
open PySem PySem.Spec PyProof.Rows L2
local macro_rules | `(tactic| walk_at "dl") => `(tactic| first
  | exact dVar_ev rfl | exact dC_ev | exact dNil_ev | exact dNoPart_ev | exact sNil_ev | exact gN_ev | exact sqK_rt
  | apply dBin_ev | apply dTest_ev | apply dNot_ev | apply sIf_ev | apply dIf_ev | apply dAnd_ev | apply dOr_ev | apply dAndV_ev | apply dOrV_ev | apply dCons_ev | apply few_ev | apply dTree_ev | apply dNew_ev | apply dTup_ev | apply dCB_ev | apply dIsi_ev | apply dFld_ev | apply dPart_ev | apply sAsg_ev | apply sRet_ev | apply sDrop_ev | apply sAsgG_ev | apply sSeq_ev | apply sqK_nx | apply gSetL_ev | apply ifK_t | apply ifK_f
  | apply dCall_ev | apply fScr_ev | exact lenOk (Nat.le_of_ble_eq_true rfl)
  | refine ifK_dt (by first | assumption | decide | omega) ?_ | refine ifK_df (by first | assumption | decide | omega) ?_
  | exact opMod_ev (by first | assumption | decide | omega) | exact opMul_ev (.inl (by omega)) | exact opMul_ev (.inr (by omega)) | exact opDiv_ev (by first | assumption | decide | omega) | (refine (@id.{0} _ ?_); assumption) | (with_reducible rfl) | rfl)
theorem set_back {α : Type} {S : List α} {k : Nat} {o o' : α} (h : S[k]? = some o) : (S.set k o').set k o = S := by
  rw [List.set_set]
  refine List.ext_getElem? fun j => ?_
  by_cases e : k = j
  · subst e
    rw [List.getElem?_set_self (List.getElem?_eq_some_iff.mp h).1, h]
  · rw [List.getElem?_set_ne e]
theorem lockAt_same {α : Type} {kf : DF D} {f : DF α} {E : SE} {S S0 : List Ob} {k : Nat} {l : List (Key × D)} {a : α} (hk : kf E S = some (.ptr k, S0)) (hS : S[k]? = some (.dK l)) (hf : f E (S.set k (.lkK l)) = some (a, S.set k (.lkK l))) : lockAt kf f E S = some (a, S) := by
  have hlt := (List.getElem?_eq_some_iff.mp hS).1
  have h1 : lockO S k = some (S.set k (.lkK l)) := by simp only [lockO, hS]
  have h2 : freeO (S.set k (.lkK l)) k = some S := by
    simp only [freeO, List.getElem?_set_self hlt]
    rw [set_back hS]
  unfold lockAt
  rw [hk]
  simp only [Option.map_some, h1, Option.bind_some, hf, h2]
/-- a comprehension over the keys of a locked dict -/
theorem keysLc {i : Nat} {fd el : DF D} {E : SE} {S : List Ob} {k : Nat} {l : List (Key × D)} (v : D → D) (hd : fd E S = some (.ptr k, S)) (hS : S[k]? = some (.lkK l)) (hz : l.length ≤ sizeLine) (he : ∀ p ∈ l, el ((wipeE E [i]).set i (some (keyD p.1))) S = some (v (keyD p.1), S)) :
    dLc [i] (iDk .keys fd) (gN i) dYes el E S = some (l.map fun p => v (keyD p.1), S) := by
  have hi : iDk .keys fd E S = some (.keys k, S) := by
    unfold iDk
    rw [hd, Option.bind_some]
    simp only [hS]
  have := dLc_pure (vs := [i]) (tg := gN i) (t := dYes) (el := el) (E := E) (S := S) (s := .keys k) (xs := l.map fun p => keyD p.1) (fun _ => true) v (fun d => (wipeE E [i]).set i (some d)) hi (keys_at hS) (keys_len hS) (by rw [List.length_map]; exact hz) (fun _ _ => rfl) (fun _ _ => rfl) (fun d hd' _ => by
    obtain ⟨p, hp, rfl⟩ := List.mem_map.mp hd'
    exact he p hp)
  rw [this, List.filter_eq_self.mpr (fun _ _ => rfl), List.map_map]
  rfl
theorem intsOf_ints : ∀ ns : List Int, intsOf (ns.map D.int) = some ns
  | [] => rfl
  | n :: ns => by
    have ih := intsOf_ints ns
    simp only [List.map_cons, intsOf] at ih ⊢
    simp [ih]
theorem strsOf_strs : ∀ ns : List Str, strsOf (ns.map D.str) = some ns
  | [] => rfl
  | n :: ns => by
    have ih := strsOf_strs ns
    simp only [List.map_cons, strsOf] at ih ⊢
    simp [ih]
def orderS (xs : List Str) : List Str := (sortI (ded (lensOf xs))).flatMap fun l => sortS (ded (xs.filter fun r => decide ((r.length : Int) = l)))
theorem lst_pre {S S' : List Ob} {d : D} {l : List D} (h : ∀ k, k < S.length → S'[k]? = S[k]?) (hd : lstOf S d = some l) : lstOf S' d = some l := by
  cases d with
  | lst xs => exact hd
  | ptr k =>
    have hk : k < S.length := by
      cases e : S[k]? with
      | none =>
        simp only [lstOf, e] at hd
        cases hd
      | some o => exact (List.getElem?_eq_some_iff.mp e).1
    simp only [lstOf, h k hk] at hd ⊢
    exact hd
  | _ => cases hd
theorem pre_app {S S' : List Ob} (h : ∀ k, k < S.length → S'[k]? = S[k]?) (hl : S.length ≤ S'.length) : S' = S ++ S'.drop S.length := by
  have : S'.take S.length = S := by
    refine List.ext_getElem? fun k => ?_
    by_cases hk : k < S.length
    · rw [List.getElem?_take_of_lt hk, h k hk]
    · rw [List.getElem?_eq_none (by rw [List.length_take]; omega), List.getElem?_eq_none (by omega)]
  rw [← this, List.length_take, Nat.min_eq_left hl, this]
  conv => lhs; rw [← List.take_append_drop S.length S', this]
theorem live_ev {f : DF D} {E : SE} {S S1 : List Ob} {d : D} {xs : List D} (h : f E S = some (d, S1)) (hl : lstOf S1 d = some xs) : iLst f E S = some (.live d, S1) := by
  unfold iLst
  rw [h, Option.bind_some]
  simp only [hl]
def grp (xs : List Str) (l : Int) : List Str := sortS (ded (xs.filter fun r => decide ((r.length : Int) = l)))
theorem ded_map_inr (ks : List Str) : ded (ks.map (Sum.inr : Str → Key)) = (ded ks).map Sum.inr := by
  induction ks using snoc_ind with
  | h0 => rfl
  | h1 xs r ih =>
    rw [List.map_append, List.map_singleton, ded_snoc, ded_snoc, ih]
    unfold addTo
    by_cases h : r ∈ ded xs
    · rw [if_pos h, if_pos (List.mem_map.mpr ⟨r, h, rfl⟩)]
    · rw [if_neg h, if_neg, List.map_append, List.map_singleton]
      intro q
      obtain ⟨s, h1, h2⟩ := List.mem_map.mp q
      cases h2
      exact h h1
/-- one length's rows, sorted -/
theorem group_ev {S S' : List Ob} {xs : List Str} {ls : List (Int × Nat)} {E : SE} {l : Int} {j : Nat} (hx : xs.length ≤ 4000) (h1 : S'[S.length]? = some (.dK (kvs ls))) (hn : (ls.map (·.1)).Nodup) (hj : (l, j) ∈ ls) (hj1 : S.length < j) (h2 : S'[j]? = some (.dK (setK (ded (keysOfLen xs l)))))
    (hE1 : E[1]? = some (some (.ptr S.length))) (hE4 : E[4]? = some (some (.int l))) (hE : 2 < E.length) :
    dTree (dCB fSortS (dCons (dTree (lockAt (dDGet (dVar 1) (dVar 4)) (dLc [2] (iDk .keys (dDGet (dVar 1) (dVar 4))) (gN 2) dYes (dCB fStr (dCons (dVar 2) dNil))))) dNil)) E S' = some (.lst ((grp xs l).map D.str), S') := by
  have get : ∀ T : List Ob, T[S.length]? = some (.dK (kvs ls)) → dDGet (dVar 1) (dVar 4) E T = some (.ptr j, T) := fun T hT => by
    unfold dDGet
    rw [dVar_ev hE1, Option.bind_some, dVar_ev hE4, Option.bind_some]
    simp only [dictGet, hT, keyOf, Option.map_some, getD_kvs hj hn]
  have hlt := (List.getElem?_eq_some_iff.mp h2).1
  have hd : ded (keysOfLen xs l) = (ded (xs.filter fun r => decide ((r.length : Int) = l))).map Sum.inr := ded_map_inr _
  have hz : (ded (xs.filter fun r => decide ((r.length : Int) = l))).length ≤ 4000 := Nat.le_trans (ded_len _) (Nat.le_trans (List.length_filter_le _ _) hx)
  have inner : dLc [2] (iDk .keys (dDGet (dVar 1) (dVar 4))) (gN 2) dYes (dCB fStr (dCons (dVar 2) dNil)) E (S'.set j (.lkK (setK (ded (keysOfLen xs l))))) = some ((ded (xs.filter fun r => decide ((r.length : Int) = l))).map D.str, S'.set j (.lkK (setK (ded (keysOfLen xs l))))) := by
    have := keysLc (i := 2) (el := dCB fStr (dCons (dVar 2) dNil)) (fun d => d) (get (S'.set j (.lkK (setK (ded (keysOfLen xs l))))) (by rw [List.getElem?_set_ne (by omega)]; exact h1)) (List.getElem?_set_self hlt) (by rw [setK, List.length_map, hd, List.length_map]; exact Nat.le_trans hz (by decide)) (fun p hp => by
      rw [setK, hd] at hp
      obtain ⟨k, hk, rfl⟩ := List.mem_map.mp hp
      obtain ⟨r, hr, rfl⟩ := List.mem_map.mp hk
      refine dCB_ev (xs := [.str r]) (dCons_ev (dVar_ev (d := .str r) ?_) dNil_ev) rfl
      rw [List.getElem?_set_self (by simpa [wipeE] using hE)]
      rfl)
    rw [this, setK, hd]
    simp [List.map_map, Function.comp_def, keyD]
  have lk := lockAt_same (kf := dDGet (dVar 1) (dVar 4)) (get S' h1) h2 inner
  refine dTree_ev (dCB_ev (dCons_ev (dTree_ev lk) dNil_ev) ?_)
  show ((lstOf S' (.lst _)).bind strsOf).map _ = _
  simp only [lstOf, Option.bind_some, strsOf_strs, Option.map_some]
  rfl
def c_in_order (ds : List D) (S : List Ob) : Option (D × List Ob) := match ds with
  | [d] => ((lstOf S d).bind strsOf).bind fun xs => if xs.length ≤ 4000 ∧ ∀ r ∈ xs, r.length ≤ 4000 then some (.lst ((orderS xs).map D.str), S) else none
  | _ => none
theorem strs_bnd (n : Nat) : ∀ xs : List Str, bndA n (xs.map D.str) = true
  | [] => rfl
  | x :: xs => strs_bnd n xs
theorem sorted_small (ns : List Int) : (sortI ns).length = ns.length := by
  unfold sortI
  rw [List.length_mergeSort]
theorem sortS_len (ns : List Str) : (sortS ns).length = ns.length := by
  unfold sortS
  rw [List.length_mergeSort]
theorem mem_sortI (ns : List Int) (x : Int) : x ∈ sortI ns ↔ x ∈ ns := by
  unfold sortI
  exact List.mem_mergeSort
end DL


set_option Elab.async false
set_option linter.all false
set_option maxRecDepth 4000
set_option maxHeartbeats 4000000
/-! P5: in_order, joined. -/
namespace DL
open PySem PySem.Spec PyProof.Rows L2
local macro_rules | `(tactic| walk_at "dl") => `(tactic| first
  | exact dVar_ev rfl | exact dC_ev | exact dNil_ev | exact dNoPart_ev | exact sNil_ev | exact gN_ev | exact sqK_rt
  | apply dBin_ev | apply dTest_ev | apply dNot_ev | apply sIf_ev | apply dIf_ev | apply dAnd_ev | apply dOr_ev | apply dAndV_ev | apply dOrV_ev | apply dCons_ev | apply few_ev | apply dTree_ev | apply dNew_ev | apply dTup_ev | apply dCB_ev | apply dIsi_ev | apply dFld_ev | apply dPart_ev | apply sAsg_ev | apply sRet_ev | apply sDrop_ev | apply sAsgG_ev | apply sSeq_ev | apply sqK_nx | apply gSetL_ev | apply ifK_t | apply ifK_f
  | apply dCall_ev | apply fScr_ev | exact lenOk (Nat.le_of_ble_eq_true rfl)
  | refine ifK_dt (by first | assumption | decide | omega) ?_ | refine ifK_df (by first | assumption | decide | omega) ?_
  | exact opMod_ev (by first | assumption | decide | omega) | exact opMul_ev (.inl (by omega)) | exact opMul_ev (.inr (by omega)) | exact opDiv_ev (by first | assumption | decide | omega) | (refine (@id.{0} _ ?_); assumption) | (with_reducible rfl) | rfl)
theorem flat_len {α β : Type} (g : α → List β) (c : Nat) (h : ∀ a, (g a).length ≤ c) : ∀ ys : List α, (ys.flatMap g).length ≤ ys.length * c
  | [] => by simp
  | y :: ys => by
    have h1 := flat_len g c h ys
    have h2 := h y
    rw [List.flatMap_cons, List.length_append, List.length_cons, Nat.succ_mul]
    omega
theorem dExt_ev {fo f : DF D} {E : SE} {S S1 S2 : List Ob} {k : Nat} {d : D} {x0 xs ys : List D} (ho : fo E S = some (.ptr k, S1)) (hf : f E S1 = some (d, S2)) (h1 : S1[k]? = some (.lst x0)) (h2 : S2[k]? = some (.lst xs)) (h3 : lstOf S2 d = some ys) (hz : xs.length + ys.length ≤ sizeLine) : dExt fo f E S = some (.non, S2.set k (.lst (xs ++ ys))) := by
  unfold dExt
  rw [ho, Option.bind_some, hf, Option.bind_some]
  simp only [h1, h2, h3, hz, if_true]
theorem in_order_run {S : List Ob} {d : D} {xs : List Str} (hd : lstOf S d = some (xs.map D.str)) (hx : xs.length ≤ 4000) (hr : ∀ r ∈ xs, r.length ≤ 4000) :
    ∃ m T, runB 6 g_in_order [d] S = some (.ptr m, S ++ T) ∧ S.length ≤ m ∧ (S ++ T)[m]? = some (.lst ((orderS xs).map D.str)) := by
  -- found = {}; the first loop
  have f0 : Fnd S [] (S ++ [.dK []]) := by
    refine ⟨fun k hk => List.getElem?_append_left hk, [], rfl, ?_, List.nodup_nil, fun p h => nomatch h⟩
    rw [List.getElem?_append_right (Nat.le_refl _), Nat.sub_self]
    rfl
  have hd1 : ∀ S', (∀ k, k < S.length → S'[k]? = S[k]?) → lstOf S' d = some (xs.map D.str) := fun S' h => lst_pre h hd
  obtain ⟨E1, S1, a1, ⟨y1, rfl⟩, a2⟩ := sFor_inv (fi := iLst (dVar 0)) (tg := gN 2) (b := sDP (dSetd (dVar 1) (dCB fLen (dCons (dVar 2) dNil)) dNewK) (dVar 2) (dC (.bl true))) (s := .live d) (xs := xs.map D.str) (E := [some d, some (.ptr S.length), none, none, none, none]) (S := S ++ [.dK []])
    (fun i E S' => (∃ y, E = [some d, some (.ptr S.length), y, none, none, none]) ∧ Fnd S (xs.take i) S')
    (live_ev (dVar_ev rfl) (hd1 _ f0.pre)) (live_len (hd1 _ f0.pre)) (fun i E S' h => live_at (hd1 _ h.2.pre) i) ⟨⟨none, rfl⟩, by rw [List.take_zero]; exact f0⟩
    (fun i e E S' h he => by
      obtain ⟨⟨y, rfl⟩, hf⟩ := h
      rw [List.getElem?_map] at he
      obtain ⟨r, r1, rfl⟩ := Option.map_eq_some_iff.mp he
      obtain ⟨S'', s1, s2⟩ := fnd_step (r := r) (E := [some d, some (.ptr S.length), some (.str r), none, none, none]) hf (by rw [List.length_take]; omega) (Nat.le_trans (hr r (List.mem_of_getElem? r1)) (by decide)) rfl rfl
      exact ⟨_, _, _, S'', gN_ev, .inl s1, ⟨_, rfl⟩, by rw [List.take_add_one, r1]; exact s2⟩)
  rw [List.length_map, List.take_length] at a2
  obtain ⟨ls, e1, e2, e3, e4⟩ := a2.ls
  have nd1 : (ls.map (·.1)).Nodup := e1 ▸ nodup_ded _
  have big : S.length < S1.length := (List.getElem?_eq_some_iff.mp e2).1
  have lsz : ls.length ≤ 4000 := by
    have h1 : ls.length = (ls.map (·.1)).length := by rw [List.length_map]
    have h2 := ded_len (lensOf xs)
    rw [lensOf, List.length_map] at h2
    rw [h1, e1]
    exact Nat.le_trans h2 hx
  -- the lengths, sorted
  have T2 : (S1 ++ [Ob.lst []])[S.length]? = some (.dK (kvs ls)) := by rw [List.getElem?_append_left big, e2]
  have lens : dTree (dCB fSortI (dCons (dTree (lockAt (dVar 1) (dLc [5] (iDk .keys (dVar 1)) (gN 5) dYes (dCB fInt (dCons (dVar 5) dNil))))) dNil)) [some d, some (.ptr S.length), y1, some (.ptr S1.length), none, none] (S1 ++ [.lst []]) = some (.lst ((sortI (ded (lensOf xs))).map D.int), S1 ++ [.lst []]) := by
    have hlt := (List.getElem?_eq_some_iff.mp T2).1
    have inner := keysLc (i := 5) (fd := dVar 1) (el := dCB fInt (dCons (dVar 5) dNil)) (E := [some d, some (.ptr S.length), y1, some (.ptr S1.length), none, none]) (fun d => d) (S := (S1 ++ [Ob.lst []]).set S.length (.lkK (kvs ls))) (k := S.length) (l := kvs ls) (dVar_ev rfl) (List.getElem?_set_self hlt) (by rw [kvs, List.length_map]; exact Nat.le_trans lsz (by decide)) (fun p hp => by
      obtain ⟨q, hq, rfl⟩ := List.mem_map.mp hp
      exact dCB_ev (xs := [.int q.1]) (dCons_ev (dVar_ev rfl) dNil_ev) rfl)
    have ek : ((kvs ls).map fun p => keyD p.1) = (ded (lensOf xs)).map D.int := by
      rw [← e1, kvs, List.map_map, List.map_map]
      rfl
    rw [ek] at inner
    have lk := lockAt_same (kf := dVar 1) (S0 := S1 ++ [Ob.lst []]) (dVar_ev rfl) T2 inner
    refine dTree_ev (dCB_ev (dCons_ev (dTree_ev lk) dNil_ev) ?_)
    show ((lstOf _ (.lst _)).bind intsOf).map _ = _
    simp only [lstOf, Option.bind_some, intsOf_ints, Option.map_some]
  -- the second loop
  have glen : ∀ l, (grp xs l).length ≤ 4000 := fun l => by
    rw [grp, sortS_len]
    exact Nat.le_trans (ded_len _) (Nat.le_trans (List.length_filter_le _ _) hx)
  have slen : (sortI (ded (lensOf xs))).length ≤ 4000 := by
    rw [sorted_small]
    have h2 := ded_len (lensOf xs)
    rw [lensOf, List.length_map] at h2
    exact Nat.le_trans h2 hx
  obtain ⟨E2, S2, b1, ⟨y2, z2, rfl⟩, b2⟩ := sFor_inv (fi := iLst (dTree (dCB fSortI (dCons (dTree (lockAt (dVar 1) (dLc [5] (iDk .keys (dVar 1)) (gN 5) dYes (dCB fInt (dCons (dVar 5) dNil))))) dNil)))) (tg := gN 4)
    (b := sDrop (dExt (dVar 3) (dTree (dCB fSortS (dCons (dTree (lockAt (dDGet (dVar 1) (dVar 4)) (dLc [2] (iDk .keys (dDGet (dVar 1) (dVar 4))) (gN 2) dYes (dCB fStr (dCons (dVar 2) dNil))))) dNil)))))
    (s := .live (.lst ((sortI (ded (lensOf xs))).map D.int))) (xs := (sortI (ded (lensOf xs))).map D.int) (E := [some d, some (.ptr S.length), y1, some (.ptr S1.length), none, none]) (S := S1 ++ [.lst []])
    (fun i E S' => (∃ y z, E = [some d, some (.ptr S.length), y, some (.ptr S1.length), z, none]) ∧ S' = S1 ++ [.lst ((((sortI (ded (lensOf xs))).take i).flatMap (grp xs)).map D.str)])
    (live_ev lens rfl) (live_len rfl) (fun i E S' h => live_at rfl i) ⟨⟨y1, none, rfl⟩, rfl⟩
    (fun i e E S' h he => by
      obtain ⟨⟨y, z, rfl⟩, rfl⟩ := h
      rw [List.getElem?_map] at he
      obtain ⟨l, l1, rfl⟩ := Option.map_eq_some_iff.mp he
      have hl : l ∈ ls.map (·.1) := by
        rw [e1]
        exact (mem_sortI _ _).mp (List.mem_of_getElem? l1)
      obtain ⟨⟨l', j⟩, hj, rfl⟩ := List.mem_map.mp hl
      obtain ⟨j1, j2⟩ := e4 _ hj
      simp only at j1 j2 l1
      have jl := (List.getElem?_eq_some_iff.mp j2).1
      have hg := group_ev (S := S) (S' := S1 ++ [.lst ((((sortI (ded (lensOf xs))).take i).flatMap (grp xs)).map D.str)]) (E := [some d, some (.ptr S.length), y, some (.ptr S1.length), some (.int l'), none]) hx (by rw [List.getElem?_append_left big, e2]) nd1 hj j1 (by rw [List.getElem?_append_left jl]; exact j2) rfl rfl (by simp)
      have at_m : (S1 ++ [Ob.lst ((((sortI (ded (lensOf xs))).take i).flatMap (grp xs)).map D.str)])[S1.length]? = some (.lst ((((sortI (ded (lensOf xs))).take i).flatMap (grp xs)).map D.str)) := by
        rw [List.getElem?_append_right (Nat.le_refl _), Nat.sub_self]
        rfl
      have hz : ((((sortI (ded (lensOf xs))).take i).flatMap (grp xs)).map D.str).length + ((grp xs l').map D.str).length ≤ sizeLine := by
        have h1 := flat_len (grp xs) 4000 glen ((sortI (ded (lensOf xs))).take i)
        have h2 := glen l'
        have h3 : ((sortI (ded (lensOf xs))).take i).length ≤ 4000 := by rw [List.length_take]; omega
        rw [List.length_map, List.length_map]
        have h4 : 4000 * 4000 + 4000 ≤ sizeLine := by decide
        have h5 := Nat.mul_le_mul_right 4000 h3
        omega
      refine ⟨_, _, _, _, gN_ev, .inl (sDrop_ev (dExt_ev (dVar_ev rfl) hg at_m at_m rfl hz)), ⟨_, _, rfl⟩, ?_⟩
      rw [List.take_add_one, l1]
      simp)
  rw [List.length_map, List.take_length] at b2
  subst b2
  refine ⟨S1.length, (S1 ++ [Ob.lst ((orderS xs).map D.str)]).drop S.length, ?_, Nat.le_of_lt big, ?_⟩
  · rw [← pre_app (S' := S1 ++ [Ob.lst ((orderS xs).map D.str)]) (fun k hk => by rw [List.getElem?_append_left (by omega)]; exact a2.pre k hk) (by rw [List.length_append]; omega)]
    refine runB_rt ?_
    unfold g_in_order
    refine sSeq_ev (sAsg_ev (d := .ptr S.length) (S1 := S ++ [.dK []]) rfl) (sqK_nx ?_)
    refine sSeq_ev a1 (sqK_nx ?_)
    refine sSeq_ev (sAsg_ev (dNew_ev (few_ev dNil_ev (by decide)))) (sqK_nx ?_)
    refine sSeq_ev b1 (sqK_nx ?_)
    exact sRet_ev (dVar_ev rfl)
  · rw [← pre_app (S' := S1 ++ [Ob.lst ((orderS xs).map D.str)]) (fun k hk => by rw [List.getElem?_append_left (by omega)]; exact a2.pre k hk) (by rw [List.length_append]; omega), List.getElem?_append_right (Nat.le_refl _), Nat.sub_self]
    rfl
/-- in_order, frozen -/
theorem in_order_frz : ∀ (ds : List D) (S : List Ob) (r : D × List Ob), ds.length = 1 → c_in_order ds S = some r → ∃ r', runB 6 g_in_order ds S = some r' ∧ RzR S r' r := by
  intro ds S r hl h
  match ds, hl with
  | [d], _ =>
    obtain ⟨xs, h1, h2⟩ := Option.bind_eq_some_iff.mp (show ((lstOf S d).bind strsOf).bind _ = some r from h)
    split at h2
    · rename_i hz
      cases h2
      obtain ⟨ys, y1, y2⟩ := Option.bind_eq_some_iff.mp h1
      have e : ys = xs.map D.str := strs_back y2
      rw [e] at y1
      obtain ⟨m, T, r1, r2, r3⟩ := in_order_run y1 hz.1 hz.2
      exact ⟨_, r1, RzR.same (.inr ⟨m, _, r2, rfl, r3, rzA_bnd _ (strs_bnd _ _)⟩)⟩
    · cases h2
where
  strs_back : ∀ {ys : List D} {xs : List Str}, strsOf ys = some xs → ys = xs.map D.str
  | [], xs, h => by
    cases h
    rfl
  | .str i :: r, xs, h => by
    obtain ⟨l, h1, rfl⟩ := Option.map_eq_some_iff.mp (show (strsOf r).map _ = some xs from h)
    rw [strs_back h1]
    rfl
  | .non :: r, xs, h => nomatch h
  | .bl _ :: r, xs, h => nomatch h
  | .int _ :: r, xs, h => nomatch h
  | .lst _ :: r, xs, h => nomatch h
  | .tup _ :: r, xs, h => nomatch h
  | .ktp _ :: r, xs, h => nomatch h
  | .dK _ :: r, xs, h => nomatch h
  | .dT _ :: r, xs, h => nomatch h
  | .obj _ _ :: r, xs, h => nomatch h
  | .ptr _ :: r, xs, h => nomatch h
  | .scr :: r, xs, h => nomatch h
  | .ty _ :: r, xs, h => nomatch h
  | .cls _ :: r, xs, h => nomatch h
end DL


set_option Elab.async false
set_option linter.all false
set_option maxRecDepth 100000
set_option maxHeartbeats 4000000
/-! P6: are_words. -/
namespace DL
open PySem PySem.Spec PyProof.Rows L2
local macro_rules | `(tactic| walk_at "dl") => `(tactic| first
  | exact dVar_ev rfl | exact dC_ev | exact dNil_ev | exact dNoPart_ev | exact sNil_ev | exact gN_ev | exact sqK_rt
  | apply dBin_ev | apply dTest_ev | apply dNot_ev | apply sIf_ev | apply dIf_ev | apply dAnd_ev | apply dOr_ev | apply dAndV_ev | apply dOrV_ev | apply dCons_ev | apply few_ev | apply dTree_ev | apply dNew_ev | apply dTup_ev | apply dCB_ev | apply dIsi_ev | apply dFld_ev | apply dPart_ev | apply sAsg_ev | apply sRet_ev | apply sDrop_ev | apply sAsgG_ev | apply sSeq_ev | apply sqK_nx | apply gSetL_ev | apply ifK_t | apply ifK_f
  | apply dCall_ev | apply fScr_ev | exact lenOk (Nat.le_of_ble_eq_true rfl)
  | refine ifK_dt (by first | assumption | decide | omega) ?_ | refine ifK_df (by first | assumption | decide | omega) ?_
  | exact opMod_ev (by first | assumption | decide | omega) | exact opMul_ev (.inl (by omega)) | exact opMul_ev (.inr (by omega)) | exact opDiv_ev (by first | assumption | decide | omega) | (refine (@id.{0} _ ?_); assumption) | (with_reducible rfl) | rfl)
/-- words that make a code -/
structure GoodW (ws : List (List Bool)) : Prop where
  two : 2 ≤ ws.length
  many : ws.length ≤ 2000
  len : ∀ w ∈ ws, w.length ≤ 2000
  ne : ∀ w ∈ ws, w ≠ []
  nd : ws.Nodup
  pf : ∀ w ∈ ws, ∀ i, i < w.length → w.take i ∉ ws
theorem tg_lst {S : List Ob} {d : D} {l : List D} (h : lstOf S d = some l) : tgOf S d = some (.b "list") := by
  cases d with
  | lst xs => rfl
  | ptr k =>
    unfold lstOf at h
    simp only at h
    split at h
    · rename_i xs hk
      simp only [tgOf, hk]
    · cases h
  | _ => cases h
theorem len_lst {S : List Ob} {d : D} {l : List D} (h : lstOf S d = some l) : fLen S [d] = some (.int (l.length : Nat)) := by
  show (lenS S d).map D.int = _
  cases d with
  | lst xs =>
    cases h
    rfl
  | ptr k =>
    unfold lstOf at h
    simp only at h
    split at h
    · rename_i xs hk
      cases h
      simp only [lenS, hk]
      rfl
    · cases h
  | _ => cases h
theorem key_get (S : List Ob) (ks : List Key) (w : List Bool) : opIn S (wd w) (.dK (setK ks)) = some (.bl (getD' (setK ks) (Sum.inr (ws w))).isSome) := rfl
theorem key_no (S : List Ob) {ks : List Key} {w : List Bool} (h : (Sum.inr (ws w) : Key) ∉ ks) : opIn S (wd w) (.dK (setK ks)) = some (.bl false) := by
  rw [key_get, getD_set, if_neg h]
  rfl
theorem key_yes (S : List Ob) {ks : List Key} {w : List Bool} (h : (Sum.inr (ws w) : Key) ∈ ks) : opIn S (wd w) (.dK (setK ks)) = some (.bl true) := by
  rw [key_get, getD_set, if_pos h]
  rfl
theorem eq_nil_w (S : List Ob) (w : List Bool) : opEq S (wd w) (.str "") = some (.bl (decide (w = []))) := by
  have h : opEq S (wd w) (.str "") = some (.bl (decide (V.str (ws w) = V.str ""))) := rfl
  rw [h]
  congr 2
  apply decide_eq_decide.mpr
  constructor
  · intro e
    have e2 : ws w = ws [] := by rw [← s_nil]; exact V.str.inj e
    exact ws_inj e2
  · intro e
    rw [e, s_nil]
def g_are_words : DFS := (sSeq (sIf (dOr (dNot (dTest (dIsi (isiB "list") (dVar 0)))) (dTest (dBin opLt (dCB fLen (dCons (dVar 0) dNil)) (dC (.int 2))))) (sRet (dC (.bl false))) sNil)
    (sSeq (sIf (dTest (dBin opNe (dTree (dLc [2] (iLst (dVar 0)) (gN 2) (dOr (dNot (dTest (dCall 1 c_is_row (dCons (dVar 2) dNil)))) (dTest (dBin opEq (dVar 2) (dC (.str ""))))) (dVar 2))) (dTree (few dNil)))) (sRet (dC (.bl false))) sNil)
    (sSeq (sAsg 1 (dTreeK (dDc [2] (iLst (dVar 0)) (gN 2) dYes (dVar 2) (dC (.bl true)))))
    (sSeq (sIf (dTest (dBin opNe (dCB fLen (dCons (dVar 1) dNil)) (dCB fLen (dCons (dVar 0) dNil)))) (sRet (dC (.bl false))) sNil)
    (sRet (dBin opEq (dTree (dLc2 [2, 3] [3] (iLst (dVar 0)) (gN 2) dYes (iLst (dCall 1 c_beginnings (dCons (dVar 2) dNil))) (gN 3) (dTest (dBin opIn (dVar 3) (dVar 1))) (dVar 3))) (dTree (few dNil))))))))
theorem are_words_run {S : List Ob} {d : D} {bs : List (List Bool)} (hd : lstOf S d = some (bs.map wd)) (G : GoodW bs) : runB 4 g_are_words [d] S = some (.bl true, S) := by
  have hn : (bs.map wd).length = bs.length := List.length_map _
  have small : ∀ n : Nat, n ≤ 2000 → n ≤ sizeLine := fun n h => Nat.le_trans h (by decide)
  have two := G.two
  -- no word is bad
  have bad : dLc [2] (iLst (dVar 0)) (gN 2) (dOr (dNot (dTest (dCall 1 c_is_row (dCons (dVar 2) dNil)))) (dTest (dBin opEq (dVar 2) (dC (.str ""))))) (dVar 2) [some d, none, none, none] S = some ([], S) := by
    have := dLc_pure (vs := [2]) (fi := iLst (dVar 0)) (tg := gN 2) (t := dOr (dNot (dTest (dCall 1 c_is_row (dCons (dVar 2) dNil)))) (dTest (dBin opEq (dVar 2) (dC (.str ""))))) (el := dVar 2) (E := [some d, none, none, none]) (S := S) (s := .live d) (xs := bs.map wd) (fun _ => false) id (fun e => [some d, none, some e, none])
      (live_ev (dVar_ev rfl) hd) (live_at hd) (live_len hd) (by rw [hn]; exact small _ G.many) (fun _ _ => rfl) (fun e he => by
        obtain ⟨w, hw, rfl⟩ := List.mem_map.mp he
        have h1 : dNot (dTest (dCall 1 c_is_row (dCons (dVar 2) dNil))) [some d, none, some (wd w), none] S = some (false, S) := dNot_ev (b := true) (dTest_ev (dCall_ev (dCons_ev (dVar_ev rfl) dNil_ev) rfl (is_row_ok w (Nat.le_trans (G.len w hw) (by decide)))))
        have h2 : dTest (dBin opEq (dVar 2) (dC (.str ""))) [some d, none, some (wd w), none] S = some (false, S) := by
          have := eq_nil_w S w
          rw [decide_eq_false (G.ne w hw)] at this
          exact dTest_ev (dBin_ev (dVar_ev rfl) dC_ev this)
        exact dOr_pure h1 h2) (fun _ _ h => nomatch h)
    rw [this]
    simp
  -- the dict of the words
  have dict : dDc [2] (iLst (dVar 0)) (gN 2) dYes (dVar 2) (dC (.bl true)) [some d, none, none, none] S = some (setK ((bs.map ws).map Sum.inr), S) := by
    have := dDc_pure (vs := [2]) (fi := iLst (dVar 0)) (tg := gN 2) (t := dYes) (kx := dVar 2) (vx := dC (.bl true)) (E := [some d, none, none, none]) (S := S) (s := .live d) (xs := bs.map wd) (fun _ => true) (fun e => match e with | .str x => .inr x | _ => .inl 0) (fun _ => .bl true) (fun e => [some d, none, some e, none])
      (live_ev (dVar_ev rfl) hd) (live_at hd) (live_len hd) (by rw [hn]; exact small _ G.many) (fun _ _ => rfl) (fun _ _ => rfl) (fun e he _ => by
        obtain ⟨w, hw, rfl⟩ := List.mem_map.mp he
        exact ⟨wd w, rfl, rfl⟩) (fun _ _ _ => rfl)
    rw [this, List.filter_eq_self.mpr (fun _ _ => rfl)]
    have e : ∀ (l : List (List Bool)) (acc : List (Key × D)), (l.map wd).foldl (fun a e => putD a (match e with | .str x => Sum.inr x | _ => Sum.inl 0) (.bl true)) acc = ((l.map ws).map (Sum.inr : Str → Key)).foldl (fun a k => putD a k (.bl true)) acc := by
      intro l
      induction l with
      | nil => exact fun _ => rfl
      | cons x l ih => exact fun acc => ih _
    have nd : ((bs.map ws).map (Sum.inr : Str → Key)).Nodup := by
      rw [List.map_map]
      exact (List.pairwise_map).mpr (G.nd.imp fun h e => h (ws_inj (Sum.inr.inj e)))
    rw [e, fold_set, ded_id nd]
  -- no beginning is a word
  have pref : dLc2 [2, 3] [3] (iLst (dVar 0)) (gN 2) dYes (iLst (dCall 1 c_beginnings (dCons (dVar 2) dNil))) (gN 3) (dTest (dBin opIn (dVar 3) (dVar 1))) (dVar 3) [some d, some (.dK (setK ((bs.map ws).map Sum.inr))), none, none] S = some ([], S) := by
    have hb : ∀ w ∈ bs, c_beginnings [wd w] S = some (.lst ((begs w).map wd), S) := fun w hw => beginnings_ok w (Nat.le_trans (G.len w hw) (by decide))
    have := dLc2_pure (vs := [2, 3]) (vs1 := [3]) (fi := iLst (dVar 0)) (tg := gN 2) (t := dYes) (i1 := iLst (dCall 1 c_beginnings (dCons (dVar 2) dNil))) (tg1 := gN 3) (t1 := dTest (dBin opIn (dVar 3) (dVar 1))) (el := dVar 3) (E := [some d, some (.dK (setK ((bs.map ws).map Sum.inr))), none, none]) (S := S) (s := .live d) (xs := bs.map wd)
      (fun _ => true) (fun e => [some d, some (.dK (setK ((bs.map ws).map Sum.inr))), some e, none]) (fun e => match c_beginnings [e] S with | some p => .live p.1 | none => .live e) (fun e => match c_beginnings [e] S with | some (.lst l, _) => l | _ => []) (fun _ _ => false) (fun _ e => e) (fun e e2 => [some d, some (.dK (setK ((bs.map ws).map Sum.inr))), some e, some e2])
      (live_ev (dVar_ev rfl) hd) (live_at hd) (live_len hd) (fun _ _ => rfl) (fun _ _ => rfl)
      (fun e he _ => by
        obtain ⟨w, hw, rfl⟩ := List.mem_map.mp he
        rw [hb w hw]
        exact live_ev (dCall_ev (dCons_ev (dVar_ev rfl) dNil_ev) rfl (hb w hw)) rfl)
      (fun e he _ i => by
        obtain ⟨w, hw, rfl⟩ := List.mem_map.mp he
        rw [hb w hw]
        rfl)
      (fun e he _ => by
        obtain ⟨w, hw, rfl⟩ := List.mem_map.mp he
        rw [hb w hw]
        rfl)
      (fun _ _ _ _ _ => rfl)
      (fun e he _ e2 he2 => by
        obtain ⟨w, hw, rfl⟩ := List.mem_map.mp he
        rw [hb w hw] at he2
        obtain ⟨v, hv, rfl⟩ := List.mem_map.mp he2
        obtain ⟨i, hi, rfl⟩ := List.mem_map.mp hv
        refine dTest_ev (dBin_ev (dVar_ev rfl) (dVar_ev rfl) (key_no S fun q => ?_))
        obtain ⟨z, hz, hz2⟩ := List.mem_map.mp q
        cases hz2
        obtain ⟨u, hu, hu2⟩ := List.mem_map.mp hz
        rw [ws_inj hu2] at hu
        exact G.pf w hw i (List.mem_range.mp hi) hu)
      (fun _ _ _ _ _ h => nomatch h) 2000 (fun e he => by
        obtain ⟨w, hw, rfl⟩ := List.mem_map.mp he
        rw [hb w hw]
        simpa [begs] using G.len w hw) (by rw [hn]; exact Nat.le_trans (Nat.mul_le_mul_right 2000 G.many) (by decide))
    rw [this]
    simp
  have hlen : fLen S [d] = some (.int (bs.length : Nat)) := by rw [len_lst hd, hn]
  have hlen2 : fLen S [.dK (setK ((bs.map ws).map (Sum.inr : Str → Key)))] = some (.int (bs.length : Nat)) := by
    show some (D.int _) = _
    simp [setK]
  have ne : opNe S (.int (bs.length : Nat)) (.int (bs.length : Nat)) = some (.bl false) := by
    show some (D.bl (!decide (V.int (bs.length : Nat) = V.int (bs.length : Nat)))) = _
    rw [decide_eq_true rfl]
    rfl
  have tg := tg_lst hd
  refine runB_rt ?_
  unfold g_are_words
  refine sSeq_ev (sIf_ev (dOr_pure (b1 := false) (b2 := false) (dNot_ev (b := true) (dTest_ev (dIsi_ev (dVar_ev rfl) tg rfl))) ?_) (ifK_f sNil_ev)) (sqK_nx ?_)
  · have : dTest (dBin opLt (dCB fLen (dCons (dVar 0) dNil)) (dC (.int 2))) [some d, none, none, none] S = some (decide ((bs.length : Int) < 2), S) := dTest_ev (dBin_ev (dCB_ev (dCons_ev (dVar_ev rfl) dNil_ev) hlen) dC_ev rfl)
    rw [decide_eq_false (by omega)] at this
    exact this
  refine sSeq_ev (sIf_ev (b := false) (dTest_ev (dBin_ev (dTree_ev bad) (dTree_ev (few_ev dNil_ev (by decide))) rfl)) (ifK_f sNil_ev)) (sqK_nx ?_)
  refine sSeq_ev (sAsg_ev (d := .dK (setK ((bs.map ws).map Sum.inr))) (S1 := S) ?_) (sqK_nx ?_)
  · exact congrArg (Option.map fun p => (D.dK p.1, p.2)) dict
  refine sSeq_ev (sIf_ev (b := false) (dTest_ev (dBin_ev (dCB_ev (dCons_ev (dVar_ev rfl) dNil_ev) hlen2) (dCB_ev (dCons_ev (dVar_ev rfl) dNil_ev) hlen) ne)) (ifK_f sNil_ev)) (sqK_nx ?_)
  exact sRet_ev (dBin_ev (dTree_ev pref) (dTree_ev (few_ev dNil_ev (by decide))) rfl)
end DL


set_option Elab.async false
set_option linter.all false
set_option maxRecDepth 100000
set_option maxHeartbeats 4000000
/-! P7: a code as data; words, states, full, ==. -/
namespace DL
open PySem PySem.Spec PyProof.Rows L2
local macro_rules | `(tactic| walk_at "dl") => `(tactic| first
  | exact dVar_ev rfl | exact dC_ev | exact dNil_ev | exact dNoPart_ev | exact sNil_ev | exact gN_ev | exact sqK_rt
  | apply dBin_ev | apply dTest_ev | apply dNot_ev | apply sIf_ev | apply dIf_ev | apply dAnd_ev | apply dOr_ev | apply dAndV_ev | apply dOrV_ev | apply dCons_ev | apply few_ev | apply dTree_ev | apply dNew_ev | apply dTup_ev | apply dCB_ev | apply dIsi_ev | apply dFld_ev | apply dPart_ev | apply sAsg_ev | apply sRet_ev | apply sDrop_ev | apply sAsgG_ev | apply sSeq_ev | apply sqK_nx | apply gSetL_ev | apply ifK_t | apply ifK_f
  | apply dCall_ev | apply fScr_ev | exact lenOk (Nat.le_of_ble_eq_true rfl)
  | refine ifK_dt (by first | assumption | decide | omega) ?_ | refine ifK_df (by first | assumption | decide | omega) ?_
  | exact opMod_ev (by first | assumption | decide | omega) | exact opMul_ev (.inl (by omega)) | exact opMul_ev (.inr (by omega)) | exact opDiv_ev (by first | assumption | decide | omega) | (refine (@id.{0} _ ?_); assumption) | (with_reducible rfl) | rfl)
/-- a code that will not change -/
def codeD (rows heads : List Str) (ways : List (List Key × D)) : D := .obj 0 [("rows", .tup (rows.map D.str)), ("heads", .tup (heads.map D.str)), ("ways", .dT ways)]
section
variable {S : List Ob} {rows heads rows2 heads2 : List Str} {ways ways2 : List (List Key × D)}
theorem fld_rows : fldOf S (codeD rows heads ways) "rows" = some (.tup (rows.map D.str)) := by rfl
theorem fld_heads : fldOf S (codeD rows heads ways) "heads" = some (.tup (heads.map D.str)) := by rfl
theorem fld_ways : fldOf S (codeD rows heads ways) "ways" = some (.dT ways) := by rfl
def g_Code_words : DFS := (sRet (dTree (dCB fList (dCons (dFld "rows" (dVar 0)) dNil))))
def g_Code_wordsN : DFS := (sRet (dNew (dCB fList (dCons (dFld "rows" (dVar 0)) dNil))))
def g_Code_states : DFS := (sRet (dTree (dCB fList (dCons (dFld "heads" (dVar 0)) dNil))))
def g_Code_statesN : DFS := (sRet (dNew (dCB fList (dCons (dFld "heads" (dVar 0)) dNil))))
def P_words := runB 1 g_Code_words
def PN_words := runB 1 g_Code_wordsN
def P_states := runB 1 g_Code_states
def PN_states := runB 1 g_Code_statesN
theorem words_ok : P_words [codeD rows heads ways] S = some (.lst (rows.map D.str), S) := by
  refine runB_rt ?_
  unfold g_Code_words
  exact sRet_ev (dTree_ev (dCB_ev (dCons_ev (dFld_ev (dVar_ev rfl) fld_rows) dNil_ev) rfl))
theorem wordsN_ok : PN_words [codeD rows heads ways] S = some (.ptr S.length, S ++ [.lst (rows.map D.str)]) := by
  refine runB_rt ?_
  unfold g_Code_wordsN
  exact sRet_ev (dNew_ev (dCB_ev (dCons_ev (dFld_ev (dVar_ev rfl) fld_rows) dNil_ev) rfl))
theorem states_ok : P_states [codeD rows heads ways] S = some (.lst (heads.map D.str), S) := by
  refine runB_rt ?_
  unfold g_Code_states
  exact sRet_ev (dTree_ev (dCB_ev (dCons_ev (dFld_ev (dVar_ev rfl) fld_heads) dNil_ev) rfl))
theorem statesN_ok : PN_states [codeD rows heads ways] S = some (.ptr S.length, S ++ [.lst (heads.map D.str)]) := by
  refine runB_rt ?_
  unfold g_Code_statesN
  exact sRet_ev (dNew_ev (dCB_ev (dCons_ev (dFld_ev (dVar_ev rfl) fld_heads) dNil_ev) rfl))
def g_is_full : DFS := (sRet (dBin opEq (dCB fLen (dCons (dFld "ways" (dVar 0)) dNil)) (dBin opMul (dC (.int 2)) (dCB fLen (dCons (dFld "heads" (dVar 0)) dNil)))))
def c_is_full := runB 1 g_is_full
theorem is_full_ok (h : heads.length < 1000000) : c_is_full [codeD rows heads ways] S = some (.bl (decide ((ways.length : Int) = 2 * (heads.length : Int))), S) := by
  refine runB_rt ?_
  unfold g_is_full
  have h1 : fLen S [.dT ways] = some (.int (ways.length : Nat)) := rfl
  have h2 : fLen S [.tup (heads.map D.str)] = some (.int (heads.length : Nat)) := by
    show some (D.int ((heads.map D.str).length : Nat)) = _
    rw [List.length_map]
  have e : opEq S (.int (ways.length : Nat)) (.int (2 * (heads.length : Nat))) = some (.bl (decide ((ways.length : Int) = 2 * (heads.length : Int)))) := by
    show some (D.bl (decide (V.int _ = V.int _))) = _
    congr 2
    exact decide_eq_decide.mpr ⟨fun e => V.int.inj e, fun e => congrArg V.int e⟩
  exact sRet_ev (dBin_ev (dCB_ev (dCons_ev (dFld_ev (dVar_ev rfl) fld_ways) dNil_ev) h1) (dBin_ev dC_ev (dCB_ev (dCons_ev (dFld_ev (dVar_ev rfl) fld_heads) dNil_ev) h2) (opMul_ev (.inl ⟨by decide, by decide⟩))) e)
def g_Code_full : DFS := (sRet (dCall 1 c_is_full (dCons (dVar 0) dNil)))
def P_full := runB 1 g_Code_full
theorem full_ok (h : heads.length < 1000000) : P_full [codeD rows heads ways] S = some (.bl (decide ((ways.length : Int) = 2 * (heads.length : Int))), S) := by
  refine runB_rt ?_
  unfold g_Code_full
  exact sRet_ev (dCall_ev (dCons_ev (dVar_ev rfl) dNil_ev) rfl (is_full_ok h))
end
end DL


set_option Elab.async false
set_option linter.all false
set_option maxRecDepth 100000
set_option maxHeartbeats 4000000
/-! P8: rows compared. -/
namespace DL
open PySem PySem.Spec PyProof.Rows L2
local macro_rules | `(tactic| walk_at "dl") => `(tactic| first
  | exact dVar_ev rfl | exact dC_ev | exact dNil_ev | exact dNoPart_ev | exact sNil_ev | exact gN_ev | exact sqK_rt
  | apply dBin_ev | apply dTest_ev | apply dNot_ev | apply sIf_ev | apply dIf_ev | apply dAnd_ev | apply dOr_ev | apply dAndV_ev | apply dOrV_ev | apply dCons_ev | apply few_ev | apply dTree_ev | apply dNew_ev | apply dTup_ev | apply dCB_ev | apply dIsi_ev | apply dFld_ev | apply dPart_ev | apply sAsg_ev | apply sRet_ev | apply sDrop_ev | apply sAsgG_ev | apply sSeq_ev | apply sqK_nx | apply gSetL_ev | apply ifK_t | apply ifK_f
  | apply dCall_ev | apply fScr_ev | exact lenOk (Nat.le_of_ble_eq_true rfl)
  | refine ifK_dt (by first | assumption | decide | omega) ?_ | refine ifK_df (by first | assumption | decide | omega) ?_
  | exact opMod_ev (by first | assumption | decide | omega) | exact opMul_ev (.inl (by omega)) | exact opMul_ev (.inr (by omega)) | exact opDiv_ev (by first | assumption | decide | omega) | (refine (@id.{0} _ ?_); assumption) | (with_reducible rfl) | rfl)
theorem eqvAll_strs : ∀ xs ys : List Str, PyData.eqvAll (xs.map PyData.str) (ys.map PyData.str) = decide (xs = ys)
  | [], [] => by simp [PyData.eqvAll]
  | [], y :: ys => by simp [PyData.eqvAll]
  | x :: xs, [] => by simp [PyData.eqvAll]
  | x :: xs, y :: ys => by
    have ih := eqvAll_strs xs ys
    simp only [List.map_cons, PyData.eqvAll, PyData.eqv, ih]
    by_cases h : x = y
    · subst h
      by_cases h2 : xs = ys
      · simp [h2]
      · simp [h2]
    · simp [h]
theorem mapM_strs (S : List Ob) (n : Nat) : ∀ xs : List Str, (xs.map D.str).mapM (toP S (n + 1)) = some (xs.map PyData.str)
  | [] => rfl
  | x :: xs => by
    have ih := mapM_strs S n xs
    rw [List.map_cons, List.mapM_cons, ih]
    rfl
theorem strOk_ws (b : List Bool) : PyData.canLay0 (.str (ws b)) = true := by
  simp only [PyData.canLay0, PyData.strOk, ws]
  rw [Array.all_eq_true']
  intro x hx
  rw [List.mem_toArray] at hx
  obtain ⟨y, _, rfl⟩ := List.mem_map.mp hx
  cases y <;> decide
theorem canLay_strs : ∀ bs : List (List Bool), PyData.canLayAll0 ((bs.map ws).map PyData.str) = true
  | [] => rfl
  | b :: bs => by
    have h1 := strOk_ws b
    have h2 := canLay_strs bs
    simp only [List.map_cons, PyData.canLayAll0, h2, Bool.and_true]
    exact h1
theorem depth_strs : ∀ xs : List Str, PyData.depthAll (xs.map PyData.str) ≤ 1
  | [] => by simp [PyData.depthAll]
  | x :: xs => by
    have := depth_strs xs
    simp only [List.map_cons, PyData.depthAll, PyData.depth]
    omega
theorem shaped_tup (bs : List (List Bool)) : SeqAt.shaped (.tuple ((bs.map ws).map PyData.str)) = true := by
  unfold SeqAt.shaped
  rw [Bool.and_eq_true_iff]
  refine ⟨canLay_strs bs, decide_eq_true ?_⟩
  have := depth_strs (bs.map ws)
  simp only [PyData.depth]
  omega
theorem eq_rows (S : List Ob) (as bs : List (List Bool)) : opEq S (.tup ((as.map ws).map D.str)) (.tup ((bs.map ws).map D.str)) = some (.bl (decide (as.map ws = bs.map ws))) := by
  have h1 : toP S 60 (.tup ((as.map ws).map D.str)) = some (.tuple ((as.map ws).map PyData.str)) := by
    show (((as.map ws).map D.str).mapM (toP S 59)).map _ = _
    rw [mapM_strs]
    rfl
  have h2 : toP S 60 (.tup ((bs.map ws).map D.str)) = some (.tuple ((bs.map ws).map PyData.str)) := by
    show (((bs.map ws).map D.str).mapM (toP S 59)).map _ = _
    rw [mapM_strs]
    rfl
  have e : eqv S (.tup ((as.map ws).map D.str)) (.tup ((bs.map ws).map D.str)) = (match toP S 60 (.tup ((as.map ws).map D.str)), toP S 60 (.tup ((bs.map ws).map D.str)) with
    | some p, some q => if (SeqAt.shaped p && SeqAt.shaped q) = true then some (PyData.eqv p q) else none
    | _, _ => none) := rfl
  unfold opEq
  rw [e, h1, h2]
  simp only [shaped_tup, Bool.and_self, if_true, Option.map_some, PyData.eqv, eqvAll_strs]
def g_Code_eq : DFS := (sRet (dAndV (dIsi (isiO 0) (dVar 1)) (dBin opEq (dFld "rows" (dVar 0)) (dFld "rows" (dVar 1)))))
def Q_0 := runB 2 g_Code_eq
theorem eq_code {S : List Ob} {as bs : List (List Bool)} {h1 h2 : List Str} {w1 w2 : List (List Key × D)} : Q_0 [codeD (as.map ws) h1 w1, codeD (bs.map ws) h2 w2] S = some (.bl (decide (as.map ws = bs.map ws)), S) := by
  refine runB_rt ?_
  unfold g_Code_eq
  exact sRet_ev (dAndV_ev (b := true) (dIsi_ev (dVar_ev rfl) rfl rfl) (ifK_t (dBin_ev (dFld_ev (dVar_ev rfl) fld_rows) (dFld_ev (dVar_ev rfl) fld_rows) (eq_rows S as bs))))
theorem eq_other {S : List Ob} {x d : D} {m : String} (hd : tgOf S d = some (.b m)) (hm : m ∈ ["NoneType", "bool", "int", "str", "list", "tuple", "dict"]) : Q_0 [x, d] S = some (.bl false, S) := by
  refine runB_rt ?_
  unfold g_Code_eq
  exact sRet_ev (dAndV_ev (b := false) (dIsi_ev (dVar_ev rfl) hd (if_pos hm)) (ifK_f rfl))
end DL


set_option Elab.async false
set_option linter.all false
set_option maxRecDepth 100000
set_option maxHeartbeats 4000000
/-! P9: the laws' helpers. -/
namespace DL
open PySem PySem.Spec PyProof.Rows L2
local macro_rules | `(tactic| walk_at "dl") => `(tactic| first
  | exact dVar_ev rfl | exact dC_ev | exact dNil_ev | exact dNoPart_ev | exact sNil_ev | exact gN_ev | exact sqK_rt
  | apply dBin_ev | apply dTest_ev | apply dNot_ev | apply sIf_ev | apply dIf_ev | apply dAnd_ev | apply dOr_ev | apply dAndV_ev | apply dOrV_ev | apply dCons_ev | apply few_ev | apply dTree_ev | apply dNew_ev | apply dTup_ev | apply dCB_ev | apply dIsi_ev | apply dFld_ev | apply dPart_ev | apply sAsg_ev | apply sRet_ev | apply sDrop_ev | apply sAsgG_ev | apply sSeq_ev | apply sqK_nx | apply gSetL_ev | apply ifK_t | apply ifK_f
  | apply dCall_ev | apply fScr_ev | exact lenOk (Nat.le_of_ble_eq_true rfl)
  | refine ifK_dt (by first | assumption | decide | omega) ?_ | refine ifK_df (by first | assumption | decide | omega) ?_
  | exact opMod_ev (by first | assumption | decide | omega) | exact opMul_ev (.inl (by omega)) | exact opMul_ev (.inr (by omega)) | exact opDiv_ev (by first | assumption | decide | omega) | (refine (@id.{0} _ ?_); assumption) | (with_reducible rfl) | rfl)
def g__law_pick : DFS := (sRet (dBin atD (dVar 1) (dCall 2 c__law_draw (dCons (dVar 0) (dCons (dCB fLen (dCons (dVar 1) dNil)) dNil)))))
def c__law_pick := runB 2 g__law_pick
theorem atI_in {xs : List D} {r : Int} (h0 : 0 ≤ r) (h1 : r < xs.length) : ∃ x, atI xs r = some x ∧ x ∈ xs := by
  unfold atI ixN
  rw [if_pos h0, if_pos h1, Option.bind_some, List.getElem?_eq_getElem (by omega)]
  exact ⟨_, rfl, List.getElem_mem _⟩
theorem pick_ok {S : List Ob} {p n : Nat} {xs : List D} (h : Pu S p n) (hn : n < 1000000) (hx : 0 < xs.length) (hx2 : xs.length < 1000000) : ∃ x S', c__law_pick [.ptr p, .lst xs] S = some (x, S') ∧ x ∈ xs ∧ Pu S' p (n + 1) ∧ But p S S' := by
  obtain ⟨r, S', h1, h2, h3, h4, h5⟩ := draw_ok (m := (xs.length : Nat)) h (by omega) (by omega) hn
  obtain ⟨x, x1, x2⟩ := atI_in h2 h3
  refine ⟨x, S', runB_rt ?_, x2, h4, h5⟩
  unfold g__law_pick
  have hl : fLen S [.lst xs] = some (.int (xs.length : Nat)) := len_lst rfl
  exact sRet_ev (dBin_ev (dVar_ev rfl) (dCall_ev (dCons_ev (dVar_ev rfl) (dCons_ev (dCB_ev (dCons_ev (dVar_ev rfl) dNil_ev) hl) dNil_ev)) rfl h1) (atD_lst x1))
end DL


set_option Elab.async false
set_option linter.all false
set_option maxRecDepth 100000
set_option maxHeartbeats 2000000
/-! T1: rows in order; codes as data. -/
namespace DL
open PySem PySem.Spec PyProof.Rows L2
def ltS (a b : Str) : Prop := a.length < b.length ∨ (a.length = b.length ∧ leS a b = true ∧ a ≠ b)
theorem leS_anti {a b : Str} (h1 : leS a b = true) (h2 : leS b a = true) : a = b := by
  have h1 := of_decide_eq_true h1
  have h2 := of_decide_eq_true h2
  have e := List.le_antisymm h1 h2
  cases a
  cases b
  simp only [Str.mk.injEq]
  exact Array.toList_inj.mp e
theorem leS_total (a b : Str) : (leS a b || leS b a) = true := by
  unfold leS
  rcases List.le_total a.cps.toList b.cps.toList with h | h
  · simp [h]
  · simp [h]
theorem leS_trans (a b c : Str) (h1 : leS a b = true) (h2 : leS b c = true) : leS a c = true := by
  unfold leS at *
  exact decide_eq_true (List.le_trans (of_decide_eq_true h1) (of_decide_eq_true h2))
theorem ltS_anti {a b : Str} (h1 : ltS a b) (h2 : ltS b a) : a = b := by
  rcases h1 with h1 | ⟨h1, h3, _⟩
  · rcases h2 with h2 | ⟨h2, _⟩ <;> omega
  · rcases h2 with h2 | ⟨_, h4, _⟩
    · omega
    · exact leS_anti h3 h4
theorem ltS_ne {a b : Str} (h : ltS a b) : a ≠ b := by
  rintro rfl
  rcases h with h | ⟨_, _, h⟩
  · omega
  · exact h rfl
theorem sortS_pair (l : List Str) : (sortS l).Pairwise fun a b => leS a b = true := List.pairwise_mergeSort (le := leS) leS_trans leS_total l
theorem mem_sortS {l : List Str} {a : Str} : a ∈ sortS l ↔ a ∈ l := List.mem_mergeSort
theorem nodup_sortS {l : List Str} (h : l.Nodup) : (sortS l).Nodup := (List.mergeSort_perm l leS).nodup_iff.mpr h
theorem sortS_lt {l : List Str} (h : l.Nodup) {n : Nat} (hl : ∀ a ∈ l, a.length = n) : (sortS l).Pairwise ltS := by
  have h1 := sortS_pair l
  have h2 := nodup_sortS h
  have h3 := List.pairwise_and_iff.mpr ⟨h1, h2⟩
  refine h3.imp_of_mem fun {a b} ha hb h => .inr ⟨?_, h.1, h.2⟩
  rw [hl a (mem_sortS.mp ha), hl b (mem_sortS.mp hb)]
theorem sortI_lt {l : List Int} (h : l.Nodup) : (sortI l).Pairwise fun a b => a < b := by
  have h1 : (sortI l).Pairwise fun a b => decide (a ≤ b) = true := List.pairwise_mergeSort (le := fun a b : Int => decide (a ≤ b)) (fun a b c => by simp; omega) (fun a b => by simp; omega) l
  have h2 : (sortI l).Nodup := (List.mergeSort_perm l _).nodup_iff.mpr h
  refine (List.pairwise_and_iff.mpr ⟨h1, h2⟩).imp fun {a b} h => ?_
  have := of_decide_eq_true h.1
  have := h.2
  omega
theorem mem_orderS {xs : List Str} {a : Str} : a ∈ orderS xs ↔ a ∈ xs := by
  unfold orderS
  rw [List.mem_flatMap]
  constructor
  · rintro ⟨l, _, h⟩
    exact (List.mem_filter.mp (mem_ded.mp (mem_sortS.mp h))).1
  · intro h
    refine ⟨(a.length : Int), (mem_sortI _ _).mpr (mem_ded.mpr (List.mem_map.mpr ⟨a, h, rfl⟩)), mem_sortS.mpr (mem_ded.mpr (List.mem_filter.mpr ⟨h, by simp⟩))⟩
theorem orderS_lt (xs : List Str) : (orderS xs).Pairwise ltS := by
  unfold orderS
  rw [List.pairwise_flatMap]
  constructor
  · intro l _
    refine sortS_lt (n := l.toNat) (nodup_ded _) fun a ha => ?_
    have := (List.mem_filter.mp (mem_ded.mp ha)).2
    simp at this
    omega
  · refine (sortI_lt (nodup_ded _)).imp fun {i j} hij x hx y hy => .inl ?_
    have h1 := (List.mem_filter.mp (mem_ded.mp (mem_sortS.mp hx))).2
    have h2 := (List.mem_filter.mp (mem_ded.mp (mem_sortS.mp hy))).2
    simp at h1 h2
    omega
theorem ltS_uniq {l m : List Str} (h1 : l.Pairwise ltS) (h2 : m.Pairwise ltS) (h : ∀ a, a ∈ l ↔ a ∈ m) : l = m := by
  have n1 : l.Nodup := h1.imp ltS_ne
  have n2 : m.Nodup := h2.imp ltS_ne
  exact List.Perm.eq_of_pairwise (fun a b _ _ h3 h4 => ltS_anti h3 h4) h1 h2 ((List.perm_ext_iff_of_nodup n1 n2).mpr h)
theorem orderS_ext {xs ys : List Str} (h : ∀ a, a ∈ xs ↔ a ∈ ys) : orderS xs = orderS ys :=
  ltS_uniq (orderS_lt xs) (orderS_lt ys) fun a => by rw [mem_orderS, mem_orderS]; exact h a
theorem orderS_uniq {m xs : List Str} (h1 : m.Pairwise ltS) (h : ∀ a, a ∈ m ↔ a ∈ xs) : m = orderS xs :=
  ltS_uniq h1 (orderS_lt xs) fun a => by rw [mem_orderS]; exact h a

/-! ### rows of bits -/
def un (x : Str) : Row := x.cps.toList.map fun c => c == 49
theorem un_ws (b : Row) : un (ws b) = b := by
  unfold un ws
  simp only [List.map_map]
  have : ((fun c : Nat => c == 49) ∘ fun x : Bool => if x then 49 else 48) = id := by
    funext x
    cases x <;> rfl
  rw [this, List.map_id]
def ordR (W : List Row) : List Row := (orderS (W.map ws)).map un
theorem mem_ws {W : List Row} {r : Row} : ws r ∈ W.map ws ↔ r ∈ W := by
  rw [List.mem_map]
  constructor
  · rintro ⟨a, h, e⟩
    rw [← ws_inj e]
    exact h
  · exact fun h => ⟨r, h, rfl⟩
theorem ordR_ws (W : List Row) : (ordR W).map ws = orderS (W.map ws) := by
  unfold ordR
  rw [List.map_map]
  conv => rhs; rw [← List.map_id (orderS (W.map ws))]
  refine List.map_congr_left fun x hx => ?_
  obtain ⟨b, _, rfl⟩ := List.mem_map.mp (mem_orderS.mp hx)
  simp [un_ws]
theorem mem_ordR {W : List Row} {r : Row} : r ∈ ordR W ↔ r ∈ W := by
  rw [← mem_ws (W := ordR W), ordR_ws, mem_orderS, mem_ws]
def ltR (a b : Row) : Prop := ltS (ws a) (ws b)
theorem ordR_lt (W : List Row) : (ordR W).Pairwise ltR := by
  have := orderS_lt (W.map ws)
  rw [← ordR_ws, List.pairwise_map] at this
  exact this
theorem nodup_ordR (W : List Row) : (ordR W).Nodup := (ordR_lt W).imp fun h e => ltS_ne h (congrArg ws e)
theorem ordR_ext {W V : List Row} (h : ∀ r, r ∈ W ↔ r ∈ V) : ordR W = ordR V := by
  unfold ordR
  rw [orderS_ext fun a => ?_]
  simp only [List.mem_map, h]
theorem ordR_uniq {l W : List Row} (h1 : l.Pairwise ltR) (h : ∀ r, r ∈ l ↔ r ∈ W) : l = ordR W := by
  have e : l.map ws = orderS (W.map ws) := orderS_uniq (List.pairwise_map.mpr h1) fun a => by simp only [List.mem_map, h]
  unfold ordR
  rw [← e, List.map_map]
  conv => lhs; rw [← List.map_id l]
  exact List.map_congr_left fun x _ => by simp [un_ws]
theorem ordR_len {W : List Row} (h : W.Nodup) : (ordR W).length = W.length :=
  ((List.perm_ext_iff_of_nodup (nodup_ordR W) h).mpr fun _ => mem_ordR).length_eq

/-! ### a code -/
abbrev headsW (W : List Row) : List Row := W.flatMap begs
theorem mem_begs {w s : Row} : s ∈ begs w ↔ ∃ i, i < w.length ∧ s = w.take i := by
  unfold begs
  rw [List.mem_map]
  constructor
  · rintro ⟨i, hi, rfl⟩
    exact ⟨i, List.mem_range.mp hi, rfl⟩
  · rintro ⟨i, hi, rfl⟩
    exact ⟨i, List.mem_range.mpr hi, rfl⟩
theorem mem_headsW {W : List Row} {s : Row} : s ∈ headsW W ↔ ∃ w ∈ W, ∃ i, i < w.length ∧ s = w.take i := by
  simp only [headsW, List.mem_flatMap, mem_begs]
def nextW (W : List Row) (s : Row) (b : Bool) : Option Row := if s ++ [b] ∈ W then some [] else if s ++ [b] ∈ headsW W then some (s ++ [b]) else none
def keyW (s : Row) (b : Bool) : List Key := [.inr (ws s), .inr (ws [b])]
def entW (W : List Row) (s : Row) : List (List Key × D) := [false, true].filterMap fun b => (nextW W s b).map fun n => (keyW s b, wd n)
def waysW (W : List Row) : List (List Key × D) := (ordR (headsW W)).flatMap (entW W)
def codeW (W : List Row) : D := codeD ((ordR W).map ws) ((ordR (headsW W)).map ws) (waysW W)
theorem headsW_ext {W V : List Row} (h : ∀ r, r ∈ W ↔ r ∈ V) (r : Row) : r ∈ headsW W ↔ r ∈ headsW V := by
  simp only [mem_headsW, h]
theorem nextW_ext {W V : List Row} (h : ∀ r, r ∈ W ↔ r ∈ V) : nextW W = nextW V := by
  funext s b
  unfold nextW
  simp only [h, headsW_ext h]
theorem codeW_ext {W V : List Row} (h : ∀ r, r ∈ W ↔ r ∈ V) : codeW W = codeW V := by
  unfold codeW waysW
  rw [ordR_ext h, ordR_ext (headsW_ext h)]
  have : entW W = entW V := by
    funext s
    unfold entW
    rw [nextW_ext h]
  rw [this]
theorem keyW_inj {s s' : Row} {b b' : Bool} (h : keyW s b = keyW s' b') : s = s' ∧ b = b' := by
  unfold keyW at h
  obtain ⟨h1, h2⟩ := List.cons.inj h
  obtain ⟨h2, _⟩ := List.cons.inj h2
  have h3 := ws_inj (Sum.inr.inj h2)
  exact ⟨ws_inj (Sum.inr.inj h1), by simpa using h3⟩
theorem mem_entW {W : List Row} {s : Row} {p : List Key × D} : p ∈ entW W s ↔ ∃ b n, nextW W s b = some n ∧ p = (keyW s b, wd n) := by
  unfold entW
  rw [List.mem_filterMap]
  constructor
  · rintro ⟨b, _, h⟩
    obtain ⟨n, h1, rfl⟩ := Option.map_eq_some_iff.mp h
    exact ⟨b, n, h1, rfl⟩
  · rintro ⟨b, n, h1, rfl⟩
    exact ⟨b, by cases b <;> simp, by rw [h1]; rfl⟩
theorem entW_nd (W : List Row) (s : Row) : ((entW W s).map (·.1)).Nodup := by
  unfold entW
  have k : keyW s false ≠ keyW s true := fun e => nomatch (keyW_inj e).2
  cases h0 : nextW W s false <;> cases h1 : nextW W s true <;> simp [h0, h1, k]
theorem waysW_nd {W : List Row} {hs : List Row} (hn : hs.Nodup) : ((hs.flatMap (entW W)).map (·.1)).Nodup := by
  rw [List.map_flatMap]
  refine List.pairwise_flatMap.mpr ⟨fun s _ => entW_nd W s, hn.imp fun {s s'} h x hx y hy e => ?_⟩
  obtain ⟨p, hp, rfl⟩ := List.mem_map.mp hx
  obtain ⟨q, hq, rfl⟩ := List.mem_map.mp hy
  obtain ⟨b, n, _, rfl⟩ := mem_entW.mp hp
  obtain ⟨b', n', _, rfl⟩ := mem_entW.mp hq
  exact h (keyW_inj e).1
theorem getD_mem {κ α : Type} [DecidableEq κ] {l : List (κ × α)} (hn : (l.map (·.1)).Nodup) {k : κ} {x : α} (h : (k, x) ∈ l) : getD' l k = some x := by
  induction l with
  | nil => cases h
  | cons p l ih =>
    rw [List.map_cons, List.nodup_cons] at hn
    unfold getD'
    rcases List.mem_cons.mp h with rfl | h
    · simp
    · have : p.1 ≠ k := fun e => hn.1 (List.mem_map.mpr ⟨_, h, e.symm⟩)
      simp only [List.find?_cons, this, decide_false]
      exact ih hn.2 h
theorem getD_no {κ α : Type} [DecidableEq κ] {l : List (κ × α)} {k : κ} (h : ∀ x, (k, x) ∉ l) : getD' l k = none := by
  unfold getD'
  rw [Option.map_eq_none_iff, List.find?_eq_none]
  intro p hp e
  have := of_decide_eq_true e
  subst this
  exact h p.2 hp
theorem putD_fold {κ : Type} [DecidableEq κ] : ∀ (l : List (κ × D)) (a : List (κ × D)), ((a ++ l).map (·.1)).Nodup → l.foldl (fun a p => putD a p.1 p.2) a = a ++ l
  | [], a, _ => by simp
  | p :: l, a, h => by
    have h2 : ((a ++ [p] ++ l).map (·.1)).Nodup := by simpa using h
    have hp : ¬ (a.any fun q => decide (q.1 = p.1)) = true := by
      rw [List.any_eq_true]
      rintro ⟨q, hq, e⟩
      rw [List.map_append, List.map_cons, List.nodup_append] at h
      exact h.2.2 q.1 (List.mem_map.mpr ⟨q, hq, rfl⟩) p.1 (List.mem_cons_self ..) (of_decide_eq_true e)
    rw [List.foldl_cons]
    have e : putD a p.1 p.2 = a ++ [p] := by
      unfold putD
      rw [if_neg hp]
    rw [e, putD_fold l _ h2]
    simp
end DL

set_option Elab.async false
set_option linter.all false
set_option maxRecDepth 100000
set_option maxHeartbeats 2000000
/-! OP: operations on rows. -/
namespace DL
open PySem PySem.Spec PyProof.Rows L2
theorem map_wd (W : List Row) : (W.map ws).map D.str = W.map wd := by rw [List.map_map]; rfl
theorem strsOf_wd (W : List Row) : strsOf (W.map wd) = some (W.map ws) := by rw [← map_wd]; exact strsOf_strs _
theorem inV_str (x : Str) (xs : List Str) : inV (.str x) (xs.map V.str) = decide (x ∈ xs) := by
  unfold inV
  rw [List.any_map]
  induction xs with
  | nil => simp
  | cons y ys ih =>
    rw [List.any_cons, ih]
    simp only [Function.comp, eqV, List.mem_cons]
    by_cases h : y = x
    · subst h
      simp
    · have h2 : ¬ x = y := fun e => h e.symm
      simp [h, h2]
theorem sclAll_wd : ∀ W : List Row, sclAll (W.map wd) = some ((W.map ws).map V.str)
  | [] => rfl
  | w :: W => by
    have ih := sclAll_wd W
    simp only [List.map_cons, sclAll, sclD, ih]
theorem in_seq {S : List Ob} {d : D} {W : List Row} (h : seqOf S d = some (W.map wd)) (r : Row) : opIn S (wd r) d = some (.bl (decide (r ∈ W))) := by
  have key : ∀ d : D, seqOf S d = some (W.map wd) → (match seqOf S d with
    | some ys => match sclD (wd r), sclAll ys with
      | some v, some vs => some (inV v vs)
      | _, _ => none
    | none => (dictGet S d (wd r)).map fun o => o.isSome) = some (decide (r ∈ W)) := by
    intro d h
    rw [h]
    simp only [sclAll_wd, sclD, inV_str]
    congr 1
    exact decide_eq_decide.mpr mem_ws
  unfold opIn isIn
  cases d with
  | str z => cases h
  | _ => exact congrArg (Option.map D.bl) (key _ h)
theorem in_tup {S : List Ob} {W : List Row} (r : Row) : opIn S (wd r) (.tup (W.map wd)) = some (.bl (decide (r ∈ W))) := in_seq rfl r
theorem in_lst {S : List Ob} {W : List Row} (r : Row) : opIn S (wd r) (.lst (W.map wd)) = some (.bl (decide (r ∈ W))) := in_seq rfl r
theorem notIn_seq {S : List Ob} {d : D} {W : List Row} (h : seqOf S d = some (W.map wd)) (r : Row) : opNotIn S (wd r) d = some (.bl (!decide (r ∈ W))) := by
  have := in_seq h r
  unfold opIn at this
  unfold opNotIn
  obtain ⟨b, h1, h2⟩ := Option.map_eq_some_iff.mp this
  cases h2
  rw [h1]
  rfl
theorem add_wd {S : List Ob} {a b : Row} (h : a.length + b.length ≤ 1000000) : opAdd S (wd a) (wd b) = some (wd (a ++ b)) := by
  show (if (ws a).length + (ws b).length ≤ sizeLine then some (D.str (ws a ++ ws b)) else none) = _
  rw [if_pos (by rw [ws_len, ws_len]; exact Nat.le_trans h (by decide)), ws_app]
theorem key_wd (s : Row) (b : Bool) : tkeyOf (.tup [wd s, wd [b]]) = some (keyW s b) := rfl
theorem wd_0 : D.str "0" = wd [false] := by rw [s_zero]
theorem wd_1 : D.str "1" = wd [true] := by rw [s_one]
theorem wd_nil : D.str "" = wd [] := by rw [s_nil]
theorem eq_wd {S : List Ob} (a b : Row) : opEq S (wd a) (wd b) = some (.bl (decide (a = b))) := by
  have h : opEq S (wd a) (wd b) = some (.bl (decide (V.str (ws a) = V.str (ws b)))) := rfl
  rw [h]
  congr 2
  exact decide_eq_decide.mpr ⟨fun e => ws_inj (V.str.inj e), fun e => by rw [e]⟩
theorem ne_wd {S : List Ob} (a b : Row) : opNe S (wd a) (wd b) = some (.bl (!decide (a = b))) := by
  have h : opNe S (wd a) (wd b) = some (.bl (!decide (V.str (ws a) = V.str (ws b)))) := rfl
  rw [h]
  congr 3
  exact decide_eq_decide.mpr ⟨fun e => ws_inj (V.str.inj e), fun e => by rw [e]⟩
theorem eq_int {S : List Ob} (a b : Int) : opEq S (.int a) (.int b) = some (.bl (decide (a = b))) := by
  have h : opEq S (.int a) (.int b) = some (.bl (decide (V.int a = V.int b))) := rfl
  rw [h]
  congr 2
  exact decide_eq_decide.mpr ⟨fun e => V.int.inj e, fun e => by rw [e]⟩
theorem ne_int {S : List Ob} (a b : Int) : opNe S (.int a) (.int b) = some (.bl (!decide (a = b))) := by
  have h : opNe S (.int a) (.int b) = some (.bl (!decide (V.int a = V.int b))) := rfl
  rw [h]
  congr 3
  exact decide_eq_decide.mpr ⟨fun e => V.int.inj e, fun e => by rw [e]⟩
/-! ### fields, dicts -/
section
variable {E : SE} {S S1 S2 S3 : List Ob} {fv fo fk : DF D} {x : Str} {v d key : D} {k c : Nat} {fs : List (Str × D)} {kvs : List (List Key × D)} {K0 : List Key}
theorem sFldD_ev (hv : fv E S = some (v, S1)) (ho : fo E S1 = some (.ptr k, S2)) (hS : S2[k]? = some (.ins c fs)) (hl : fs.length < 1000) : sFldD x fo fv E S = some (.nx E, S2.set k (.ins c (putFD x v fs))) := by
  unfold sFldD
  rw [hv, Option.bind_some, ho, Option.bind_some]
  simp only [hS, hl, if_true]
theorem sDP_T (hv : fv E S = some (v, S1)) (ho : fo E S1 = some (.ptr k, S2)) (hk : fk E S2 = some (key, S3)) (hK : tkeyOf key = some K0) (hS : S3[k]? = some (.dT kvs)) (hz : kvs.length < sizeLine) : sDP fo fk fv E S = some (.nx E, S3.set k (.dT (putD kvs K0 v))) := by
  unfold sDP
  rw [hv, Option.bind_some, ho, Option.bind_some, hk, Option.bind_some]
  simp only [putO, hS, hK, hz, if_true, Option.map_some]
theorem sDP_K {kv : List (Key × D)} {K1 : Key} (hv : fv E S = some (v, S1)) (ho : fo E S1 = some (.ptr k, S2)) (hk : fk E S2 = some (key, S3)) (hK : keyOf key = some K1) (hS : S3[k]? = some (.dK kv)) (hz : kv.length < sizeLine) : sDP fo fk fv E S = some (.nx E, S3.set k (.dK (putD kv K1 v))) := by
  unfold sDP
  rw [hv, Option.bind_some, ho, Option.bind_some, hk, Option.bind_some]
  simp only [putO, hS, hK, hz, if_true, Option.map_some]
theorem fld_ptr {x : Str} (hS : S[k]? = some (.ins c fs)) : fldOf S (.ptr k) x = fs.lookup x := by
  unfold fldOf
  simp only [hS]
theorem end_at {α : Type} {S : List α} {o : α} {l : List α} : (S ++ o :: l)[S.length]? = some o := by
  rw [List.getElem?_append_right (Nat.le_refl _), Nat.sub_self]
  rfl
theorem end_at1 {α : Type} {S : List α} {o p : α} {l : List α} : (S ++ o :: p :: l)[S.length + 1]? = some p := by
  rw [List.getElem?_append_right (by omega), Nat.add_sub_cancel_left]
  rfl
theorem end_set {α : Type} {S : List α} {o o' : α} {l : List α} : (S ++ o :: l).set S.length o' = S ++ o' :: l := by
  rw [List.set_append_right _ _ (Nat.le_refl _), Nat.sub_self]
  rfl
theorem end_set1 {α : Type} {S : List α} {o p o' : α} {l : List α} : (S ++ o :: p :: l).set (S.length + 1) o' = S ++ o :: o' :: l := by
  rw [List.set_append_right _ _ (by omega), Nat.add_sub_cancel_left]
  rfl
theorem lst_ext {S T : List Ob} {d : D} {l : List D} (hd : lstOf S d = some l) : lstOf (S ++ T) d = some l := lst_pre (fun k hk => List.getElem?_append_left hk) hd
end
/-! ### the program's checks -/
theorem in_order_ok {S : List Ob} {d : D} {W : List Row} (h : lstOf S d = some (W.map wd)) (hl : W.length ≤ 4000) (hr : ∀ w ∈ W, w.length ≤ 4000) : c_in_order [d] S = some (.lst ((ordR W).map wd), S) := by
  show ((lstOf S d).bind strsOf).bind _ = _
  rw [h, Option.bind_some, strsOf_wd, Option.bind_some, if_pos]
  · rw [← ordR_ws, map_wd]
  · refine ⟨by rw [List.length_map]; exact hl, fun r h => ?_⟩
    obtain ⟨w, hw, rfl⟩ := List.mem_map.mp h
    rw [ws_len]
    exact hr w hw
theorem lc2m_ev {E : SE} {S : List Ob} {α β : Type} {xs : List α} {f : α → D} {s : Src} {fi : DF Src} {tg : DFG} {vs vs1 : List Nat} {i1 : DF Src} {tg1 : DFG} {el : DF D} {E1 : α → SE} {s1 : α → Src} {ys : α → List β} {g : α → β → D} {v : α → β → D} {E2 : α → β → SE} (c : Nat)
    (hi : fi E S = some (s, S)) (hs : Gv s S (xs.map f)) (hg : ∀ x ∈ xs, tg (f x) (wipeE E vs) S = some (E1 x, S))
    (hi1 : ∀ x ∈ xs, i1 (E1 x) S = some (s1 x, S)) (hs1 : ∀ x ∈ xs, Gv (s1 x) S ((ys x).map (g x))) (hg1 : ∀ x ∈ xs, ∀ y ∈ ys x, tg1 (g x y) (wipeE (E1 x) vs1) S = some (E2 x y, S))
    (he : ∀ x ∈ xs, ∀ y ∈ ys x, el (E2 x y) S = some (v x y, S))
    (hc : ∀ x ∈ xs, (ys x).length ≤ c) (hz : xs.length * c ≤ sizeLine) :
    dLc2 vs vs1 fi tg dYes i1 tg1 dYes el E S = some (xs.flatMap fun x => (ys x).map (v x), S) := by
  have := lc2_ev (vs := vs) (vs1 := vs1) (t := dYes) (t1 := dYes) (b := fun _ => true) (b2 := fun _ _ => true) c hi hs hg (fun _ _ => rfl) (fun x hx _ => hi1 x hx) (fun x hx _ => hs1 x hx) (fun x hx _ => hg1 x hx) (fun _ _ _ _ _ => rfl) (fun x hx _ y hy _ => he x hx y hy) hc hz
  rw [this, List.filter_eq_self.mpr (fun _ _ => rfl)]
  have e : (fun x => ((ys x).filter fun _ => true).map (v x)) = fun x => (ys x).map (v x) := by
    funext x
    rw [List.filter_eq_self.mpr (fun _ _ => rfl)]
  rw [e]
end DL

set_option Elab.async false
set_option linter.all false
set_option maxRecDepth 100000
set_option maxHeartbeats 4000000
/-! P10: a code made. -/
namespace DL
open PySem PySem.Spec PyProof.Rows L2
local macro_rules | `(tactic| walk_at "dl") => `(tactic| first
  | exact dVar_ev rfl | exact dC_ev | exact dNil_ev | exact dNoPart_ev | exact sNil_ev | exact gN_ev | exact sqK_rt
  | apply dBin_ev | apply dTest_ev | apply dNot_ev | apply sIf_ev | apply dIf_ev | apply dAnd_ev | apply dOr_ev | apply dAndV_ev | apply dOrV_ev | apply dCons_ev | apply few_ev | apply dTree_ev | apply dNew_ev | apply dTup_ev | apply dCB_ev | apply dIsi_ev | apply dFld_ev | apply dPart_ev | apply sAsg_ev | apply sRet_ev | apply sDrop_ev | apply sAsgG_ev | apply sSeq_ev | apply sqK_nx | apply gSetL_ev | apply ifK_t | apply ifK_f
  | apply dCall_ev | apply fScr_ev | exact lenOk (Nat.le_of_ble_eq_true rfl)
  | refine ifK_dt (by first | assumption | decide | omega) ?_ | refine ifK_df (by first | assumption | decide | omega) ?_
  | exact opMod_ev (by first | assumption | decide | omega) | exact opMul_ev (.inl (by omega)) | exact opMul_ev (.inr (by omega)) | exact opDiv_ev (by first | assumption | decide | omega) | (refine (@id.{0} _ ?_); assumption) | (with_reducible rfl) | rfl)
def c_are_words := runB 4 g_are_words
def g_Code_init : DFS := (sSeq (sIf (dNot (dTest (dCall 1 c_are_words (dCons (dVar 1) dNil)))) sNever sNil)
    (sSeq (sFldD "rows" (dVar 0) (dCB fTuple (dCons (dCall 1 c_in_order (dCons (dVar 1) dNil)) dNil)))
    (sSeq (sFldD "heads" (dVar 0) (dCB fTuple (dCons (dCall 1 c_in_order (dCons (dTree (dLc2 [4, 5] [5] (iLst (dVar 1)) (gN 4) dYes (iLst (dCall 1 c_beginnings (dCons (dVar 4) dNil))) (gN 5) dYes (dVar 5))) dNil)) dNil)))
    (sSeq (sFldD "ways" (dVar 0) dNewT)
    (sV [2, 3] (sFor (iTu (dFld "heads" (dVar 0))) (gN 2) (sW [2, 3] (sV [3] (sFor (iSt (dC (.str "01"))) (gN 3) (sW [3] (sIf (dTest (dBin opIn (dBin opAdd (dVar 2) (dVar 3)) (dFld "rows" (dVar 0)))) (sDP (dFld "ways" (dVar 0)) (dTup (dCons (dVar 2) (dCons (dVar 3) dNil))) (dC (.str ""))) (sIf (dTest (dBin opIn (dBin opAdd (dVar 2) (dVar 3)) (dFld "heads" (dVar 0)))) (sDP (dFld "ways" (dVar 0)) (dTup (dCons (dVar 2) (dCons (dVar 3) dNil))) (dBin opAdd (dVar 2) (dVar 3))) sNil))))))))))))
/-- what makes a code -/
structure CodeOk (W : List Row) : Prop where
  g : GoodW W
  h : (headsW W).length ≤ 4000
theorem are_words_ok {S : List Ob} {d : D} {W : List Row} (h : lstOf S d = some (W.map wd)) (G : GoodW W) : c_are_words [d] S = some (.bl true, S) := are_words_run h G
theorem begs_len (w : Row) : (begs w).length = w.length := by simp [begs]
def stpB (W : List Row) (s : Row) (acc : List (List Key × D)) (b : Bool) : List (List Key × D) := match nextW W s b with
  | some n => putD acc (keyW s b) (wd n)
  | none => acc
theorem stpB_fold (W : List Row) (s : Row) (acc : List (List Key × D)) : [false, true].foldl (stpB W s) acc = (entW W s).foldl (fun a p => putD a p.1 p.2) acc := by
  unfold entW stpB
  cases h0 : nextW W s false <;> cases h1 : nextW W s true <;> simp [h0, h1]
theorem ent_fold (W : List Row) : ∀ (hs : List Row) (acc : List (List Key × D)), hs.foldl (fun a s => (entW W s).foldl (fun a p => putD a p.1 p.2) a) acc = (hs.flatMap (entW W)).foldl (fun a p => putD a p.1 p.2) acc
  | [], acc => rfl
  | s :: hs, acc => by
    rw [List.foldl_cons, List.flatMap_cons, List.foldl_append]
    exact ent_fold W hs _
theorem init_run {S : List Ob} {d : D} {W : List Row} (hd : lstOf S d = some (W.map wd)) (G : CodeOk W) :
    runB 6 g_Code_init [.ptr S.length, d] (S ++ [.ins 0 []]) = some (.non, S ++ [.ins 0 [("rows", .tup ((ordR W).map wd)), ("heads", .tup ((ordR (headsW W)).map wd)), ("ways", .ptr (S.length + 1))], .dT (waysW W)]) := by
  have G1 := G.g
  have hd1 : ∀ T, lstOf (S ++ T) d = some (W.map wd) := fun T => lst_ext hd
  have many : W.length ≤ 4000 := Nat.le_trans G1.many (by decide)
  have hlen : ∀ w ∈ W, w.length ≤ 4000 := fun w hw => Nat.le_trans (G1.len w hw) (by decide)
  have heads_len : ∀ s ∈ headsW W, s.length ≤ 4000 := fun s hs => by
    obtain ⟨w, hw, i, hi, rfl⟩ := mem_headsW.mp hs
    rw [List.length_take]
    have := hlen w hw
    omega
  have bgs : ∀ (T : List Ob) w, w ∈ W → c_beginnings [wd w] T = some (.lst ((begs w).map wd), T) := fun T w hw => beginnings_ok w (Nat.le_trans (hlen w hw) (by decide))
  -- heads
  have hl : dLc2 [4, 5] [5] (iLst (dVar 1)) (gN 4) dYes (iLst (dCall 1 c_beginnings (dCons (dVar 4) dNil))) (gN 5) dYes (dVar 5) [some (.ptr S.length), some d, none, none, none, none] (S ++ [.ins 0 [("rows", .tup ((ordR W).map wd))]]) = some ((headsW W).map wd, S ++ [.ins 0 [("rows", .tup ((ordR W).map wd))]]) := by
    have := lc2m_ev (vs := [4, 5]) (vs1 := [5]) (xs := W) (f := wd) (fi := iLst (dVar 1)) (tg := gN 4) (i1 := iLst (dCall 1 c_beginnings (dCons (dVar 4) dNil))) (tg1 := gN 5) (el := dVar 5) (E := [some (.ptr S.length), some d, none, none, none, none]) (S := S ++ [.ins 0 [("rows", .tup ((ordR W).map wd))]]) (ys := begs) (g := fun _ => wd) 2000
      (live_ev (dVar_ev rfl) (hd1 _)) (gv_live (hd1 _)) (fun w _ => gN_ev) (fun w hw => live_ev (dCall_ev (dCons_ev (dVar_ev rfl) dNil_ev) rfl (bgs _ w hw)) rfl) (fun w _ => gv_lst) (fun w _ s _ => gN_ev) (fun w _ s _ => dVar_ev rfl) (fun w hw => by rw [begs_len]; exact G1.len w hw)
      (Nat.le_trans (Nat.mul_le_mul_right 2000 G1.many) (by decide))
    rw [this]
    simp only [headsW, List.map_flatMap]
  -- the loops
  have nd : (ordR (headsW W)).Nodup := nodup_ordR _
  have few : (ordR (headsW W)).length ≤ 4000 := by
    have h1 : (ordR (headsW W)).length = ((ordR (headsW W)).map ws).length := by rw [List.length_map]
    rw [h1, ordR_ws]
    have : (orderS ((headsW W).map ws)).length ≤ ((headsW W).map ws).length := by
      have n1 : (orderS ((headsW W).map ws)).Nodup := (orderS_lt _).imp ltS_ne
      exact ((List.perm_ext_iff_of_nodup n1 (nodup_ded _)).mpr fun a => by rw [mem_orderS, mem_ded]).length_eq ▸ ded_len _
    rw [List.length_map] at this
    exact Nat.le_trans this G.h
  let rS : List (List Key × D) → List Ob := fun acc => S ++ [.ins 0 [("rows", .tup ((ordR W).map wd)), ("heads", .tup ((ordR (headsW W)).map wd)), ("ways", .ptr (S.length + 1))], .dT acc]
  let E0 : SE := [some (.ptr S.length), some d, none, none, none, none]
  have f_rows : ∀ acc (x : D) (y : Option D), dFld "rows" (dVar 0) [some (.ptr S.length), some d, some x, y, none, none] (rS acc) = some (.tup ((ordR W).map wd), rS acc) := fun acc x y => dFld_ev (dVar_ev rfl) ((fld_ptr end_at).trans rfl)
  have f_heads : ∀ acc (x : Option D) (y : Option D), dFld "heads" (dVar 0) [some (.ptr S.length), some d, x, y, none, none] (rS acc) = some (.tup ((ordR (headsW W)).map wd), rS acc) := fun acc x y => dFld_ev (dVar_ev rfl) ((fld_ptr end_at).trans rfl)
  have f_ways : ∀ acc (x : D) (y : D), dFld "ways" (dVar 0) [some (.ptr S.length), some d, some x, some y, none, none] (rS acc) = some (.ptr (S.length + 1), rS acc) := fun acc x y => dFld_ev (dVar_ev rfl) ((fld_ptr end_at).trans rfl)
  have turn : ∀ (s : Row) (b : Bool) (acc : List (List Key × D)), s.length ≤ 4000 → acc.length < 10000 →
      sIf (dTest (dBin opIn (dBin opAdd (dVar 2) (dVar 3)) (dFld "rows" (dVar 0)))) (sDP (dFld "ways" (dVar 0)) (dTup (dCons (dVar 2) (dCons (dVar 3) dNil))) (dC (.str ""))) (sIf (dTest (dBin opIn (dBin opAdd (dVar 2) (dVar 3)) (dFld "heads" (dVar 0)))) (sDP (dFld "ways" (dVar 0)) (dTup (dCons (dVar 2) (dCons (dVar 3) dNil))) (dBin opAdd (dVar 2) (dVar 3))) sNil)
        [some (.ptr S.length), some d, some (wd s), some (wd [b]), none, none] (rS acc) = some (.nx [some (.ptr S.length), some d, some (wd s), some (wd [b]), none, none], rS (stpB W s acc b)) := by
    intro s b acc hs ha
    have add : dBin opAdd (dVar 2) (dVar 3) [some (.ptr S.length), some d, some (wd s), some (wd [b]), none, none] (rS acc) = some (wd (s ++ [b]), rS acc) := dBin_ev (dVar_ev rfl) (dVar_ev rfl) (add_wd (by simp; omega))
    have key : dTup (dCons (dVar 2) (dCons (dVar 3) dNil)) [some (.ptr S.length), some d, some (wd s), some (wd [b]), none, none] (rS acc) = some (.tup [wd s, wd [b]], rS acc) := dTup_ev (dCons_ev (dVar_ev rfl) (dCons_ev (dVar_ev rfl) dNil_ev)) (lenOk (Nat.le_of_ble_eq_true rfl))
    have small : acc.length < sizeLine := Nat.lt_of_lt_of_le ha (by decide)
    have ins : ∀ n fv, fv [some (.ptr S.length), some d, some (wd s), some (wd [b]), none, none] (rS acc) = some (wd n, rS acc) →
        sDP (dFld "ways" (dVar 0)) (dTup (dCons (dVar 2) (dCons (dVar 3) dNil))) fv [some (.ptr S.length), some d, some (wd s), some (wd [b]), none, none] (rS acc) = some (.nx [some (.ptr S.length), some d, some (wd s), some (wd [b]), none, none], rS (putD acc (keyW s b) (wd n))) := by
      intro n fv hv
      have := sDP_T hv (f_ways acc (wd s) (wd [b])) key (key_wd s b) (kvs := acc) end_at1 small
      rw [this, end_set1]
    unfold stpB nextW
    refine sIf_ev (dTest_ev (dBin_ev add (f_rows _ _ _) (in_tup _))) ?_
    by_cases h1 : s ++ [b] ∈ W
    · rw [decide_eq_true (mem_ordR.mpr h1)]
      simp only [if_pos h1]
      refine ifK_t (ins [] _ ?_)
      rw [← wd_nil]
      exact dC_ev
    · rw [decide_eq_false (fun h => h1 (mem_ordR.mp h))]
      simp only [if_neg h1]
      refine ifK_f (sIf_ev (dTest_ev (dBin_ev add (f_heads _ _ _) (in_tup _))) ?_)
      by_cases h2 : s ++ [b] ∈ headsW W
      · rw [decide_eq_true (mem_ordR.mpr h2)]
        simp only [if_pos h2]
        exact ifK_t (ins _ _ add)
      · rw [decide_eq_false (fun h => h2 (mem_ordR.mp h))]
        simp only [if_neg h2]
        exact ifK_f sNil_ev
  have stp_len : ∀ s acc b, (stpB W s acc b).length ≤ acc.length + 1 := fun s acc b => by
    unfold stpB
    split
    · exact putD_len _ _ _
    · omega
  have loops := for_fold (xs := ordR (headsW W)) (f := wd) (fi := iTu (dFld "heads" (dVar 0))) (tg := gN 2) (E := E0) (S := rS []) (s := .fix ((ordR (headsW W)).map wd))
    (b := sW [2, 3] (sV [3] (sFor (iSt (dC (.str "01"))) (gN 3) (sW [3] (sIf (dTest (dBin opIn (dBin opAdd (dVar 2) (dVar 3)) (dFld "rows" (dVar 0)))) (sDP (dFld "ways" (dVar 0)) (dTup (dCons (dVar 2) (dCons (dVar 3) dNil))) (dC (.str ""))) (sIf (dTest (dBin opIn (dBin opAdd (dVar 2) (dVar 3)) (dFld "heads" (dVar 0)))) (sDP (dFld "ways" (dVar 0)) (dTup (dCons (dVar 2) (dCons (dVar 3) dNil))) (dBin opAdd (dVar 2) (dVar 3))) sNil))))))
    (fun _ => E0) rS (fun acc s => [false, true].foldl (stpB W s) acc) (fun i acc => acc.length ≤ 2 * i) (st0 := []) (iTu_ev (f_heads _ _ _) rfl) rfl (Nat.le_refl _) (fun i st _ => gv_fix)
    (fun i s acc ha hx => by
      have hi : i < 4000 := Nat.lt_of_lt_of_le (List.getElem?_eq_some_iff.mp hx).1 few
      have hs : s.length ≤ 4000 := heads_len s (mem_ordR.mp (List.mem_of_getElem? hx))
      obtain ⟨l1, l2⟩ := for_fold (xs := [false, true]) (f := fun b => wd [b]) (fi := iSt (dC (.str "01"))) (tg := gN 3) (E := [some (.ptr S.length), some d, some (wd s), none, none, none]) (S := rS acc) (s := .fix (signsOf "01"))
        (b := sW [3] (sIf (dTest (dBin opIn (dBin opAdd (dVar 2) (dVar 3)) (dFld "rows" (dVar 0)))) (sDP (dFld "ways" (dVar 0)) (dTup (dCons (dVar 2) (dCons (dVar 3) dNil))) (dC (.str ""))) (sIf (dTest (dBin opIn (dBin opAdd (dVar 2) (dVar 3)) (dFld "heads" (dVar 0)))) (sDP (dFld "ways" (dVar 0)) (dTup (dCons (dVar 2) (dCons (dVar 3) dNil))) (dBin opAdd (dVar 2) (dVar 3))) sNil)))
        (fun _ => [some (.ptr S.length), some d, some (wd s), none, none, none]) rS (stpB W s) (fun j a => a.length ≤ 2 * i + j) (st0 := acc) (iSt_ev dC_ev) rfl ha (fun _ _ _ => by rw [s_01]; exact gv_fix)
        (fun j b a ha hb => ⟨⟨_, _, gN_ev, sW_ev (turn s b a hs (by
          have := (List.getElem?_eq_some_iff.mp hb).1
          simp at this
          omega))⟩, Nat.le_trans (stp_len s a b) (by omega)⟩)
      exact ⟨⟨_, _, gN_ev, sW_ev (E1 := [some (.ptr S.length), some d, some (wd s), none, none, none]) (sV_ev l1)⟩, by simpa [Nat.mul_succ] using l2⟩)
  have e : (ordR (headsW W)).foldl (fun acc s => [false, true].foldl (stpB W s) acc) [] = waysW W := by
    simp only [stpB_fold]
    rw [ent_fold, putD_fold _ _ (by simpa using waysW_nd nd)]
    rfl
  rw [e] at loops
  refine runB_nx (E := E0) ?_
  unfold g_Code_init
  refine sSeq_ev (sIf_ev (dNot_ev (b := true) (dTest_ev (dCall_ev (dCons_ev (dVar_ev rfl) dNil_ev) rfl (are_words_ok (hd1 _) G1)))) (ifK_f sNil_ev)) (sqK_nx ?_)
  refine sSeq_ev (sFldD_ev (dCB_ev (dCons_ev (dCall_ev (dCons_ev (dVar_ev rfl) dNil_ev) rfl (in_order_ok (hd1 _) many hlen)) dNil_ev) rfl) (dVar_ev rfl) end_at (by simp)) (sqK_nx ?_)
  rw [end_set]
  refine sSeq_ev (sFldD_ev (dCB_ev (dCons_ev (dCall_ev (dCons_ev (dTree_ev hl) dNil_ev) rfl (in_order_ok rfl G.h heads_len)) dNil_ev) rfl) (dVar_ev rfl) end_at (by simp)) (sqK_nx ?_)
  rw [end_set]
  refine sSeq_ev (sFldD_ev (v := .ptr (S.length + 1)) (S1 := S ++ [.ins 0 [("rows", .tup ((ordR W).map wd)), ("heads", .tup ((ordR (headsW W)).map wd))], .dT []]) ?_ (dVar_ev rfl) end_at (by simp)) (sqK_nx ?_)
  · show some (D.ptr _, _) = _
    rw [List.length_append, List.append_assoc]
    rfl
  rw [end_set]
  exact sV_ev loops.1
theorem codeW_obj (W : List Row) : codeW W = .obj 0 [("rows", .tup ((ordR W).map wd)), ("heads", .tup ((ordR (headsW W)).map wd)), ("ways", .dT (waysW W))] := by
  unfold codeW codeD
  rw [map_wd, map_wd]
theorem rows_bnd (n : Nat) : ∀ W : List Row, bndA n (W.map wd) = true
  | [] => rfl
  | w :: W => rows_bnd n W
theorem bndT_of {n : Nat} : ∀ {l : List (List Key × D)}, (∀ p ∈ l, bndD n p.2 = true) → bndT n l = true
  | [], _ => rfl
  | (k, d) :: l, h => Bool.and_eq_true_iff.mpr ⟨h _ (List.mem_cons_self ..), bndT_of fun p hp => h p (List.mem_cons_of_mem _ hp)⟩
theorem ways_bnd (n : Nat) (W : List Row) : bndT n (waysW W) = true := bndT_of fun p hp => by
  obtain ⟨s, _, hs⟩ := List.mem_flatMap.mp hp
  obtain ⟨b, m, _, rfl⟩ := mem_entW.mp hs
  rfl
theorem codeW_bnd (n : Nat) (W : List Row) : bndD n (codeW W) = true := by
  rw [codeW_obj]
  exact Bool.and_eq_true_iff.mpr ⟨rows_bnd n _, Bool.and_eq_true_iff.mpr ⟨rows_bnd n _, Bool.and_eq_true_iff.mpr ⟨ways_bnd n W, rfl⟩⟩⟩
def i_Code := runB 6 g_Code_init
open Classical in
/-- Code(words) -/
noncomputable def M_Code (ds : List D) (S : List Ob) : Option (D × List Ob) := match ds with
  | [d] => if h : ∃ W, lstOf S d = some (W.map wd) ∧ CodeOk W then some (codeW (choose h), S) else none
  | _ => none
theorem map_wd_inj : ∀ {a b : List Row}, a.map wd = b.map wd → a = b
  | [], [], _ => rfl
  | [], _ :: _, h => nomatch h
  | _ :: _, [], h => nomatch h
  | x :: a, y :: b, h => by
    obtain ⟨h1, h2⟩ := List.cons.inj h
    rw [ws_inj (D.str.inj h1), map_wd_inj h2]
theorem code_ok {S : List Ob} {d : D} {W : List Row} (h : lstOf S d = some (W.map wd)) (G : CodeOk W) : M_Code [d] S = some (codeW W, S) := by
  have hx : ∃ W, lstOf S d = some (W.map wd) ∧ CodeOk W := ⟨W, h, G⟩
  unfold M_Code
  simp only [dif_pos hx]
  have := Classical.choose_spec hx
  rw [map_wd_inj (Option.some.inj (this.1.symm.trans h))]
theorem mk_Code : ∀ ds S r, ds.length = 1 → M_Code ds S = some r → ∃ S1, i_Code (.ptr S.length :: ds) (S ++ [.ins 0 []]) = some (.non, S1) ∧ RzR S (.ptr S.length, S1) r := by
  intro ds S r hl h
  match ds, hl with
  | [d], _ =>
    unfold M_Code at h
    simp only at h
    split at h
    · rename_i hx
      obtain ⟨h1, h2⟩ := Classical.choose_spec hx
      cases h
      refine ⟨_, init_run h1 h2, RzR.same ?_⟩
      rw [codeW_obj]
      refine .inr ⟨S.length, _, Nat.le_refl _, rfl, end_at, ?_⟩
      exact ⟨_, _, rfl, rz_bnd (.tup _) (rows_bnd _ _), _, _, rfl, rz_bnd (.tup _) (rows_bnd _ _), _, _, rfl, .inr ⟨S.length + 1, _, by omega, rfl, end_at1, rzT_bnd _ (ways_bnd _ _)⟩, rfl⟩
    · cases h
end DL


set_option Elab.async false
set_option linter.all false
set_option maxRecDepth 100000
set_option maxHeartbeats 2000000
/-! WP: what must hold, so that a piece computes something of which Q holds. -/
namespace DL
open PySem PySem.Spec PyProof.Rows L2
def Wp {α : Type} (r : Option (α × List Ob)) (Q : α → List Ob → Prop) : Prop := ∃ a S', r = some (a, S') ∧ Q a S'
section
variable {α β : Type}
theorem Wp.of {r : Option (α × List Ob)} {Q : α → List Ob → Prop} {a : α} {S' : List Ob} (h : r = some (a, S')) (q : Q a S') : Wp r Q := ⟨a, S', h, q⟩
theorem wp_id {r : Option (α × List Ob)} {Q : α → List Ob → Prop} (h : Wp r Q) : Wp r Q := h
theorem Wp.imp {r : Option (α × List Ob)} {Q R : α → List Ob → Prop} (h : Wp r Q) (i : ∀ a S, Q a S → R a S) : Wp r R := let ⟨a, S, e, q⟩ := h; ⟨a, S, e, i a S q⟩
theorem Wp.bind {r : Option (α × List Ob)} {k : α × List Ob → Option (β × List Ob)} {Q : β → List Ob → Prop} (h : Wp r fun a S => Wp (k (a, S)) Q) : Wp (r.bind k) Q := by
  obtain ⟨a, S, e, b, S', e2, q⟩ := h
  exact ⟨b, S', by rw [e, Option.bind_some, e2], q⟩
theorem Wp.map {r : Option (α × List Ob)} {g : α × List Ob → β × List Ob} {Q : β → List Ob → Prop} (h : Wp r fun a S => Q (g (a, S)).1 (g (a, S)).2) : Wp (r.map g) Q := by
  obtain ⟨a, S, e, q⟩ := h
  exact ⟨_, _, by rw [e]; rfl, q⟩
theorem Wp.opt {o : Option α} {g : α → β × List Ob} {Q : β → List Ob → Prop} (h : ∃ d, o = some d ∧ Q (g d).1 (g d).2) : Wp (o.map g) Q := by
  obtain ⟨d, rfl, q⟩ := h
  exact ⟨_, _, rfl, q⟩
end
section
variable {α : Type} {E : SE} {S : List Ob} {f fa fb fo fi fk fx fd : DF D} {c c1 c2 : DF Bool} {x y z d : D} {xs ys : List D} {b b1 b2 : Bool} {g : List Ob → D → D → Option D} {fs : DF (List D)} {i j k n : Nat} {p q : DFS} {Q : D → List Ob → Prop} {Qb : Bool → List Ob → Prop} {Ql : List D → List Ob → Prop} {Qo : Out → List Ob → Prop} {Qs : Src → List Ob → Prop} {Qi : Option Int → List Ob → Prop} {Qe : SE → List Ob → Prop}
theorem w_var (h : E[i]? = some (some d)) (q : Q d S) : Wp (dVar i E S) Q := .of (dVar_ev h) q
theorem w_c (q : Q d S) : Wp (dC d E S) Q := .of rfl q
theorem w_bin (h : Wp (fa E S) fun x S1 => Wp (fb E S1) fun y S2 => ∃ d, g S2 x y = some d ∧ Q d S2) : Wp (dBin g fa fb E S) Q :=
  Wp.bind (h.imp fun x S1 h1 => Wp.bind (h1.imp fun y S2 h2 => Wp.opt h2))
theorem w_test (h : Wp (f E S) fun d S1 => ∃ b, d = .bl b ∧ Qb b S1) : Wp (dTest f E S) Qb := Wp.bind (h.imp fun d S1 ⟨b, e, q⟩ => by subst e; exact .of rfl q)
theorem w_not (h : Wp (c E S) fun b S1 => Qb (!b) S1) : Wp (dNot c E S) Qb := Wp.map h
/-- both ways of a test -/
def Br (b : Bool) (P R : Prop) : Prop := (b = true → P) ∧ (b = false → R)
theorem br_t {P R : Prop} (h : P) : Br true P R := ⟨fun _ => h, fun z => nomatch z⟩
theorem br_f {P R : Prop} (h : R) : Br false P R := ⟨fun z => (nomatch z), fun _ => h⟩
theorem br {A P R : Prop} [Decidable A] (h1 : A → P) (h2 : ¬ A → R) : Br (decide A) P R := ⟨fun z => h1 (of_decide_eq_true z), fun z => h2 (of_decide_eq_false z)⟩
theorem br_yes {A P R : Prop} [Decidable A] (a : A) (h1 : P) : Br (decide A) P R := br (fun _ => h1) fun n => absurd a n
theorem br_no {A P R : Prop} [Decidable A] (a : ¬ A) (h1 : R) : Br (decide A) P R := br (fun n => absurd n a) fun _ => h1
theorem br_n {P R : Prop} {b : Bool} (h : Br b R P) : Br (!b) P R := by
  cases b
  · exact br_t (h.2 rfl)
  · exact br_f (h.1 rfl)
theorem w_if (h : Wp (c E S) fun b S1 => Br b (Wp (p E S1) Qo) (Wp (q E S1) Qo)) : Wp (sIf c p q E S) Qo := Wp.bind (h.imp fun b S1 hb => by
  cases b
  · exact hb.2 rfl
  · exact hb.1 rfl)
theorem w_dif (h : Wp (c E S) fun b S1 => Br b (Wp (fa E S1) Q) (Wp (fb E S1) Q)) : Wp (dIf c fa fb E S) Q := Wp.bind (h.imp fun b S1 hb => by
  cases b
  · exact hb.2 rfl
  · exact hb.1 rfl)
theorem w_and (h : Wp (c1 E S) fun b S1 => Br b (Wp (c2 E S1) Qb) (Qb false S1)) : Wp (dAnd c1 c2 E S) Qb := Wp.bind (h.imp fun b S1 hb => by
  cases b
  · exact .of rfl (hb.2 rfl)
  · exact hb.1 rfl)
theorem w_or (h : Wp (c1 E S) fun b S1 => Br b (Qb true S1) (Wp (c2 E S1) Qb)) : Wp (dOr c1 c2 E S) Qb := Wp.bind (h.imp fun b S1 hb => by
  cases b
  · exact hb.2 rfl
  · exact .of rfl (hb.1 rfl))
theorem w_andV (h : Wp (fa E S) fun d S1 => ∃ b, d = .bl b ∧ Br b (Wp (fb E S1) Q) (Q (.bl false) S1)) : Wp (dAndV fa fb E S) Q := Wp.bind (h.imp fun d S1 ⟨b, e, hb⟩ => by
  subst e
  cases b
  · exact .of rfl (hb.2 rfl)
  · exact hb.1 rfl)
theorem w_orV (h : Wp (fa E S) fun d S1 => ∃ b, d = .bl b ∧ Br b (Q (.bl true) S1) (Wp (fb E S1) Q)) : Wp (dOrV fa fb E S) Q := Wp.bind (h.imp fun d S1 ⟨b, e, hb⟩ => by
  subst e
  cases b
  · exact hb.2 rfl
  · exact .of rfl (hb.1 rfl))
theorem w_notV (h : Wp (fa E S) fun d S1 => ∃ b, d = .bl b ∧ Q (.bl (!b)) S1) : Wp (dNotV fa E S) Q := Wp.bind (h.imp fun d S1 ⟨b, e, hb⟩ => by
  subst e
  exact .of rfl hb)
theorem w_nil (q : Ql [] S) : Wp (dNil E S) Ql := .of rfl q
theorem w_cons (h : Wp (f E S) fun x S1 => Wp (fs E S1) fun xs S2 => Ql (x :: xs) S2) : Wp (dCons f fs E S) Ql := Wp.bind (h.imp fun x S1 h1 => Wp.map h1)
theorem w_few (h : Wp (fs E S) fun xs S1 => xs.length ≤ sizeLine ∧ Ql xs S1) : Wp (few fs E S) Ql := Wp.bind (h.imp fun xs S1 ⟨h1, h2⟩ => by rw [if_pos h1]; exact .of rfl h2)
theorem w_tree (h : Wp (fs E S) fun xs S1 => Q (.lst xs) S1) : Wp (dTree fs E S) Q := Wp.map h
theorem w_new (h : Wp (fs E S) fun xs S1 => Q (.ptr S1.length) (S1 ++ [.lst xs])) : Wp (dNew fs E S) Q := Wp.map h
theorem w_tup (h : Wp (fs E S) fun xs S1 => xs.length ≤ sizeLine ∧ Q (.tup xs) S1) : Wp (dTup fs E S) Q := Wp.map (w_few h)
theorem w_cb {gg : List Ob → List D → Option α} {Qa : α → List Ob → Prop} (h : Wp (fs E S) fun xs S1 => ∃ d, gg S1 xs = some d ∧ Qa d S1) : Wp (dCB gg fs E S) Qa := Wp.bind (h.imp fun xs S1 h1 => Wp.opt h1)
theorem w_call {sem : List D → List Ob → Option (D × List Ob)} (h : Wp (fs E S) fun xs S1 => xs.length = n ∧ Wp (sem xs S1) Q) : Wp (dCall n sem fs E S) Q := Wp.bind (h.imp fun xs S1 ⟨h1, h2⟩ => by rw [if_pos h1]; exact h2)
theorem w_isi {gg : Tg → Option Bool} (h : Wp (f E S) fun d S1 => ∃ b, (tgOf S1 d).bind gg = some b ∧ Q (.bl b) S1) : Wp (dIsi gg f E S) Q := Wp.bind (h.imp fun d S1 h1 => Wp.opt h1)
theorem w_fld {m : Str} (h : Wp (f E S) fun d S1 => ∃ v, fldOf S1 d m = some v ∧ Q v S1) : Wp (dFld m f E S) Q := Wp.bind (h.imp fun d S1 h1 => Wp.opt h1)
theorem w_nopart (q : Qi none S) : Wp (dNoPart E S) Qi := .of rfl q
theorem w_part (h : Wp (f E S) fun d S1 => ∃ m, d = .int m ∧ Qi (some m) S1) : Wp (dPart f E S) Qi := Wp.bind (h.imp fun d S1 ⟨m, e, q⟩ => by subst e; exact .of rfl q)
theorem w_slL {fl fh : DF (Option Int)} (h : Wp (f E S) fun d S1 => Wp (fl E S1) fun l S2 => Wp (fh E S2) fun r S3 => ∃ xs, lstOf S3 d = some xs ∧ Ql (cutL xs l r) S3) : Wp (dSlL f fl fh E S) Ql :=
  Wp.bind (h.imp fun d S1 h1 => Wp.bind (h1.imp fun l S2 h2 => Wp.bind (h2.imp fun r S3 h3 => Wp.opt h3)))
theorem w_slS {fl fh : DF (Option Int)} (h : Wp (f E S) fun d S1 => Wp (fl E S1) fun l S2 => Wp (fh E S2) fun r S3 => ∃ z, d = .str z ∧ z.length ≤ sizeLine ∧ Q (.str (cutS z l r)) S3) : Wp (dSlS f fl fh E S) Q :=
  Wp.bind (h.imp fun d S1 h1 => Wp.bind (h1.imp fun l S2 h2 => Wp.bind (h2.imp fun r S3 ⟨z, e, hz, q⟩ => by subst e; exact .of (if_pos hz) q)))
theorem w_dget (h : Wp (fd E S) fun d S1 => Wp (fk E S1) fun k S2 => ∃ v, dictGet S2 d k = some (some v) ∧ Q v S2) : Wp (dDGet fd fk E S) Q := Wp.bind (h.imp fun d S1 h1 => Wp.bind (h1.imp fun k S2 ⟨v, e, q⟩ => by
  simp only [e]
  exact .of rfl q))
theorem w_newK (q : Q (.ptr S.length) (S ++ [.dK []])) : Wp (dNewK E S) Q := .of rfl q
theorem w_newT (q : Q (.ptr S.length) (S ++ [.dT []])) : Wp (dNewT E S) Q := .of rfl q
theorem w_app (h : Wp (fo E S) fun o S1 => Wp (fx E S1) fun d S2 => ∃ k xs, o = .ptr k ∧ S2[k]? = some (.lst xs) ∧ xs.length < sizeLine ∧ (∃ x0, S1[k]? = some (.lst x0)) ∧ Q .non (S2.set k (.lst (xs ++ [d])))) : Wp (dApp fo fx E S) Q := by
  obtain ⟨o, S1, e1, d, S2, e2, k, xs, rfl, h1, h2, ⟨x0, h3⟩, q⟩ := h
  refine .of ?_ q
  unfold dApp
  rw [e1, Option.bind_some, e2, Option.bind_some]
  simp only [h1, h2, h3, if_true]
theorem w_lst0 {gg : List D → Option (D × List D)} (h : Wp (fo E S) fun o S1 => ∃ k xs d ys, o = .ptr k ∧ S1[k]? = some (.lst xs) ∧ gg xs = some (d, ys) ∧ Q d (S1.set k (.lst ys))) : Wp (dLst0 gg fo E S) Q := by
  obtain ⟨o, S1, e1, k, xs, d, ys, rfl, h1, h2, q⟩ := h
  refine .of ?_ q
  unfold dLst0
  rw [e1, Option.bind_some]
  simp only [h1, h2, Option.map_some]
theorem w_prop {sem : List D → List Ob → Option (D × List Ob)} (h : Wp (f E S) fun d S1 => tgOf S1 d = some (.o n) ∧ Wp (sem [d] S1) Q) : Wp (dProp n sem f E S) Q := Wp.bind (h.imp fun d S1 ⟨e, h1⟩ => by
  simp only [e, if_true]
  exact h1)
theorem w_own {sem : List D → List Ob → Option (D × List Ob)} {neg : Bool} (h : Wp (fa E S) fun x S1 => Wp (fb E S1) fun y S2 => tgOf S2 x = some (.o n) ∧ (∃ t, tgOf S2 y = some t ∧ okT t = true) ∧ Wp (sem [x, y] S2) fun d S3 => ∃ b, d = .bl b ∧ Q (.bl (if neg then !b else b)) S3) : Wp (dOwn n sem neg fa fb E S) Q := by
  obtain ⟨x, S1, e1, y, S2, e2, h1, ⟨t, h2, h4⟩, d, S3, e3, b, rfl, q⟩ := h
  refine .of (a := .bl (if neg then !b else b)) (S' := S3) ?_ q
  unfold dOwn
  rw [e1, Option.bind_some, e2, Option.bind_some]
  simp only [h1, h2]
  simp [h4, e3]
theorem w_ownE {sem : List D → List Ob → Option (D × List Ob)} (h : Wp (fa E S) fun x S1 => Wp (fb E S1) fun y S2 => tgOf S2 x = some (.o n) ∧ (∃ t, tgOf S2 y = some t ∧ okT t = true) ∧ Wp (sem [x, y] S2) fun d S3 => ∃ b, d = .bl b ∧ Q (.bl b) S3) : Wp (dOwn n sem false fa fb E S) Q := w_own h
theorem w_ownN {sem : List D → List Ob → Option (D × List Ob)} (h : Wp (fa E S) fun x S1 => Wp (fb E S1) fun y S2 => tgOf S2 x = some (.o n) ∧ (∃ t, tgOf S2 y = some t ∧ okT t = true) ∧ Wp (sem [x, y] S2) fun d S3 => ∃ b, d = .bl b ∧ Q (.bl (!b)) S3) : Wp (dOwn n sem true fa fb E S) Q := w_own h
theorem w_repN (h : Wp (fa E S) fun x S1 => Wp (fb E S1) fun y S2 => ∃ xs m, lstOf S2 x = some xs ∧ y = .int m ∧ dRepN (dC x) (dC y) E S2 = some ((List.replicate m.toNat xs).flatten, S2) ∧ Ql (List.replicate m.toNat xs).flatten S2) : Wp (dRepN fa fb E S) Ql := by
  obtain ⟨x, S1, e1, y, S2, e2, xs, m, h1, rfl, h3, q⟩ := h
  refine .of ?_ q
  unfold dRepN at h3 ⊢
  rw [e1, Option.bind_some, e2, Option.bind_some]
  exact h3
theorem w_catN (h : Wp (fa E S) fun x S1 => Wp (fb E S1) fun y S2 => ∃ xs ys, lstOf S2 x = some xs ∧ lstOf S2 y = some ys ∧ xs.length + ys.length ≤ sizeLine ∧ Ql (xs ++ ys) S2) : Wp (dCatN fa fb E S) Ql := by
  obtain ⟨x, S1, e1, y, S2, e2, xs, ys, h1, h2, h3, q⟩ := h
  refine .of ?_ q
  unfold dCatN
  rw [e1, Option.bind_some, e2, Option.bind_some]
  simp only [h1, h2, h3, if_true]
theorem w_get1 (h : Wp (fd E S) fun d S1 => isDict S1 d = true ∧ Wp (fk E S1) fun k S2 => ∃ o, dictGet S2 d k = some o ∧ Q (o.getD .non) S2) : Wp (dGet1 fd fk E S) Q := Wp.bind (h.imp fun d S1 ⟨e, h1⟩ => by
  rw [if_pos e]
  exact Wp.bind (h1.imp fun k S2 h2 => Wp.opt h2))
theorem w_get2 (h : Wp (fd E S) fun d S1 => isDict S1 d = true ∧ Wp (fk E S1) fun k S2 => Wp (fx E S2) fun x S3 => ∃ o, dictGet S3 d k = some o ∧ Q (o.getD x) S3) : Wp (dGet2 fd fk fx E S) Q := Wp.bind (h.imp fun d S1 ⟨e, h1⟩ => by
  rw [if_pos e]
  exact Wp.bind (h1.imp fun k S2 h2 => Wp.bind (h2.imp fun x S3 h3 => Wp.opt h3)))
/-! statements -/
theorem w_sNil (q : Qo (.nx E) S) : Wp (sNil E S) Qo := .of rfl q
def Nxt (q : DFS) (Qo : Out → List Ob → Prop) : Out → List Ob → Prop
  | .nx E, S => Wp (q E S) Qo
  | o, S => Qo o S
theorem nxt_nx {E : SE} {S : List Ob} (h : Wp (q E S) Qo) : Nxt q Qo (.nx E) S := h
theorem nxt_rt {S : List Ob} (h : Qo (.rt d) S) : Nxt q Qo (.rt d) S := h
theorem w_seq (h : Wp (p E S) (Nxt q Qo)) : Wp (sSeq p q E S) Qo := by
  obtain ⟨o, S1, e, h⟩ := h
  unfold sSeq
  cases o with
  | nx E1 =>
    obtain ⟨o2, S2, e2, h2⟩ := h
    exact .of (by rw [e, Option.bind_some]; exact e2) h2
  | rt d => exact .of (by rw [e, Option.bind_some]) h
  | bk E1 => exact .of (by rw [e, Option.bind_some]) h
  | ct E1 => exact .of (by rw [e, Option.bind_some]) h
theorem seq_mid (R : Out → List Ob → Prop) (h : Wp (p E S) R) (k : ∀ o S1, R o S1 → Nxt q Qo o S1) : Wp (sSeq p q E S) Qo := w_seq (h.imp k)
theorem w_asg (h : Wp (f E S) fun d S1 => Qo (.nx (E.set i (some d))) S1) : Wp (sAsg i f E S) Qo := Wp.map h
theorem w_ret (h : Wp (f E S) fun d S1 => Qo (.rt d) S1) : Wp (sRet f E S) Qo := Wp.map h
theorem w_retN (q : Qo (.rt .non) S) : Wp (sRetN E S) Qo := .of rfl q
theorem w_drop (h : Wp (f E S) fun d S1 => Qo (.nx E) S1) : Wp (sDrop f E S) Qo := Wp.map h
theorem w_aug {gg : List Ob → D → D → Option D} (h : E[i]? = some (some x)) (h2 : Wp (f E S) fun y S1 => ∃ d, gg S1 x y = some d ∧ Qo (.nx (E.set i (some d))) S1) : Wp (sAug i gg f E S) Qo := by
  obtain ⟨y, S1, e, d, e2, q⟩ := h2
  refine .of ?_ q
  unfold sAug
  simp only [h, e, Option.bind_some, e2, Option.map_some]
theorem w_par (h : Wp (fs E S) fun xs S1 => ∃ x y, xs = [x, y] ∧ Qo (.nx ((E.set i (some x)).set j (some y))) S1) : Wp (sPar i j fs E S) Qo := by
  obtain ⟨xs, S1, e, x, y, rfl, q⟩ := h
  refine .of ?_ q
  unfold sPar
  rw [e]
  rfl
theorem w_gN (q : Qe (E.set i (some d)) S) : Wp (gN i d E S) Qe := .of rfl q
theorem w_gsNil (q : Qe E S) : Wp (gsNil [] E S) Qe := .of rfl q
theorem w_gsCons {gg : DFG} {gs : DFGs} (h : Wp (gg x E S) fun E1 S1 => Wp (gs xs E1 S1) Qe) : Wp (gsCons gg gs (x :: xs) E S) Qe := Wp.bind h
theorem w_gTu {gs : DFGs} (h1 : tupOf d = some xs) (h2 : xs.length = n) (h : Wp (gs xs E S) Qe) : Wp (gTu n gs d E S) Qe := by
  unfold gTu
  rw [h1]
  simp only [if_pos h2]
  exact h
theorem w_gSetL (h : Wp (fo E S) fun o S1 => Wp (fi E S1) fun m S2 => ∃ k xs mi j, o = .ptr k ∧ m = .int mi ∧ S2[k]? = some (.lst xs) ∧ ixN xs.length mi = some j ∧ Qe E (S2.set k (.lst (xs.set j d)))) : Wp (gSetL fo fi d E S) Qe := by
  obtain ⟨o, S1, e1, m, S2, e2, k, xs, mi, j, rfl, rfl, h1, h2, q⟩ := h
  exact .of (gSetL_ev e1 e2 h1 h2) q
theorem w_asgG {gg : DFG} (h : Wp (f E S) fun d S1 => Wp (gg d E S1) fun E1 S2 => Qo (.nx E1) S2) : Wp (sAsgG f gg E S) Qo := Wp.bind (h.imp fun d S1 h1 => Wp.map h1)
theorem w_sV {vs : List Nat} (h : Wp (p (wipeE E vs) S) Qo) : Wp (sV vs p E S) Qo := h
theorem w_sW {vs : List Nat} (h : Wp (p E S) fun o S1 => Qo (wOut vs o) S1) : Wp (sW vs p E S) Qo := Wp.map h
theorem w_sFld {x : Str} (h : Wp (fx E S) fun v S1 => Wp (fo E S1) fun o S2 => ∃ k c fs, o = .ptr k ∧ S2[k]? = some (.ins c fs) ∧ fs.length < 1000 ∧ Qo (.nx E) (S2.set k (.ins c (putFD x v fs)))) : Wp (sFldD x fo fx E S) Qo := by
  obtain ⟨v, S1, e1, o, S2, e2, k, c, fs, rfl, h1, h2, q⟩ := h
  exact .of (sFldD_ev e1 e2 h1 h2) q
theorem w_sDP (h : Wp (fx E S) fun v S1 => Wp (fd E S1) fun o S2 => Wp (fk E S2) fun key S3 => ∃ S4, putO S3 o key v = some S4 ∧ Qo (.nx E) S4) : Wp (sDP fd fk fx E S) Qo := by
  obtain ⟨v, S1, e1, o, S2, e2, key, S3, e3, S4, e4, q⟩ := h
  refine .of ?_ q
  unfold sDP
  rw [e1, Option.bind_some, e2, Option.bind_some, e3, Option.bind_some, e4]
  rfl
/-! sources -/
theorem w_iLst (h : Wp (f E S) fun d S1 => ∃ l, lstOf S1 d = some l ∧ Qs (.live d) S1) : Wp (iLst f E S) Qs := by
  obtain ⟨d, S1, e, l, e2, q⟩ := h
  exact .of (live_ev e e2) q
theorem w_iTu (h : Wp (f E S) fun d S1 => ∃ l, tupOf d = some l ∧ Qs (.fix l) S1) : Wp (iTu f E S) Qs := by
  obtain ⟨d, S1, e, l, e2, q⟩ := h
  exact .of (iTu_ev e e2) q
theorem w_iSt (h : Wp (f E S) fun d S1 => ∃ z, d = .str z ∧ Qs (.fix (signsOf z)) S1) : Wp (iSt f E S) Qs := by
  obtain ⟨d, S1, e, z, rfl, q⟩ := h
  exact .of (iSt_ev e) q
theorem w_iRg1 (h : Wp (fs E S) fun xs S1 => ∃ m : Nat, xs = [.int (m : Nat)] ∧ m ≤ 1000000 ∧ Qs (.fix ((List.range m).map fun i : Nat => D.int (i : Nat))) S1) : Wp (iRg1 fs E S) Qs := by
  obtain ⟨xs, S1, e, m, rfl, hm, q⟩ := h
  exact .of (by rw [rg1_ev e hm, upto0]) q
theorem w_iRg2 (h : Wp (fs E S) fun xs S1 => ∃ a m : Nat, xs = [.int (a : Nat), .int (m : Nat)] ∧ a ≤ 1000000 ∧ m ≤ 1000000 ∧ Qs (.fix ((List.range (m - a)).map fun i : Nat => D.int ((a + i : Nat) : Int))) S1) : Wp (iRg2 fs E S) Qs := by
  obtain ⟨xs, S1, e, a, m, rfl, ha, hm, q⟩ := h
  refine .of ?_ q
  unfold iRg2
  rw [e, Option.bind_some]
  simp only
  rw [if_pos (by omega)]
  unfold upto
  rw [show ((m : Int) - (a : Int)).toNat = m - a by omega]
  simp
end
/-! loops, comprehensions -/
section
variable {α : Type} {E : SE} {S : List Ob} {xs : List α} {f : α → D} {fi : DF Src} {tg : DFG} {Ql : List D → List Ob → Prop} {Qo : Out → List Ob → Prop}
def ForOk (tg : DFG) (b : DFS) (E : SE) (Qo : Out → List Ob → Prop) (s : Src) (S : List Ob) : Prop := Wp (loopF tg b s (s.len S) 0 E S) Qo
theorem w_for {b : DFS} (h : Wp (fi E S) (ForOk tg b E Qo)) : Wp (sFor fi tg b E S) Qo := Wp.bind h
theorem for_by {σ : Type} {b : DFS} {s : Src} (xs : List α) (f : α → D) (rE : σ → SE) (rS : σ → List Ob) (P : Nat → σ → Prop) (st0 : σ)
    (h0 : P 0 st0) (hG : ∀ i st, P i st → Gv s (rS st) (xs.map f))
    (step : ∀ i x st, P i st → xs[i]? = some x → Wp (tg (f x) (rE st) (rS st)) fun E1 S1 => Wp (b E1 S1) fun o S2 => ∃ st', o = .nx (rE st') ∧ S2 = rS st' ∧ P (i + 1) st')
    (k : ∀ st, P xs.length st → Qo (.nx (rE st)) (rS st)) (hE : E = rE st0 := by rfl) (hS : S = rS st0 := by rfl) : ForOk tg b E Qo s S := by
  subst hE
  subst hS
  obtain ⟨st, h3, h4⟩ := for_st (xs := xs) (f := f) (tg := tg) (b := b) (fi := fun E S => some (s, S)) (E := rE st0) (S := rS st0) rE rS P rfl rfl h0 hG fun i x st hp hx => by
    obtain ⟨E1, S1, e1, o, S2, e2, st', rfl, rfl, q⟩ := step i x st hp hx
    exact ⟨E1, S1, st', e1, e2, q⟩
  exact .of h3 (k st h4)
def LcOk (vs : List Nat) (tg : DFG) (t : DF Bool) (el : DF D) (E : SE) (Ql : List D → List Ob → Prop) (s : Src) (S : List Ob) : Prop := Wp (lcF tg t el s (wipeE E vs) (s.len S) 0 [] S) Ql
theorem w_lc {vs : List Nat} {t : DF Bool} {el : DF D} (h : Wp (fi E S) (LcOk vs tg t el E Ql)) : Wp (dLc vs fi tg t el E S) Ql := Wp.bind h
theorem lc_by {vs : List Nat} {t : DF Bool} {el : DF D} {s : Src} (xs : List α) (f : α → D) (b : α → Bool) (v : α → D)
    (hG : Gv s S (xs.map f)) (hz : xs.length ≤ 1000000)
    (step : ∀ x ∈ xs, Wp (tg (f x) (wipeE E vs) S) fun E1 S1 => S1 = S ∧ Wp (t E1 S) fun bb S2 => S2 = S ∧ bb = b x ∧ (b x = true → Wp (el E1 S) fun d S3 => S3 = S ∧ d = v x))
    (k : Ql ((xs.filter b).map v) S) : LcOk vs tg t el E Ql s S := by
  have step2 : ∀ x, ∃ E1, x ∈ xs → tg (f x) (wipeE E vs) S = some (E1, S) ∧ t E1 S = some (b x, S) ∧ (b x = true → el E1 S = some (v x, S)) := fun x => by
    by_cases hx : x ∈ xs
    · obtain ⟨E1, S2, e1, rfl, bb, S3, e2, rfl, rfl, h⟩ := step x hx
      exact ⟨E1, fun _ => ⟨e1, e2, fun hb => by
        obtain ⟨d, S4, e3, rfl, rfl⟩ := h hb
        exact e3⟩⟩
    · exact ⟨[], fun h => absurd h hx⟩
  have := lc_ev (vs := vs) (fi := fun E S => some (s, S)) (E := E) (S := S) (tg := tg) (t := t) (el := el) (E1 := fun x => Classical.choose (step2 x)) rfl hG (Nat.le_trans hz (by decide)) (fun x hx => (Classical.choose_spec (step2 x) hx).1) (fun x hx => (Classical.choose_spec (step2 x) hx).2.1) (fun x hx hb => (Classical.choose_spec (step2 x) hx).2.2 hb)
  exact .of this k
theorem lcm_by {vs : List Nat} {el : DF D} {s : Src} (xs : List α) (f : α → D) (v : α → D)
    (hG : Gv s S (xs.map f)) (hz : xs.length ≤ 1000000)
    (step : ∀ x ∈ xs, Wp (tg (f x) (wipeE E vs) S) fun E1 S1 => S1 = S ∧ Wp (el E1 S) fun d S3 => S3 = S ∧ d = v x)
    (k : Ql (xs.map v) S) : LcOk vs tg dYes el E Ql s S := by
  refine lc_by xs f (fun _ => true) v hG hz (fun x hx => (step x hx).imp fun E1 S1 ⟨e, h⟩ => ⟨e, .of rfl ⟨rfl, rfl, fun _ => h⟩⟩) ?_
  rw [List.filter_eq_self.mpr (fun _ _ => rfl)]
  exact k
theorem lc_by_rel {vs : List Nat} {t : DF Bool} {el : DF D} {s : Src} (I : Nat → List D → List Ob → Prop) (xs : List α) (f : α → D)
    (h0 : I 0 [] S) (hG : ∀ i acc S, I i acc S → Gv s S (xs.map f)) (hz : xs.length ≤ 1000000)
    (step : ∀ i x acc S, I i acc S → xs[i]? = some x → Wp (tg (f x) (wipeE E vs) S) fun E1 S1 => Wp (t E1 S1) fun bb S2 => Br bb (Wp (el E1 S2) fun d S3 => I (i + 1) (acc ++ [d]) S3) (I (i + 1) acc S2))
    (k : ∀ ys S', I xs.length ys S' → Ql ys S') : LcOk vs tg t el E Ql s S := by
  obtain ⟨ys, S', h1, h2⟩ := lc_rel (vs := vs) (fi := fun E S => some (s, S)) (E := E) (S := S) (tg := tg) (t := t) (el := el) I rfl hG h0 (Nat.le_trans hz (by decide)) fun i x acc S h hx => by
    obtain ⟨E1, S1, e1, bb, S2, e2, h3⟩ := step i x acc S h hx
    exact ⟨E1, S1, bb, S2, e1, e2, h3.2, h3.1⟩
  exact .of h1 (k ys S' h2)
theorem w_lc2 {vs vs1 : List Nat} {t t1 : DF Bool} {i1 : DF Src} {tg1 : DFG} {el : DF D} {β : Type} (xs : List α) (f : α → D) (b : α → Bool) (ys : α → List β) (g : α → β → D) (b2 : α → β → Bool) (v : α → β → D) (c : Nat)
    (hi : Wp (fi E S) fun s S1 => S1 = S ∧ Gv s S (xs.map f))
    (step : ∀ x ∈ xs, Wp (tg (f x) (wipeE E vs) S) fun E1 S1 => S1 = S ∧ Wp (t E1 S) fun bb S2 => S2 = S ∧ bb = b x ∧ (b x = true → Wp (i1 E1 S) fun s1 S3 => S3 = S ∧ Gv s1 S ((ys x).map (g x)) ∧ ∀ y ∈ ys x, Wp (tg1 (g x y) (wipeE E1 vs1) S) fun E2 S4 => S4 = S ∧ Wp (t1 E2 S) fun b3 S5 => S5 = S ∧ b3 = b2 x y ∧ (b2 x y = true → Wp (el E2 S) fun d S6 => S6 = S ∧ d = v x y)))
    (hc : ∀ x ∈ xs, (ys x).length ≤ c) (hz : xs.length * c ≤ 1000000) (k : Ql ((xs.filter b).flatMap fun x => ((ys x).filter (b2 x)).map (v x)) S) : Wp (dLc2 vs vs1 fi tg t i1 tg1 t1 el E S) Ql := by
  obtain ⟨s, S1, e, rfl, hG⟩ := hi
  have step2 : ∀ x, ∃ p : SE × Src, x ∈ xs → tg (f x) (wipeE E vs) S1 = some (p.1, S1) ∧ t p.1 S1 = some (b x, S1) ∧ (b x = true → i1 p.1 S1 = some (p.2, S1) ∧ Gv p.2 S1 ((ys x).map (g x)) ∧ ∀ y, ∃ E2, y ∈ ys x → tg1 (g x y) (wipeE p.1 vs1) S1 = some (E2, S1) ∧ t1 E2 S1 = some (b2 x y, S1) ∧ (b2 x y = true → el E2 S1 = some (v x y, S1))) := fun x => by
    by_cases hx : x ∈ xs
    · obtain ⟨E1, S2, e1, rfl, bb, S3, e2, rfl, rfl, h⟩ := step x hx
      by_cases hb : b x = true
      · obtain ⟨s1, S4, e3, rfl, gv, h⟩ := h hb
        refine ⟨(E1, s1), fun _ => ⟨e1, e2, fun _ => ⟨e3, gv, fun y => ?_⟩⟩⟩
        by_cases hy : y ∈ ys x
        · obtain ⟨E2, S5, e4, rfl, b3, S6, e5, rfl, rfl, h⟩ := h y hy
          exact ⟨E2, fun _ => ⟨e4, e5, fun hb2 => by
            obtain ⟨d, S7, e6, rfl, rfl⟩ := h hb2
            exact e6⟩⟩
        · exact ⟨[], fun h => absurd h hy⟩
      · exact ⟨(E1, .fix []), fun _ => ⟨e1, e2, fun h => absurd h hb⟩⟩
    · exact ⟨([], .fix []), fun h => absurd h hx⟩
  have sp := fun x => Classical.choose_spec (step2 x)
  have := lc2_ev (vs := vs) (vs1 := vs1) (fi := fi) (E := E) (S := S1) (tg := tg) (t := t) (i1 := i1) (tg1 := tg1) (t1 := t1) (el := el) (xs := xs) (f := f) (b := b) (ys := ys) (g := g) (b2 := b2) (v := v)
    (E1 := fun x => (Classical.choose (step2 x)).1) (s1 := fun x => (Classical.choose (step2 x)).2) (E2 := fun x y => open Classical in if h : x ∈ xs ∧ b x = true then Classical.choose (((sp x h.1).2.2 h.2).2.2 y) else []) c e hG
    (fun x hx => (sp x hx).1) (fun x hx => (sp x hx).2.1) (fun x hx hb => ((sp x hx).2.2 hb).1) (fun x hx hb => ((sp x hx).2.2 hb).2.1)
    (fun x hx hb y hy => by simp only [dif_pos (And.intro hx hb)]; exact (Classical.choose_spec (((sp x hx).2.2 hb).2.2 y) hy).1)
    (fun x hx hb y hy => by simp only [dif_pos (And.intro hx hb)]; exact (Classical.choose_spec (((sp x hx).2.2 hb).2.2 y) hy).2.1)
    (fun x hx hb y hy hb2 => by simp only [dif_pos (And.intro hx hb)]; exact (Classical.choose_spec (((sp x hx).2.2 hb).2.2 y) hy).2.2 hb2)
    hc (Nat.le_trans hz (by decide))
  exact .of this k
end
/-! dicts that are walked -/
section
variable {α : Type} {E : SE} {S : List Ob} {kf : DF D} {f : DF α} {fd : DF D} {Q : α → List Ob → Prop} {Qs : Src → List Ob → Prop}
theorem w_lock (hk : Wp (kf E S) fun d _ => ∃ k S1, d = .ptr k ∧ lockO S k = some S1 ∧ Wp (f E S1) fun a S2 => ∃ S3, freeO S2 k = some S3 ∧ Q a S3) : Wp (lockAt kf f E S) Q := by
  obtain ⟨d, S0, e, k, S1, rfl, h1, a, S2, e2, S3, h2, q⟩ := hk
  refine .of ?_ q
  unfold lockAt
  simp only [e, Option.map_some, h1, Option.bind_some, e2, h2]
theorem w_iDk {g : Nat → Src} (h : Wp (fd E S) fun d S1 => ∃ k l, d = .ptr k ∧ (S1[k]? = some (.lkK l) ∨ ∃ l, S1[k]? = some (.lkT l)) ∧ Qs (g k) S1) : Wp (iDk g fd E S) Qs := by
  obtain ⟨d, S1, e, k, l, rfl, h1, q⟩ := h
  refine .of ?_ q
  unfold iDk
  rw [e, Option.bind_some]
  rcases h1 with h1 | ⟨l, h1⟩ <;> simp only [h1]
theorem lockO_K {k : Nat} {l : List (Key × D)} (h : S[k]? = some (.dK l)) : lockO S k = some (S.set k (.lkK l)) := by
  unfold lockO
  simp only [h]
theorem lockO_T {k : Nat} {l : List (List Key × D)} (h : S[k]? = some (.dT l)) : lockO S k = some (S.set k (.lkT l)) := by
  unfold lockO
  simp only [h]
theorem freeO_K {k : Nat} {l : List (Key × D)} (h : S[k]? = some (.lkK l)) : freeO S k = some (S.set k (.dK l)) := by
  unfold freeO
  simp only [h]
theorem freeO_T {k : Nat} {l : List (List Key × D)} (h : S[k]? = some (.lkT l)) : freeO S k = some (S.set k (.dT l)) := by
  unfold freeO
  simp only [h]
theorem gv_keys {k : Nat} {l : List (Key × D)} (h : S[k]? = some (.lkK l)) : Gv (.keys k) S (l.map fun p => keyD p.1) := ⟨keys_at h, keys_len h⟩
end
/-- a def's body -/
theorem w_run {m : Nat} {p : DFS} {ds : List D} {S : List Ob} {Q : D → List Ob → Prop} (h : Wp (p (ds.map some ++ List.replicate (m - ds.length) none) S) fun o S1 => match o with
    | .nx _ => Q .non S1
    | .rt d => Q d S1
    | _ => False) : Wp (runB m p ds S) Q := by
  obtain ⟨o, S1, e, h⟩ := h
  unfold runB
  rw [e, Option.bind_some]
  cases o with
  | nx E => exact .of rfl h
  | rt d => exact .of rfl h
  | bk E => exact h.elim
  | ct E => exact h.elim
theorem eq_str {S : List Ob} (a b : Str) : opEq S (.str a) (.str b) = some (.bl (decide (a = b))) := by
  have h : opEq S (.str a) (.str b) = some (.bl (decide (V.str a = V.str b))) := rfl
  rw [h]
  congr 2
  exact decide_eq_decide.mpr ⟨fun e => V.str.inj e, fun e => by rw [e]⟩
theorem ne_str {S : List Ob} (a b : Str) : opNe S (.str a) (.str b) = some (.bl (!decide (a = b))) := by
  have h : opNe S (.str a) (.str b) = some (.bl (!decide (V.str a = V.str b))) := rfl
  rw [h]
  congr 3
  exact decide_eq_decide.mpr ⟨fun e => V.str.inj e, fun e => by rw [e]⟩
theorem lstOf_end {S : List Ob} (l : List D) : lstOf (S ++ [.lst l]) (.ptr S.length) = some l := by
  unfold lstOf
  simp only [end_at]
theorem Pu.up {S : List Ob} {p n m : Nat} (h : Pu S p n) (hm : n ≤ m) : Pu S p m := by
  obtain ⟨a, b, c, h1, h2, h3, h4, h5, h6⟩ := h.ex
  exact ⟨a, b, c, h1, h2, h3, h4, h5, by omega⟩
theorem Pu.lt {S : List Ob} {p n : Nat} (h : Pu S p n) : p < S.length := by
  obtain ⟨a, b, c, h1, _⟩ := h.ex
  exact (List.getElem?_eq_some_iff.mp h1).1
theorem Pu.app {S T : List Ob} {p n : Nat} (h : Pu S p n) : Pu (S ++ T) p n := by
  obtain ⟨a, b, c, h1, h2⟩ := h.ex
  exact ⟨a, b, c, by rw [List.getElem?_append_left (List.getElem?_eq_some_iff.mp h1).1]; exact h1, h2⟩
theorem Pu.of_app {S T : List Ob} {p n : Nat} (h : Pu (S ++ T) p n) (hp : p < S.length) : Pu S p n := by
  obtain ⟨a, b, c, h1, h2⟩ := h.ex
  exact ⟨a, b, c, by rwa [List.getElem?_append_left hp] at h1, h2⟩
theorem But.app {S S' T : List Ob} {p : Nat} (h : But p (S ++ T) S') (hp : p < S.length) : ∃ S'', S' = S'' ++ T ∧ But p S S'' := by
  refine ⟨S'.take S.length, ?_, ?_, fun k hk => ?_⟩
  · have hl := h.len
    rw [List.length_append] at hl
    refine List.ext_getElem? fun k => ?_
    by_cases hk : k < S.length
    · rw [List.getElem?_append_left (by rw [List.length_take]; omega), List.getElem?_take_of_lt hk]
    · have e1 : (S'.take S.length).length = S.length := by rw [List.length_take]; omega
      rw [List.getElem?_append_right (by omega), e1, h.ne k (by omega), List.getElem?_append_right (by omega)]
  · have hl := h.len
    rw [List.length_append] at hl
    rw [List.length_take]
    omega
  · by_cases hk2 : k < S.length
    · rw [List.getElem?_take_of_lt hk2, h.ne k hk, List.getElem?_append_left hk2]
    · have hl := h.len
      rw [List.length_append] at hl
      rw [List.getElem?_eq_none (by rw [List.length_take]; omega), List.getElem?_eq_none (by omega)]
theorem But.ap {S S' T : List Ob} {p : Nat} (h : But p S S') : But p (S ++ T) (S' ++ T) := by
  refine ⟨by rw [List.length_append, List.length_append, h.len], fun k hk => ?_⟩
  by_cases h2 : k < S.length
  · rw [List.getElem?_append_left (by rw [h.len]; exact h2), List.getElem?_append_left h2, h.ne k hk]
  · rw [List.getElem?_append_right (by rw [h.len]; omega), List.getElem?_append_right (by omega), h.len]
theorem draw_nat {S : List Ob} {p n m : Nat} (h : Pu S p n) (hm : 0 < m) (hm2 : m < 1073741824) (hn : n < 1000000) : ∃ (r : Nat) (S' : List Ob), c__law_draw [.ptr p, .int (m : Nat)] S = some (.int (r : Nat), S') ∧ r < m ∧ Pu S' p (n + 1) ∧ But p S S' := by
  obtain ⟨r, S', h1, h2, h3, h4, h5⟩ := draw_ok (m := (m : Nat)) h (by omega) (by omega) hn
  obtain ⟨k, rfl⟩ := Int.eq_ofNat_of_zero_le h2
  exact ⟨k, S', h1, by omega, h4, h5⟩
/-- a call of the draw, its bound evaluated -/
theorem draw_ev {E : SE} {S : List Ob} {fp fm : DF D} {p m : Nat} {r : D × List Ob} (hp : fp E S = some (.ptr p, S)) (hm : fm E S = some (.int (m : Nat), S)) (h : c__law_draw [.ptr p, .int (m : Nat)] S = some r) : dCall 2 c__law_draw (dCons fp (dCons fm dNil)) E S = some r :=
  dCall_ev (dCons_ev hp (dCons_ev hm dNil_ev)) rfl h
theorem cutL_take {α : Type} (xs : List α) (i : Nat) : cutL xs none (some (i : Int)) = xs.take i := by
  unfold cutL
  rw [HT.sIx_none, HT.sIx_nat, List.drop_zero, Nat.sub_zero]
  by_cases h : i ≤ xs.length
  · rw [Nat.min_eq_left h]
  · rw [Nat.min_eq_right (by omega), List.take_of_length_le (Nat.le_refl _), List.take_of_length_le (by omega)]
theorem cutL_drop {α : Type} (xs : List α) (i : Nat) : cutL xs (some (i : Int)) none = xs.drop i := by
  unfold cutL
  rw [HT.sIx_none, HT.sIx_nat]
  by_cases h : i ≤ xs.length
  · rw [Nat.min_eq_left h, List.take_of_length_le (by rw [List.length_drop]; omega)]
  · rw [Nat.min_eq_right (by omega), List.drop_of_length_le (Nat.le_refl _), List.drop_of_length_le (by omega)]
    simp
theorem dSlL_ev {E : SE} {S S1 S2 S3 : List Ob} {f : DF D} {fl fh : DF (Option Int)} {d : D} {l h : Option Int} {xs : List D} (hf : f E S = some (d, S1)) (hl : fl E S1 = some (l, S2)) (hh : fh E S2 = some (h, S3)) (hx : lstOf S3 d = some xs) : dSlL f fl fh E S = some (cutL xs l h, S3) := by
  unfold dSlL
  rw [hf, Option.bind_some, hl, Option.bind_some, hh, Option.bind_some, hx]
  rfl
theorem add_lst {S : List Ob} {a b : List D} (h : a.length + b.length ≤ 1000000) : opAdd S (.lst a) (.lst b) = some (.lst (a ++ b)) := by
  show (if a.length + b.length ≤ sizeLine then some (D.lst (a ++ b)) else none) = _
  rw [if_pos (Nat.le_trans h (by decide))]
theorem len_lst' {S : List Ob} {xs : List D} : fLen S [.lst xs] = some (.int (xs.length : Nat)) := len_lst rfl
theorem rg_ev {fs : DF (List D)} {E : SE} {S S1 : List Ob} {n : Nat} (h : fs E S = some ([.int (n : Nat)], S1)) (hn : n ≤ 1000000) : iRg1 fs E S = some (.fix ((List.range n).map fun i : Nat => D.int (i : Nat)), S1) := by
  rw [rg1_ev h hn, upto0]
theorem w_draw {S : List Ob} {p n m : Nat} {Q : D → List Ob → Prop} (h : Pu S p n) (hm : 0 < m) (hm2 : m < 1073741824) (hn : n < 1000000) (k : ∀ (r : Nat) S', r < m → Pu S' p (n + 1) → But p S S' → Q (.int (r : Nat)) S') : Wp (c__law_draw [.ptr p, .int (m : Nat)] S) Q := by
  obtain ⟨r, S', h1, h2, h3, h4⟩ := draw_nat h hm hm2 hn
  exact .of h1 (k r S' h2 h3 h4)
end DL

set_option Elab.async false
set_option linter.all false
set_option maxRecDepth 100000
set_option maxHeartbeats 4000000
/-! P11: the laws' helpers: words drawn, turned about. -/
namespace DL
open PySem PySem.Spec PyProof.Rows L2
local macro_rules | `(tactic| walk_at "wp") => `(tactic| first
  | (with_reducible first | apply w_seq | apply w_sV | apply w_sW | apply w_if | apply w_asg | apply w_ret | apply w_drop | apply w_sNil | apply w_test | apply w_not | apply w_bin | apply w_c | apply w_nil | apply w_cons | apply w_few | apply w_tree | apply w_new | apply w_tup | apply w_cb | apply w_call | apply w_isi | apply w_fld | apply w_nopart | apply w_part | apply w_slL | apply w_slS | apply w_dget | apply w_newK | apply w_newT | apply w_app | apply w_lst0 | apply w_prop | apply w_ownE | apply w_ownN | apply w_catN | apply w_get1 | apply w_get2 | apply w_and | apply w_or | apply w_andV | apply w_orV | apply w_notV | apply w_dif | apply w_retN | apply w_par | apply w_gN | apply w_gsNil | apply w_gsCons | apply w_gSetL | apply w_asgG | apply w_sFld | apply w_sDP | apply w_iLst | apply w_iTu | apply w_iSt | apply w_iRg1 | apply w_iRg2 | apply w_for | apply w_lc | apply w_lock | apply w_iDk | apply w_join | apply w_meth | apply nxt_nx | apply nxt_rt)
  | (with_reducible refine w_var (by with_unfolding_all rfl) ?_) | (with_reducible refine w_gTu (by with_unfolding_all rfl) (by with_unfolding_all rfl) ?_) | (with_reducible refine w_aug (by with_unfolding_all rfl) ?_)
  | ((fail_if_success (with_reducible apply wp_id)); first
  | (refine ⟨lenOk (Nat.le_of_ble_eq_true rfl), ?_⟩) | (refine ⟨show _ ≤ 1000000 by omega, ?_⟩) | (refine ⟨(Nat.le_of_ble_eq_true rfl : _ ≤ 1000000), ?_⟩) | (refine ⟨rfl, ?_⟩)
  | (refine br_t ?_) | (refine br_f ?_) | (with_reducible refine br_n ?_) | (refine br_yes (by first | assumption | exact rfl | omega) ?_) | (refine br_no (by first | assumption | omega) ?_)
  | (with_reducible refine ⟨_, eq_int _ _, ?_⟩) | (with_reducible refine ⟨_, ne_int _ _, ?_⟩) | (with_reducible refine ⟨_, eq_wd _ _, ?_⟩) | (with_reducible refine ⟨_, ne_wd _ _, ?_⟩) | (with_reducible refine ⟨_, eq_str _ _, ?_⟩) | (with_reducible refine ⟨_, ne_str _ _, ?_⟩) | (with_reducible refine ⟨_, in_tup _, ?_⟩) | (with_reducible refine ⟨_, in_lst _, ?_⟩) | (with_reducible refine ⟨_, len_lst', ?_⟩) | (with_reducible refine ⟨_, add_wd (by first | omega | (simp; omega)), ?_⟩)
  | (with_reducible refine ⟨_, opMul_ev (.inr (by omega)), ?_⟩) | (with_reducible refine ⟨_, opMul_ev (.inl (by omega)), ?_⟩) | (with_reducible refine ⟨_, opMod_ev (by first | assumption | omega), ?_⟩) | (with_reducible refine ⟨_, opDiv_ev (by first | assumption | omega), ?_⟩)
  | (refine ⟨_, rfl, ?_⟩) | (refine ⟨_, _, rfl, ?_⟩) | exact rfl)
  | fail)
open Tr in
def g__law_full_words : DFS := (sSeq (sAsg 2 (dTree (few (dCons (dC (.str "0")) (dCons (dC (.str "1")) dNil)))))
    (sSeq (sV [3, 4] (sFor (iRg1 (dCons (dCall 2 c__law_draw (dCons (dVar 0) (dCons (dVar 1) dNil))) dNil)) (gN 3) (sW [3, 4] (sSeq (sAsg 4 (dCall 2 c__law_draw (dCons (dVar 0) (dCons (dCB fLen (dCons (dVar 2) dNil)) dNil))))
    (sSeq (sIf (dTest (dBin opEq (dCall 2 c__law_draw (dCons (dVar 0) (dCons (dC (.int 3)) dNil))) (dC (.int 0)))) (sAsg 4 (dBin opSub (dCB fLen (dCons (dVar 2) dNil)) (dC (.int 1)))) sNil)
    (sAsg 2 (dBin opAdd (dBin opAdd (dTree (dSlL (dVar 2) dNoPart (dPart (dVar 4)))) (dTree (few (dCons (dBin opAdd (dBin atD (dVar 2) (dVar 4)) (dC (.str "0"))) (dCons (dBin opAdd (dBin atD (dVar 2) (dVar 4)) (dC (.str "1"))) dNil))))) (dTree (dSlL (dVar 2) (dPart (dBin opAdd (dVar 4) (dC (.int 1)))) dNoPart)))))))))
    (sRet (dVar 2))))
def c__law_full_words := runB 5 g__law_full_words
open Tr in
theorem full_words_ok {S : List Ob} {p n m : Nat} (h : Pu S p n) (hm : 0 < m) (hm2 : m ≤ 1000) (hn : n + 1 + 2 * m < 1000000) :
    Wp (c__law_full_words [.ptr p, .int (m : Nat)] S) fun d S' => ∃ t, d = .lst ((words t).map wd) ∧ full t ∧ 2 ≤ size t ∧ size t ≤ m + 1 ∧ Pu S' p (n + 1 + 2 * m) ∧ But p S S' := by
  refine w_run ?_
  unfold g__law_full_words
  repeat' (walk_at "wp")
  refine w_draw h hm (by omega) (by omega) fun r S1 hr h1 h2 => ?_
  repeat' (walk_at "wp")
  refine for_by (List.range r) (fun i : Nat => D.int (i : Nat)) (fun st : Tr × List Ob => [some (.ptr p), some (.int (m : Nat)), some (.lst ((words st.1).map wd)), none, none]) (fun st => st.2) (fun i st => full st.1 ∧ size st.1 = i + 2 ∧ Pu st.2 p (n + 1 + 2 * i) ∧ But p S st.2) (nd lf lf, S1)
    ⟨⟨trivial, trivial⟩, rfl, h1, h2⟩ (fun _ _ _ => gv_fix) ?_ ?_
  · rintro i x ⟨t, S2⟩ ⟨k1, k2, k3, k4⟩ hx
    simp only at k1 k2 k3 k4
    have hi : i < r := by
      have := (List.getElem?_eq_some_iff.mp hx).1
      rwa [List.length_range] at this
    have hsz := Tr.words_len t
    have hln : ((words t).map wd).length = i + 2 := by rw [List.length_map, hsz, k2]
    repeat' (walk_at "wp")
    rw [hln]
    refine w_draw k3 (by omega) (by omega) (by omega) fun a S3 ha h3 h4 => ?_
    refine nxt_nx (seq_mid (fun o S1 => ∃ j : Nat, j < i + 2 ∧ o = .nx [some (.ptr p), some (.int (m : Nat)), some (.lst ((words t).map wd)), some (.int (x : Nat)), some (.int (j : Nat))] ∧ Pu S1 p (n + 1 + 2 * i + 1 + 1) ∧ But p S3 S1) ?_ ?_)
    · repeat' (walk_at "wp")
      refine w_draw (m := 3) h3 (by omega) (by omega) (by omega) fun c S4 hc h5 h6 => ?_
      repeat' (walk_at "wp")
      refine br (fun hc => ?_) (fun hc => ?_)
      · repeat' (walk_at "wp")
        rw [hln]
        refine ⟨i + 1, by omega, ?_, h5, h6⟩
        rw [show ((i + 2 : Nat) : Int) - 1 = ((i + 1 : Nat) : Int) by omega]
        rfl
      · repeat' (walk_at "wp")
        exact ⟨a, ha, rfl, h5, h6⟩
    · rintro _ S4 ⟨j, hj, rfl, h5, h6⟩
      obtain ⟨w, hw⟩ : ∃ w, (words t)[j]? = some w := ⟨_, List.getElem?_eq_getElem (by omega)⟩
      have hw2 : ((words t).map wd)[j]? = some (wd w) := by rw [List.getElem?_map, hw]; rfl
      have hwl : w.length ≤ 1001 := by
        have h1 := Tr.len_hgt (List.mem_of_getElem? hw)
        have h2 := Tr.hgt_size k1
        omega
      have hs := split_words t j w hw
      have e1 : ∀ S, atD S (.lst ((words t).map wd)) (.int (j : Nat)) = some (wd w) := fun S => atD_lst (atI_nat hw2)
      repeat' (walk_at "wp")
      refine ⟨_, e1 _, ?_⟩
      repeat' (walk_at "wp")
      rw [wd_0]
      repeat' (walk_at "wp")
      refine ⟨_, e1 _, ?_⟩
      repeat' (walk_at "wp")
      rw [wd_1]
      repeat' (walk_at "wp")
      rw [cutL_take]
      refine ⟨_, add_lst (by rw [List.length_take, hln]; simp; omega), ?_⟩
      repeat' (walk_at "wp")
      rw [show (j : Int) + 1 = ((j + 1 : Nat) : Int) by omega, cutL_drop]
      refine ⟨_, add_lst (by rw [List.length_append, List.length_take, List.length_drop, hln]; simp; omega), (split t j, S4), ?_, rfl, split_full _ k1, by rw [split_size (by omega)]; omega, h5.up (by omega), (k4.trans h4).trans h6⟩
      simp only [hs, List.map_append, List.map_cons, List.map_nil, List.map_take, List.map_drop]
      rfl
  · rintro ⟨t, S2⟩ ⟨k1, k2, k3, k4⟩
    rw [List.length_range] at k2 k3
    simp only at k1 k2 k3 k4
    repeat' (walk_at "wp")
    dsimp only
    exact ⟨k1, by omega, by omega, k3.up (by omega), k4⟩
end DL


set_option Elab.async false
set_option linter.all false
set_option maxRecDepth 100000
set_option maxHeartbeats 4000000
/-! P12: the laws' helpers: words, turned about, made. -/
namespace DL
open PySem PySem.Spec PyProof.Rows L2
noncomputable section
local macro_rules | `(tactic| walk_at "wp") => `(tactic| first
  | (with_reducible first | apply w_seq | apply w_sV | apply w_sW | apply w_if | apply w_asg | apply w_ret | apply w_drop | apply w_sNil | apply w_test | apply w_not | apply w_bin | apply w_c | apply w_nil | apply w_cons | apply w_few | apply w_tree | apply w_new | apply w_tup | apply w_cb | apply w_call | apply w_isi | apply w_fld | apply w_nopart | apply w_part | apply w_slL | apply w_slS | apply w_dget | apply w_newK | apply w_newT | apply w_app | apply w_lst0 | apply w_prop | apply w_ownE | apply w_ownN | apply w_catN | apply w_get1 | apply w_get2 | apply w_and | apply w_or | apply w_andV | apply w_orV | apply w_notV | apply w_dif | apply w_retN | apply w_par | apply w_gN | apply w_gsNil | apply w_gsCons | apply w_gSetL | apply w_asgG | apply w_sFld | apply w_sDP | apply w_iLst | apply w_iTu | apply w_iSt | apply w_iRg1 | apply w_iRg2 | apply w_for | apply w_lc | apply w_lock | apply w_iDk | apply w_join | apply w_meth | apply nxt_nx | apply nxt_rt)
  | (with_reducible refine w_var (by with_unfolding_all rfl) ?_) | (with_reducible refine w_gTu (by with_unfolding_all rfl) (by with_unfolding_all rfl) ?_) | (with_reducible refine w_aug (by with_unfolding_all rfl) ?_)
  | ((fail_if_success (with_reducible apply wp_id)); first
  | (refine ⟨lenOk (Nat.le_of_ble_eq_true rfl), ?_⟩) | (refine ⟨show _ ≤ 1000000 by omega, ?_⟩) | (refine ⟨(Nat.le_of_ble_eq_true rfl : _ ≤ 1000000), ?_⟩) | (refine ⟨rfl, ?_⟩)
  | (refine br_t ?_) | (refine br_f ?_) | (with_reducible refine br_n ?_) | (refine br_yes (by first | assumption | exact rfl | omega) ?_) | (refine br_no (by first | assumption | omega) ?_)
  | (with_reducible refine ⟨_, eq_int _ _, ?_⟩) | (with_reducible refine ⟨_, ne_int _ _, ?_⟩) | (with_reducible refine ⟨_, eq_wd _ _, ?_⟩) | (with_reducible refine ⟨_, ne_wd _ _, ?_⟩) | (with_reducible refine ⟨_, eq_str _ _, ?_⟩) | (with_reducible refine ⟨_, ne_str _ _, ?_⟩) | (with_reducible refine ⟨_, in_tup _, ?_⟩) | (with_reducible refine ⟨_, in_lst _, ?_⟩) | (with_reducible refine ⟨_, len_lst', ?_⟩) | (with_reducible refine ⟨_, add_wd (by first | omega | (simp; omega)), ?_⟩)
  | (with_reducible refine ⟨_, opMul_ev (.inr (by omega)), ?_⟩) | (with_reducible refine ⟨_, opMul_ev (.inl (by omega)), ?_⟩) | (with_reducible refine ⟨_, opMod_ev (by first | assumption | omega), ?_⟩) | (with_reducible refine ⟨_, opDiv_ev (by first | assumption | omega), ?_⟩)
  | (refine ⟨_, rfl, ?_⟩) | (refine ⟨_, _, rfl, ?_⟩) | exact rfl)
  | fail)
open Tr in
def g__law_words : DFS := (sSeq (sAsg 2 (dCall 2 c__law_full_words (dCons (dVar 0) (dCons (dVar 1) dNil))))
    (sSeq (sAsg 3 (dTree (dLc [4] (iLst (dVar 2)) (gN 4) (dTest (dBin opGt (dCall 2 c__law_draw (dCons (dVar 0) (dCons (dC (.int 6)) dNil))) (dC (.int 0)))) (dVar 4))))
    (sSeq (sIf (dAnd (dTest (dBin opGt (dCB fLen (dCons (dVar 3) dNil)) (dC (.int 1)))) (dTest (dBin opEq (dCall 2 c__law_draw (dCons (dVar 0) (dCons (dC (.int 2)) dNil))) (dC (.int 0))))) (sRet (dVar 3)) sNil)
    (sRet (dVar 2)))))
def c__law_words := runB 5 g__law_words
open Tr in
theorem words_drawn {S : List Ob} {p n m : Nat} (h : Pu S p n) (hm : 0 < m) (hm2 : m ≤ 1000) (hn : n + 1 + 4 * m + 10 < 1000000) :
    Wp (c__law_words [.ptr p, .int (m : Nat)] S) fun d S' => ∃ t, d = .lst ((words t).map wd) ∧ ok t ∧ 2 ≤ size t ∧ size t ≤ m + 1 ∧ hgt t ≤ m ∧ Pu S' p (n + 1 + 4 * m + 10) ∧ But p S S' := by
  refine w_run ?_
  unfold g__law_words
  repeat' (walk_at "wp")
  refine (full_words_ok h hm hm2 (by omega)).imp ?_
  rintro _ S1 ⟨t, rfl, k1, k2, k3, k4, k5⟩
  have hsz := Tr.words_len t
  have hh := Tr.hgt_size k1
  repeat' (walk_at "wp")
  refine lc_by_rel (fun i acc S' => ∃ l, acc = l.map wd ∧ List.Sublist l ((words t).take i) ∧ Pu S' p (n + 1 + 2 * m + i) ∧ But p S S') (words t) wd ⟨[], rfl, by simp, k4, k5⟩ (fun _ _ _ _ => gv_lst) (by omega) ?_ ?_
  · rintro i w acc S2 ⟨l, rfl, l1, l2, l3⟩ hw
    have hi := (List.getElem?_eq_some_iff.mp hw).1
    repeat' (walk_at "wp")
    refine w_draw (m := 6) l2 (by omega) (by omega) (by omega) fun r S3 hr h1 h2 => ?_
    repeat' (walk_at "wp")
    refine br (fun _ => ?_) (fun _ => ?_)
    · repeat' (walk_at "wp")
      refine ⟨l ++ [w], by simp, ?_, h1, l3.trans h2⟩
      rw [List.take_add_one, hw]
      exact l1.append (List.Sublist.refl _)
    · refine ⟨l, rfl, ?_, h1, l3.trans h2⟩
      rw [List.take_add_one]
      exact l1.trans (List.sublist_append_left ..)
  · rintro _ S2 ⟨l, rfl, l1, l2, l3⟩
    rw [List.take_length] at l1
    rw [hsz] at l2
    repeat' (walk_at "wp")
    refine br (fun hl => ?_) (fun hl => ?_)
    · repeat' (walk_at "wp")
      refine w_draw (m := 2) l2 (by omega) (by omega) (by omega) fun r S3 hr h1 h2 => ?_
      repeat' (walk_at "wp")
      refine br (fun _ => ?_) (fun _ => ?_)
      · repeat' (walk_at "wp")
        obtain ⟨t', e1, e2, e3⟩ := Tr.sub_tree t (Tr.full_ok k1) l1
        have l4 := Tr.words_len t'
        have l5 := l1.length_le
        rw [List.length_map] at hl
        rw [e1] at l4
        refine ⟨t', by rw [e1], e2, by omega, by omega, by omega, h1.up (by omega), l3.trans h2⟩
      · repeat' (walk_at "wp")
        exact ⟨Tr.full_ok k1, by omega, by omega, by omega, h1.up (by omega), l3.trans h2⟩
    · repeat' (walk_at "wp")
      exact ⟨Tr.full_ok k1, by omega, by omega, by omega, l2.up (by omega), l3⟩
def g__law_turned_about : DFS := (sSeq (sAsg 2 (dNew (dCB fList (dCons (dVar 1) dNil))))
    (sSeq (sV [3, 4] (sFor (iRg1 (dCons (dCB fLen (dCons (dVar 2) dNil)) dNil)) (gN 3) (sW [3, 4] (sSeq (sAsg 4 (dCall 2 c__law_draw (dCons (dVar 0) (dCons (dCB fLen (dCons (dVar 2) dNil)) dNil))))
    (sAsgG (dTup (dCons (dBin atD (dVar 2) (dVar 4)) (dCons (dBin atD (dVar 2) (dVar 3)) dNil))) (gTu 2 (gsCons (gSetL (dVar 2) (dVar 3)) (gsCons (gSetL (dVar 2) (dVar 4)) gsNil))))))))
    (sRet (dVar 2))))
def c__law_turned_about := runB 5 g__law_turned_about
theorem turned_ok {α : Type} {S : List Ob} {p n : Nat} {d : D} {xs : List α} (f : α → D) (h : Pu S p n) (hd : lstOf S d = some (xs.map f)) (hz : xs.length ≤ 100000) (hn : n + xs.length < 1000000) :
    Wp (c__law_turned_about [.ptr p, d] S) fun r S' => ∃ (ys : List α) (T : List Ob), r = .ptr S.length ∧ S' = T ++ [.lst (ys.map f)] ∧ ys.Perm xs ∧ Pu T p (n + xs.length) ∧ But p S T := by
  have hp := h.lt
  refine w_run ?_
  unfold g__law_turned_about
  repeat' (walk_at "wp")
  have hs : fList S [d] = some (xs.map f) := by
    show seqOf S d = _
    have : tupOf d = none := by cases d <;> first | rfl | cases hd
    unfold seqOf
    rw [this]
    exact hd
  refine ⟨_, hs, ?_⟩
  repeat' (walk_at "wp")
  have hl : ∀ (T : List Ob) (ys : List α), T.length = S.length → ys.length = xs.length → fLen (T ++ [.lst (ys.map f)]) [.ptr S.length] = some (.int (xs.length : Nat)) := fun T ys h1 h2 => by
    have : lstOf (T ++ [.lst (ys.map f)]) (.ptr S.length) = some (ys.map f) := by
      unfold lstOf
      simp only [← h1, end_at]
    rw [len_lst this, List.length_map, h2]
  refine ⟨_, hl S xs rfl rfl, ?_⟩
  repeat' (walk_at "wp")
  refine for_by (List.range xs.length) (fun i : Nat => D.int (i : Nat)) (fun _ : List α × List Ob => [some (.ptr p), some d, some (.ptr S.length), none, none]) (fun st => st.2 ++ [.lst (st.1.map f)]) (fun i st => st.1.Perm xs ∧ Pu st.2 p (n + i) ∧ But p S st.2) (xs, S)
    ⟨List.Perm.refl _, h, But.refl _ _⟩ (fun _ _ _ => gv_fix) ?_ ?_
  · rintro i x ⟨ys, T⟩ ⟨k1, k2, k3⟩ hx
    dsimp only at k1 k2 k3 ⊢
    have hi : i < xs.length ∧ x = i := by
      have h1 := (List.getElem?_eq_some_iff.mp hx)
      obtain ⟨h1, h2⟩ := h1
      rw [List.length_range] at h1
      rw [List.getElem_range] at h2
      exact ⟨h1, h2.symm⟩
    obtain ⟨hi, rfl⟩ := hi
    have hy := k1.length_eq
    have hT := k3.len
    repeat' (walk_at "wp")
    refine ⟨_, hl T ys hT hy, ?_⟩
    repeat' (walk_at "wp")
    refine w_draw (k2.app) (by omega) (by omega) (by omega) fun j S3 hj h1 h2 => ?_
    obtain ⟨T2, rfl, h3⟩ := But.app h2 (by rw [hT]; exact hp)
    have hT2 := h3.len
    have h1 := h1.of_app (by rw [hT2, hT]; exact hp)
    have at_ : ∀ (zs : List α) (m : Nat) (hm : m < zs.length), atD (T2 ++ [.lst (zs.map f)]) (.ptr S.length) (.int (m : Nat)) = some (f zs[m]) := fun zs m hm => by
      refine atD_ptr (xs := zs.map f) ?_ (atI_nat ?_)
      · rw [← hT, ← hT2]
        exact end_at
      · rw [List.getElem?_map, List.getElem?_eq_getElem hm]
        rfl
    repeat' (walk_at "wp")
    refine ⟨_, at_ ys j (by omega), ?_⟩
    repeat' (walk_at "wp")
    refine ⟨_, at_ ys x (by omega), ?_⟩
    repeat' (walk_at "wp")
    have ix : ∀ (zs : List α) (m : Nat) (hm : m < zs.length), ixN (zs.map f).length (m : Nat) = some m := fun zs m hm => by
      unfold ixN
      rw [if_pos (by omega), if_pos (by rw [List.length_map]; omega), Int.toNat_natCast]
    have e1 : (T2 ++ [Ob.lst (ys.map f)])[S.length]? = some (.lst (ys.map f)) := by
      rw [← hT, ← hT2]
      exact end_at
    refine ⟨_, _, _, x, rfl, rfl, e1, ix ys x (by omega), ?_⟩
    have e2 : (T2 ++ [Ob.lst (ys.map f)]).set S.length (.lst ((ys.map f).set x (f ys[j]))) = T2 ++ [.lst ((ys.set x ys[j]).map f)] := by
      rw [← hT, ← hT2, end_set, List.map_set]
    rw [e2]
    repeat' (walk_at "wp")
    have e3 : (T2 ++ [Ob.lst ((ys.set x ys[j]).map f)])[S.length]? = some (.lst ((ys.set x ys[j]).map f)) := by
      rw [← hT, ← hT2]
      exact end_at
    refine ⟨_, _, _, j, rfl, rfl, e3, ix _ j (by rw [List.length_set]; omega), ?_⟩
    have e4 : (T2 ++ [Ob.lst ((ys.set x ys[j]).map f)]).set S.length (.lst (((ys.set x ys[j]).map f).set j (f ys[x]))) = T2 ++ [.lst (((ys.set x ys[j]).set j ys[x]).map f)] := by
      rw [← hT, ← hT2, end_set]
      simp only [List.map_set]
    rw [e4]
    repeat' (walk_at "wp")
    exact ⟨((ys.set x ys[j]).set j ys[x], T2), rfl, rfl, (List.set_set_perm (by omega) (by omega)).trans k1, h1.up (by omega), k3.trans h3⟩
  · rintro ⟨ys, T⟩ ⟨k1, k2, k3⟩
    rw [List.length_range] at k2
    dsimp only at k1 k2 k3 ⊢
    repeat' (walk_at "wp")
    exact ⟨ys, T, rfl, rfl, k1, k2, k3⟩
def g__law_made : DFS := (sSeq (sAsg 1 (dNew (dCB fList (dCons (dVar 0) dNil))))
    (sSeq (sAsg 2 (dCall 1 M_Code (dCons (dVar 1) dNil)))
    (sSeq (sDrop (dLst0 gClear (dVar 1)))
    (sRet (dVar 2)))))
def c__law_made := M_Code
theorem M_some {d : D} {S : List Ob} {r : D × List Ob} (h : M_Code [d] S = some r) : ∃ W, lstOf S d = some (W.map wd) ∧ CodeOk W ∧ r = (codeW W, S) := by
  unfold M_Code at h
  simp only at h
  split at h
  · rename_i hx
    obtain ⟨h1, h2⟩ := Classical.choose_spec hx
    cases h
    exact ⟨_, h1, h2, rfl⟩
  · cases h
theorem seq_lst {S : List Ob} {d : D} {l : List D} (h : lstOf S d = some l) : seqOf S d = some l := by
  have : tupOf d = none := by cases d <;> first | rfl | cases h
  unfold seqOf
  rw [this]
  exact h
theorem made_frz : ∀ (ds : List D) (S : List Ob) (r : D × List Ob), ds.length = 1 → c__law_made ds S = some r → ∃ r', runB 3 g__law_made ds S = some r' ∧ RzR S r' r := by
  intro ds S r hl h
  match ds, hl with
  | [d], _ =>
    obtain ⟨W, h1, h2, rfl⟩ := M_some h
    have key : Wp (runB 3 g__law_made [d] S) fun r S' => r = codeW W ∧ S' = S ++ [.lst []] := by
      refine w_run ?_
      unfold g__law_made
      repeat' (walk_at "wp")
      refine ⟨_, seq_lst h1, ?_⟩
      repeat' (walk_at "wp")
      have e : lstOf (S ++ [.lst (W.map wd)]) (.ptr S.length) = some (W.map wd) := by
        unfold lstOf
        simp only [end_at]
      refine .of (code_ok e h2) ?_
      repeat' (walk_at "wp")
      refine ⟨_, _, _, _, rfl, end_at, rfl, ?_⟩
      rw [end_set]
      repeat' (walk_at "wp")
    obtain ⟨r, S', e, rfl, rfl⟩ := key
    exact ⟨_, e, RzR.same (rz_bnd _ (codeW_bnd _ _))⟩
end
end DL


set_option Elab.async false
set_option linter.all false
set_option maxRecDepth 100000
set_option maxHeartbeats 4000000
/-! P13: the laws' own reckoning of codes. -/
namespace DL
open PySem PySem.Spec PyProof.Rows L2
noncomputable section
local macro_rules | `(tactic| walk_at "wp") => `(tactic| first
  | (with_reducible first | apply w_seq | apply w_sV | apply w_sW | apply w_if | apply w_asg | apply w_ret | apply w_drop | apply w_sNil | apply w_test | apply w_not | apply w_bin | apply w_c | apply w_nil | apply w_cons | apply w_few | apply w_tree | apply w_new | apply w_tup | apply w_cb | apply w_call | apply w_isi | apply w_fld | apply w_nopart | apply w_part | apply w_slL | apply w_slS | apply w_dget | apply w_newK | apply w_newT | apply w_app | apply w_lst0 | apply w_prop | apply w_ownE | apply w_ownN | apply w_catN | apply w_get1 | apply w_get2 | apply w_and | apply w_or | apply w_andV | apply w_orV | apply w_notV | apply w_dif | apply w_retN | apply w_par | apply w_gN | apply w_gsNil | apply w_gsCons | apply w_gSetL | apply w_asgG | apply w_sFld | apply w_sDP | apply w_iLst | apply w_iTu | apply w_iSt | apply w_iRg1 | apply w_iRg2 | apply w_for | apply w_lc | apply w_lock | apply w_iDk | apply w_join | apply w_meth | apply nxt_nx | apply nxt_rt)
  | (with_reducible refine w_var (by with_unfolding_all rfl) ?_) | (with_reducible refine w_gTu (by with_unfolding_all rfl) (by with_unfolding_all rfl) ?_) | (with_reducible refine w_aug (by with_unfolding_all rfl) ?_)
  | ((fail_if_success (with_reducible apply wp_id)); first
  | (refine ⟨lenOk (Nat.le_of_ble_eq_true rfl), ?_⟩) | (refine ⟨show _ ≤ 1000000 by omega, ?_⟩) | (refine ⟨(Nat.le_of_ble_eq_true rfl : _ ≤ 1000000), ?_⟩) | (refine ⟨rfl, ?_⟩)
  | (refine br_t ?_) | (refine br_f ?_) | (with_reducible refine br_n ?_) | (refine br_yes (by first | assumption | exact rfl | omega) ?_) | (refine br_no (by first | assumption | omega) ?_)
  | (with_reducible refine ⟨_, eq_int _ _, ?_⟩) | (with_reducible refine ⟨_, ne_int _ _, ?_⟩) | (with_reducible refine ⟨_, eq_wd _ _, ?_⟩) | (with_reducible refine ⟨_, ne_wd _ _, ?_⟩) | (with_reducible refine ⟨_, eq_str _ _, ?_⟩) | (with_reducible refine ⟨_, ne_str _ _, ?_⟩) | (with_reducible refine ⟨_, in_tup _, ?_⟩) | (with_reducible refine ⟨_, in_lst _, ?_⟩) | (with_reducible refine ⟨_, len_lst', ?_⟩) | (with_reducible refine ⟨_, add_wd (by first | omega | (simp; omega)), ?_⟩)
  | (with_reducible refine ⟨_, opMul_ev (.inr (by omega)), ?_⟩) | (with_reducible refine ⟨_, opMul_ev (.inl (by omega)), ?_⟩) | (with_reducible refine ⟨_, opMod_ev (by first | assumption | omega), ?_⟩) | (with_reducible refine ⟨_, opDiv_ev (by first | assumption | omega), ?_⟩)
  | (refine ⟨_, rfl, ?_⟩) | (refine ⟨_, _, rfl, ?_⟩) | exact rfl)
  | fail)
/-- a def of one list of rows that changes nothing -/
def cW (P : List Row → Prop) (v : List Row → D) (ds : List D) (S : List Ob) : Option (D × List Ob) := match ds with
  | [d] => open Classical in if h : ∃ W, lstOf S d = some (W.map wd) ∧ P W then some (v (choose h), S) else none
  | _ => none
theorem cW_ok {P : List Row → Prop} {v : List Row → D} {S : List Ob} {d : D} {W : List Row} (h : lstOf S d = some (W.map wd)) (hP : P W) : cW P v [d] S = some (v W, S) := by
  have hx : ∃ W, lstOf S d = some (W.map wd) ∧ P W := ⟨W, h, hP⟩
  unfold cW
  simp only [dif_pos hx]
  rw [map_wd_inj (Option.some.inj ((Classical.choose_spec hx).1.symm.trans h))]
theorem cW_some {P : List Row → Prop} {v : List Row → D} {S : List Ob} {d : D} {r : D × List Ob} (h : cW P v [d] S = some r) : ∃ W, lstOf S d = some (W.map wd) ∧ P W ∧ r = (v W, S) := by
  unfold cW at h
  simp only at h
  split at h
  · rename_i hx
    obtain ⟨h1, h2⟩ := Classical.choose_spec hx
    cases h
    exact ⟨_, h1, h2, rfl⟩
  · cases h
theorem cW_one {P : List Row → Prop} {v : List Row → D} {ds : List D} {S : List Ob} {r : D × List Ob} (h : cW P v ds S = some r) : ∃ d, ds = [d] := by
  unfold cW at h
  split at h
  · exact ⟨_, rfl⟩
  · cases h
theorem ded_inj {α β : Type} [DecidableEq α] [DecidableEq β] {f : α → β} (hf : ∀ a b, f a = f b → a = b) (ks : List α) : ded (ks.map f) = (ded ks).map f := by
  induction ks using snoc_ind with
  | h0 => rfl
  | h1 xs r ih =>
    rw [List.map_append, List.map_singleton, ded_snoc, ded_snoc, ih]
    unfold addTo
    by_cases h : r ∈ ded xs
    · rw [if_pos h, if_pos (List.mem_map.mpr ⟨r, h, rfl⟩)]
    · rw [if_neg h, if_neg, List.map_append, List.map_singleton]
      intro q
      obtain ⟨s, h1, h2⟩ := List.mem_map.mp q
      rw [hf _ _ h2] at h1
      exact h h1
/-- the greatest of some lengths -/
theorem max_len {L : List Nat} (hL : 0 < L.length) {b : Nat} (hb : ∀ x ∈ L, x ≤ b) : ∃ M : Nat, maxI (L.map fun x : Nat => (x : Int)) = (M : Nat) ∧ M ∈ L ∧ M ≤ b ∧ ∀ x ∈ L, x ≤ M := by
  obtain ⟨h1, h2⟩ := maxI_mem (L.map fun x : Nat => (x : Int)) (by rw [List.length_map]; exact hL)
  obtain ⟨M, h3, h4⟩ := List.mem_map.mp h1
  refine ⟨M, h4.symm, h3, hb M h3, fun x hx => ?_⟩
  have := h2 _ (List.mem_map.mpr ⟨x, hx, rfl⟩)
  rw [← h4] at this
  omega
theorem intsOf_nats (L : List Nat) : intsOf (L.map fun x : Nat => D.int (x : Nat)) = some (L.map fun x : Nat => (x : Int)) := by
  have := intsOf_ints (L.map fun x : Nat => (x : Int))
  rwa [List.map_map] at this
theorem fMax_nats {S : List Ob} {L : List Nat} (hL : 0 < L.length) : fMax S [.lst (L.map fun x : Nat => D.int (x : Nat))] = some (.int (maxI (L.map fun x : Nat => (x : Int)))) := by
  show (match (lstOf S (.lst _)).bind intsOf with | some ns => _ | none => none) = _
  simp only [lstOf, Option.bind_some, intsOf_nats, List.length_map, hL, if_true]
structure SmallW (W : List Row) : Prop where
  n : W.length ≤ 400
  l : ∀ w ∈ W, w.length ≤ 400
def g__law_in_order : DFS := (sSeq (sAsg 1 (dTree (few dNil)))
    (sSeq (sV [2] (sFor (iRg1 (dCons (dBin opAdd (dCB fMax (dCons (dBin opAdd (dTree (few (dCons (dC (.int 0)) dNil))) (dTree (dLc [3] (iLst (dVar 0)) (gN 3) dYes (dCB fLen (dCons (dVar 3) dNil))))) dNil)) (dC (.int 1))) dNil)) (gN 2) (sW [2] (sAsg 1 (dBin opAdd (dVar 1) (dTree (dCB fSortS (dCons (dTree (dLc [3] (iLst (dVar 0)) (gN 3) (dTest (dBin opEq (dCB fLen (dCons (dVar 3) dNil)) (dVar 2))) (dCB fStr (dCons (dVar 3) dNil)))) dNil))))))))
    (sRet (dVar 1))))
def c__law_in_order := runB 4 g__law_in_order
def grpL (W : List Row) (l : Nat) : List Str := sortS ((W.filter fun r => decide ((r.length : Int) = (l : Int))).map ws)
theorem grpL_len (W : List Row) (l : Nat) : (grpL W l).length ≤ W.length := by
  unfold grpL
  rw [sortS_len, List.length_map]
  exact List.length_filter_le _ _
theorem grpL_all {W : List Row} (hn : W.Nodup) {M : Nat} (hM : ∀ w ∈ W, w.length ≤ M) : (List.range (M + 1)).flatMap (grpL W) = orderS (W.map ws) := by
  refine orderS_uniq ?_ fun a => ?_
  · refine List.pairwise_flatMap.mpr ⟨fun l _ => ?_, ?_⟩
    · refine sortS_lt (n := l) ?_ fun a ha => ?_
      · exact List.pairwise_map.mpr ((hn.filter _).imp fun h e => h (ws_inj e))
      · obtain ⟨r, hr, rfl⟩ := List.mem_map.mp ha
        have := (List.mem_filter.mp hr).2
        rw [ws_len]
        simp at this
        omega
    · refine List.pairwise_lt_range.imp fun {i j} hij x hx y hy => .inl ?_
      obtain ⟨r, hr, rfl⟩ := List.mem_map.mp (mem_sortS.mp hx)
      obtain ⟨q, hq, rfl⟩ := List.mem_map.mp (mem_sortS.mp hy)
      have h1 := (List.mem_filter.mp hr).2
      have h2 := (List.mem_filter.mp hq).2
      rw [ws_len, ws_len]
      simp at h1 h2
      omega
  · rw [List.mem_flatMap]
    constructor
    · rintro ⟨l, _, h⟩
      obtain ⟨r, hr, rfl⟩ := List.mem_map.mp (mem_sortS.mp h)
      exact List.mem_map.mpr ⟨r, (List.mem_filter.mp hr).1, rfl⟩
    · intro h
      obtain ⟨r, hr, rfl⟩ := List.mem_map.mp h
      exact ⟨r.length, List.mem_range.mpr (by have := hM r hr; omega), mem_sortS.mpr (List.mem_map.mpr ⟨r, List.mem_filter.mpr ⟨hr, by simp⟩, rfl⟩)⟩
theorem law_in_order_ok {S : List Ob} {d : D} {W : List Row} (hd : lstOf S d = some (W.map wd)) (hn : W.Nodup) (hs : SmallW W) : c__law_in_order [d] S = some (.lst ((ordR W).map wd), S) := by
  have key : Wp (c__law_in_order [d] S) fun r S' => r = .lst ((ordR W).map wd) ∧ S' = S := by
    have s1 := hs.n
    refine w_run ?_
    unfold g__law_in_order
    repeat' (walk_at "wp")
    refine ⟨_, hd, ?_⟩
    refine lcm_by W wd (fun w => .int (w.length : Nat)) (gv_live hd) (by omega) (fun w hw => ?_) ?_
    · repeat' (walk_at "wp")
      exact ⟨_, len_ws w (Nat.le_trans (hs.l w hw) (by decide)), rfl, rfl⟩
    · repeat' (walk_at "wp")
      refine ⟨_, add_lst (by simp; omega), ?_⟩
      repeat' (walk_at "wp")
      obtain ⟨M, m1, m2, m3, m4⟩ := max_len (L := 0 :: W.map List.length) (by simp) (b := 400) (by
        intro x hx
        rcases List.mem_cons.mp hx with rfl | hx
        · omega
        · obtain ⟨w, hw, rfl⟩ := List.mem_map.mp hx
          exact hs.l w hw)
      have e : fMax S [.lst ([D.int 0] ++ W.map fun w => D.int (w.length : Nat))] = some (.int (M : Nat)) := by
        have := fMax_nats (S := S) (L := 0 :: W.map List.length) (by simp)
        rw [m1] at this
        rw [← this]
        simp [List.map_map, Function.comp_def]
      refine ⟨_, e, ?_⟩
      repeat' (walk_at "wp")
      refine ⟨show M + 1 ≤ 1000000 by omega, ?_⟩
      refine for_by (List.range (M + 1)) (fun i : Nat => D.int (i : Nat)) (fun fd : List Str => [some d, some (.lst (fd.map D.str)), none, none]) (fun _ => S) (fun i fd => fd = (List.range i).flatMap (grpL W)) [] rfl (fun _ _ _ => gv_fix) ?_ ?_
      · rintro i x fd rfl hx
        have hi : i < M + 1 ∧ x = i := by
          obtain ⟨h1, h2⟩ := List.getElem?_eq_some_iff.mp hx
          rw [List.length_range] at h1
          rw [List.getElem_range] at h2
          exact ⟨h1, h2.symm⟩
        obtain ⟨hi, rfl⟩ := hi
        repeat' (walk_at "wp")
        refine ⟨_, hd, ?_⟩
        refine lc_by W wd (fun r => decide ((r.length : Int) = (x : Int))) wd (gv_live hd) (by omega) (fun w hw => ?_) ?_
        · repeat' (walk_at "wp")
          refine ⟨_, len_ws w (Nat.le_trans (hs.l w hw) (by decide)), ?_⟩
          repeat' (walk_at "wp")
          exact fun _ => Wp.of (a := wd w) (S' := S) rfl ⟨rfl, rfl⟩
        · repeat' (walk_at "wp")
          have e2 : fSortS S [.lst ((W.filter fun r => decide ((r.length : Int) = (x : Int))).map wd)] = some ((grpL W x).map D.str) := by
            show ((lstOf S (.lst _)).bind strsOf).map _ = _
            simp only [lstOf, Option.bind_some, strsOf_wd, Option.map_some]
            rfl
          refine ⟨_, e2, ?_⟩
          repeat' (walk_at "wp")
          refine ⟨_, add_lst ?_, ?_⟩
          · have h1 := flat_len (grpL W) 400 (fun l => Nat.le_trans (grpL_len W l) s1) (List.range x)
            have h2 := grpL_len W x
            rw [List.length_range] at h1
            rw [List.length_map, List.length_map]
            have h3 : x * 400 ≤ 400 * 400 := Nat.mul_le_mul_right 400 (by omega)
            omega
          · refine ⟨(List.range (x + 1)).flatMap (grpL W), ?_, rfl, rfl⟩
            rw [List.range_succ, List.flatMap_append, List.map_append]
            simp
            rfl
      · rintro fd rfl
        rw [List.length_range]
        have := grpL_all hn (M := M) fun w hw => m4 _ (List.mem_cons_of_mem _ (List.mem_map.mpr ⟨w, hw, rfl⟩))
        rw [this, ← ordR_ws, map_wd]
        repeat' (walk_at "wp")
  obtain ⟨r, S', e, rfl, rfl⟩ := key
  exact e
def g__law_states : DFS := (sSeq (sAsg 1 dNewK)
    (sSeq (sV [2, 3] (sFor (iLst (dVar 0)) (gN 2) (sW [2, 3] (sV [3] (sFor (iRg1 (dCons (dCB fLen (dCons (dVar 2) dNil)) dNil)) (gN 3) (sW [3] (sDP (dVar 1) (dSlS (dVar 2) dNoPart (dPart (dVar 3))) (dC (.bl true)))))))))
    (sRet (dCall 1 c__law_in_order (dCons (dTree (lockAt (dVar 1) (dLc [4] (iDk .keys (dVar 1)) (gN 4) dYes (dVar 4)))) dNil)))))
def SmallS (W : List Row) : Prop := SmallW W ∧ (headsW W).length ≤ 400
def c__law_states := cW SmallS fun W => .lst ((ordR (headsW W)).map wd)
def keyR (r : Row) : Key := .inr (ws r)
theorem keyR_inj (a b : Row) (h : keyR a = keyR b) : a = b := ws_inj (Sum.inr.inj h)
theorem law_states_frz : ∀ (ds : List D) (S : List Ob) (r : D × List Ob), ds.length = 1 → c__law_states ds S = some r → ∃ r', runB 5 g__law_states ds S = some r' ∧ RzR S r' r := by
  intro ds S r hl h
  obtain ⟨d, rfl⟩ := cW_one h
  obtain ⟨W, h1, ⟨h2, h3⟩, rfl⟩ := cW_some h
  have key : Wp (runB 5 g__law_states [d] S) fun r S' => r = .lst ((ordR (headsW W)).map wd) ∧ ∃ T, S' = S ++ T := by
    have s1 := h2.n
    refine w_run ?_
    unfold g__law_states
    repeat' (walk_at "wp")
    have hd : ∀ T, lstOf (S ++ T) d = some (W.map wd) := fun T => lst_ext h1
    refine ⟨_, hd _, ?_⟩
    refine for_by W wd (fun _ : List Row => [some d, some (.ptr S.length), none, none, none]) (fun L => S ++ [.dK (setK (ded (L.map keyR)))]) (fun i L => L = headsW (W.take i)) [] (by simp) (fun i L _ => gv_live (hd _)) ?_ ?_
    · rintro i w L rfl hw
      have hwl := h2.l w (List.mem_of_getElem? hw)
      repeat' (walk_at "wp")
      refine ⟨_, len_ws w (by omega), ?_⟩
      repeat' (walk_at "wp")
      refine for_by (List.range w.length) (fun i : Nat => D.int (i : Nat)) (fun _ : List Row => [some d, some (.ptr S.length), some (wd w), none, none]) (fun L => S ++ [.dK (setK (ded (L.map keyR)))]) (fun j L => L = headsW (W.take i) ++ (begs w).take j) (headsW (W.take i)) (by simp) (fun _ _ _ => gv_fix) ?_ ?_
      · rintro j x L rfl hx
        obtain ⟨hj, hx2⟩ := List.getElem?_eq_some_iff.mp hx
        rw [List.length_range] at hj
        rw [List.getElem_range] at hx2
        subst hx2
        repeat' (walk_at "wp")
        refine ⟨by rw [ws_len]; exact Nat.le_trans hwl (by decide), ?_⟩
        rw [cut_ws w j (by omega)]
        have sz : (setK (ded ((headsW (W.take i) ++ (begs w).take j).map keyR))).length < sizeLine := by
          unfold setK
          rw [List.length_map]
          have a1 := ded_len ((headsW (W.take i) ++ (begs w).take j).map keyR)
          rw [List.length_map, List.length_append, List.length_take, begs_len] at a1
          have a2 : (headsW (W.take i)).length ≤ (headsW W).length := by
            have e : headsW W = headsW (W.take i) ++ headsW (W.drop i) := by
              simp only [headsW]
              rw [← List.flatMap_append, List.take_append_drop]
            rw [e, List.length_append]
            omega
          have a3 : 1000 ≤ sizeLine := by decide
          omega
        have e : putO (S ++ [.dK (setK (ded ((headsW (W.take i) ++ (begs w).take j).map keyR)))]) (.ptr S.length) (wd (w.take j)) (.bl true) = some (S ++ [.dK (setK (ded ((headsW (W.take i) ++ (begs w).take (j + 1)).map keyR)))]) := by
          have b1 : (begs w)[j]? = some (w.take j) := by
            unfold begs
            rw [List.getElem?_map, List.getElem?_range hj]
            rfl
          have e5 : addTo (ded ((headsW (W.take i) ++ (begs w).take j).map keyR)) (keyR (w.take j)) = ded ((headsW (W.take i) ++ (begs w).take (j + 1)).map keyR) := by
            rw [List.take_add_one, b1, ← List.append_assoc, List.map_append (l₁ := headsW (W.take i) ++ (begs w).take j)]
            exact (ded_snoc _ _).symm
          simp only [putO, end_at, keyOf, sz, if_true]
          rw [end_set, putD_set]
          exact congrArg (fun z => some (S ++ [Ob.dK (setK z)])) e5
        refine ⟨_, e, ?_⟩
        repeat' (walk_at "wp")
        exact ⟨_, rfl, rfl, rfl⟩
      · rintro L rfl
        rw [List.length_range, List.take_of_length_le (l := begs w) (by rw [begs_len]; exact Nat.le_refl _)]
        have e : headsW (W.take (i + 1)) = headsW (W.take i) ++ begs w := by
          rw [List.take_add_one, hw]
          simp [headsW]
        exact ⟨_, rfl, rfl, e.symm⟩
    · rintro L rfl
      rw [List.take_length]
      repeat' (walk_at "wp")
      refine ⟨_, _, rfl, lockO_K end_at, ?_⟩
      rw [end_set]
      repeat' (walk_at "wp")
      refine ⟨_, _, rfl, .inl end_at, ?_⟩
      have ek : ((setK (ded ((headsW W).map keyR))).map fun p => keyD p.1) = (ded (headsW W)).map wd := by
        rw [ded_inj keyR_inj]
        simp [setK, List.map_map, Function.comp_def]
        intro a _
        rfl
      have nd : (ded (headsW W)).length ≤ 400 := Nat.le_trans (ded_len _) h3
      refine lcm_by (ded (headsW W)) wd wd (by rw [← ek]; exact gv_keys end_at) (by omega) (fun x hx => ?_) ?_
      · repeat' (walk_at "wp")
      · refine ⟨_, freeO_K end_at, ?_⟩
        rw [end_set]
        repeat' (walk_at "wp")
        refine .of (law_in_order_ok (W := ded (headsW W)) rfl (nodup_ded _) ⟨nd, fun s hs => ?_⟩) ?_
        · obtain ⟨w, hw, i, hi, rfl⟩ := mem_headsW.mp (mem_ded.mp hs)
          have := h2.l w hw
          rw [List.length_take]
          omega
        · repeat' (walk_at "wp")
          rw [ordR_ext (V := headsW W) fun r => mem_ded]
          exact ⟨rfl, _, rfl⟩
  obtain ⟨r, S', e, rfl, T, rfl⟩ := key
  exact ⟨_, e, RzR.same (rz_bnd _ (rows_bnd _ _))⟩
theorem mul2 (S : List Ob) (a : Int) : opMul S (.int a) (.int 2) = some (.int (a * 2)) := opMul_ev (.inr ⟨by omega, by omega⟩)
def g__law_is_full : DFS := (sSeq (sAsg 1 (dCB fMax (dCons (dTree (dLc [3] (iLst (dVar 0)) (gN 3) dYes (dCB fLen (dCons (dVar 3) dNil)))) dNil)))
    (sSeq (sAsg 2 (dC (.int 0)))
    (sSeq (sV [3, 4, 5] (sFor (iLst (dVar 0)) (gN 3) (sW [3, 4, 5] (sSeq (sAsg 4 (dC (.int 1)))
    (sSeq (sV [5] (sFor (iRg1 (dCons (dBin opSub (dVar 1) (dCB fLen (dCons (dVar 3) dNil))) dNil)) (gN 5) (sW [5] (sAsg 4 (dBin opMul (dVar 4) (dC (.int 2)))))))
    (sAsg 2 (dBin opAdd (dVar 2) (dVar 4))))))))
    (sSeq (sAsg 6 (dC (.int 1)))
    (sSeq (sV [5] (sFor (iRg1 (dCons (dVar 1) dNil)) (gN 5) (sW [5] (sAsg 6 (dBin opMul (dVar 6) (dC (.int 2)))))))
    (sRet (dBin opEq (dVar 2) (dVar 6))))))))
def c__law_is_full := runB 7 g__law_is_full
open Tr in
theorem law_is_full_ok {S : List Ob} {t : Tr} (hk : ok t) (h2 : 2 ≤ size t) (hs : SmallW (words t)) : ∃ b, c__law_is_full [.lst ((words t).map wd)] S = some (.bl b, S) ∧ (b = true ↔ full t) := by
  have key : Wp (c__law_is_full [.lst ((words t).map wd)] S) fun r S' => S' = S ∧ ∃ b, r = .bl b ∧ (b = true ↔ full t) := by
    have s1 := hs.n
    have hsz := Tr.words_len t
    refine w_run ?_
    unfold g__law_is_full
    repeat' (walk_at "wp")
    refine lcm_by (words t) wd (fun w => .int (w.length : Nat)) gv_lst (by omega) (fun w hw => ?_) ?_
    · repeat' (walk_at "wp")
      exact ⟨_, len_ws w (Nat.le_trans (hs.l w hw) (by decide)), rfl, rfl⟩
    · repeat' (walk_at "wp")
      obtain ⟨M, m1, m2, m3, m4⟩ := max_len (L := (words t).map List.length) (by rw [List.length_map]; omega) (b := 400) (by
        intro x hx
        obtain ⟨w, hw, rfl⟩ := List.mem_map.mp hx
        exact hs.l w hw)
      have e : fMax S [.lst ((words t).map fun w => D.int (w.length : Nat))] = some (.int (M : Nat)) := by
        have := fMax_nats (S := S) (L := (words t).map List.length) (by rw [List.length_map]; omega)
        rw [m1] at this
        rw [← this]
        simp [List.map_map, Function.comp_def]
      have hM : ∀ w ∈ words t, w.length ≤ M := fun w hw => m4 _ (List.mem_map.mpr ⟨w, hw, rfl⟩)
      refine ⟨_, e, ?_⟩
      repeat' (walk_at "wp")
      refine for_by (words t) wd (fun a : Nat => [some (.lst ((words t).map wd)), some (.int (M : Nat)), some (.int (a : Nat)), none, none, none, none]) (fun _ => S) (fun i a => a = (((words t).take i).map fun w => 2 ^ (M - w.length)).sum) 0 rfl (fun _ _ _ => gv_lst) ?_ ?_
      · rintro i w a rfl hw
        have hwm := List.mem_of_getElem? hw
        have hwl := hM w hwm
        repeat' (walk_at "wp")
        refine ⟨_, len_ws w (by omega), ?_⟩
        have e1 : opSub S (.int (M : Nat)) (.int (w.length : Nat)) = some (.int ((M - w.length : Nat) : Int)) := by
          show some (D.int _) = _
          congr 2
          omega
        refine ⟨_, e1, ?_⟩
        repeat' (walk_at "wp")
        refine for_by (List.range (M - w.length)) (fun i : Nat => D.int (i : Nat)) (fun b : Nat => [some (.lst ((words t).map wd)), some (.int (M : Nat)), some (.int (((((words t).take i).map fun w => 2 ^ (M - w.length)).sum : Nat) : Int)), some (wd w), some (.int (b : Nat)), none, none]) (fun _ => S) (fun j b => b = 2 ^ j) 1 rfl (fun _ _ _ => gv_fix) ?_ ?_
        · rintro j x b rfl _
          repeat' (walk_at "wp")
        · rintro b rfl
          rw [List.length_range]
          repeat' (walk_at "wp")
          rw [List.take_add_one, hw]
          simp
      · rintro a rfl
        rw [List.take_length]
        repeat' (walk_at "wp")
        refine for_by (List.range M) (fun i : Nat => D.int (i : Nat)) (fun b : Nat => [some (.lst ((words t).map wd)), some (.int (M : Nat)), some (.int ((((words t).map fun w => 2 ^ (M - w.length)).sum : Nat) : Int)), none, none, none, some (.int (b : Nat))]) (fun _ => S) (fun j b => b = 2 ^ j) 1 rfl (fun _ _ _ => gv_fix) ?_ ?_
        · rintro j x b rfl _
          repeat' (walk_at "wp")
        · rintro b rfl
          rw [List.length_range]
          have hh : hgt t ≤ M := Tr.hgt_le hk hM
          have k1 := kraft_sum t M hh
          have k2 := (kraft_le t M hh).2
          rw [k1]
          repeat' (walk_at "wp")
          rw [decide_eq_true_iff, ← k2]
          omega
  obtain ⟨r, S', e, rfl, b, rfl, hb⟩ := key
  exact ⟨b, e, hb⟩
end
end DL


set_option Elab.async false
set_option linter.all false
set_option maxRecDepth 100000
set_option maxHeartbeats 4000000
/-! P14: repr, lists compared. -/
namespace DL
open PySem PySem.Spec PyProof.Rows L2
noncomputable section
local macro_rules | `(tactic| walk_at "wp") => `(tactic| first
  | (with_reducible first | apply w_seq | apply w_sV | apply w_sW | apply w_if | apply w_asg | apply w_ret | apply w_drop | apply w_sNil | apply w_test | apply w_not | apply w_bin | apply w_c | apply w_nil | apply w_cons | apply w_few | apply w_tree | apply w_new | apply w_tup | apply w_cb | apply w_call | apply w_isi | apply w_fld | apply w_nopart | apply w_part | apply w_slL | apply w_slS | apply w_dget | apply w_newK | apply w_newT | apply w_app | apply w_lst0 | apply w_prop | apply w_ownE | apply w_ownN | apply w_catN | apply w_get1 | apply w_get2 | apply w_and | apply w_or | apply w_andV | apply w_orV | apply w_notV | apply w_dif | apply w_retN | apply w_par | apply w_gN | apply w_gsNil | apply w_gsCons | apply w_gSetL | apply w_asgG | apply w_sFld | apply w_sDP | apply w_iLst | apply w_iTu | apply w_iSt | apply w_iRg1 | apply w_iRg2 | apply w_for | apply w_lc | apply w_lock | apply w_iDk | apply w_join | apply w_meth | apply nxt_nx | apply nxt_rt)
  | (with_reducible refine w_var (by with_unfolding_all rfl) ?_) | (with_reducible refine w_gTu (by with_unfolding_all rfl) (by with_unfolding_all rfl) ?_) | (with_reducible refine w_aug (by with_unfolding_all rfl) ?_)
  | ((fail_if_success (with_reducible apply wp_id)); first
  | (refine ⟨lenOk (Nat.le_of_ble_eq_true rfl), ?_⟩) | (refine ⟨show _ ≤ 1000000 by omega, ?_⟩) | (refine ⟨(Nat.le_of_ble_eq_true rfl : _ ≤ 1000000), ?_⟩) | (refine ⟨rfl, ?_⟩)
  | (refine br_t ?_) | (refine br_f ?_) | (with_reducible refine br_n ?_) | (refine br_yes (by first | assumption | exact rfl | omega) ?_) | (refine br_no (by first | assumption | omega) ?_)
  | (with_reducible refine ⟨_, eq_int _ _, ?_⟩) | (with_reducible refine ⟨_, ne_int _ _, ?_⟩) | (with_reducible refine ⟨_, eq_wd _ _, ?_⟩) | (with_reducible refine ⟨_, ne_wd _ _, ?_⟩) | (with_reducible refine ⟨_, eq_str _ _, ?_⟩) | (with_reducible refine ⟨_, ne_str _ _, ?_⟩) | (with_reducible refine ⟨_, in_tup _, ?_⟩) | (with_reducible refine ⟨_, in_lst _, ?_⟩) | (with_reducible refine ⟨_, len_lst', ?_⟩) | (with_reducible refine ⟨_, add_wd (by first | omega | (simp; omega)), ?_⟩)
  | (with_reducible refine ⟨_, opMul_ev (.inr (by omega)), ?_⟩) | (with_reducible refine ⟨_, opMul_ev (.inl (by omega)), ?_⟩) | (with_reducible refine ⟨_, opMod_ev (by first | assumption | omega), ?_⟩) | (with_reducible refine ⟨_, opDiv_ev (by first | assumption | omega), ?_⟩)
  | (refine ⟨_, rfl, ?_⟩) | (refine ⟨_, _, rfl, ?_⟩) | exact rfl)
  | fail)
structure Nice (w : Nat) (p : PyData) : Prop where
  s : p.showable = true
  d : p.hasDict = false
  l : p.leavesShort 60 = true
  h : p.depth ≤ 50
  w : p.weight ≤ w
structure NiceA (w : Nat) (h : Nat) (ps : List PyData) : Prop where
  s : PyData.showableAll ps = true
  d : PyData.hasDictAll ps = false
  l : PyData.leavesShortAll 60 ps = true
  h : PyData.depthAll ps ≤ h
  w : PyData.weightAll ps ≤ w
theorem niceA_nil : NiceA 0 0 [] := ⟨by simp only [PyData.showableAll], by simp only [PyData.hasDictAll], by simp only [PyData.leavesShortAll], by simp [PyData.depthAll], by simp [PyData.weightAll]⟩
theorem niceA_cons {w v h : Nat} {p : PyData} {ps : List PyData} (a : Nice w p) (hp : p.depth ≤ h) (b : NiceA v h ps) : NiceA (w + 1 + v) h (p :: ps) := by
  refine ⟨by simp only [PyData.showableAll, a.s, b.s, Bool.and_self], by simp only [PyData.hasDictAll, a.d, b.d, Bool.or_self], by simp only [PyData.leavesShortAll, a.l, b.l, Bool.and_self], ?_, ?_⟩
  · have := b.h
    simp only [PyData.depthAll]
    omega
  · have := b.w
    have := a.w
    simp only [PyData.weightAll]
    omega
theorem nice_list {w h : Nat} {ps : List PyData} (b : NiceA w h ps) (hh : h < 50) : Nice (w + 1) (.list ps) := by
  have h1 := b.h
  have h2 := b.w
  refine ⟨by simp only [PyData.showable, b.s], by simp only [PyData.hasDict, b.d], by simp only [PyData.leavesShort, b.l], ?_, ?_⟩
  · simp only [PyData.depth]
    omega
  · simp only [PyData.weight]
    omega
theorem nice_tuple {w h : Nat} {ps : List PyData} (b : NiceA w h ps) (hh : h < 50) : Nice (w + 1) (.tuple ps) := by
  have h1 := b.h
  have h2 := b.w
  refine ⟨by simp only [PyData.showable, b.s], by simp only [PyData.hasDict, b.d], by simp only [PyData.leavesShort, b.l], ?_, ?_⟩
  · simp only [PyData.depth]
    omega
  · simp only [PyData.weight]
    omega
theorem nice_row (b : Row) : Nice (b.length + 1) (.str (ws b)) ∧ (PyData.str (ws b)).depth = 0 := by
  refine ⟨⟨by simp only [PyData.showable], by simp only [PyData.hasDict], ?_, by simp [PyData.depth], ?_⟩, by simp [PyData.depth]⟩
  · simp only [PyData.leavesShort, List.all_eq_true, decide_eq_true_eq]
    intro c hc
    obtain ⟨x, _, rfl⟩ := List.mem_map.mp (show c ∈ b.map (fun x : Bool => if x then 49 else 48) from by simpa [ws] using hc)
    cases x <;> decide
  · simp only [PyData.weight]
    have : (ws b).cps.size = b.length := ws_len b
    omega
theorem nice_bool (b : Bool) : Nice 2 (.bool b) ∧ (PyData.bool b).depth = 0 := by
  refine ⟨⟨by simp only [PyData.showable], by simp only [PyData.hasDict], by simp only [PyData.leavesShort], by simp [PyData.depth], by simp [PyData.weight]⟩, by simp [PyData.depth]⟩
def rowsP (A : List Row) : PyData := .list ((A.map ws).map PyData.str)
theorem niceA_rows {m : Nat} : ∀ {A : List Row}, (∀ a ∈ A, a.length ≤ m) → NiceA (A.length * (m + 2)) 0 ((A.map ws).map PyData.str)
  | [], _ => by
    have := niceA_nil
    simpa using this
  | a :: A, h => by
    have ih := niceA_rows (A := A) fun x hx => h x (List.mem_cons_of_mem _ hx)
    have h1 := nice_row a
    have h2 := niceA_cons h1.1 (Nat.le_of_eq h1.2) ih
    refine ⟨h2.s, h2.d, h2.l, h2.h, Nat.le_trans h2.w ?_⟩
    have := h a (List.mem_cons_self ..)
    rw [List.length_cons, Nat.succ_mul]
    omega
theorem nice_rows {m : Nat} {A : List Row} (h : ∀ a ∈ A, a.length ≤ m) : Nice (A.length * (m + 2) + 1) (rowsP A) := nice_list (niceA_rows h) (by omega)
theorem rows_depth {m : Nat} {A : List Row} (h : ∀ a ∈ A, a.length ≤ m) : (rowsP A).depth ≤ 1 := by
  have := (niceA_rows h).h
  unfold rowsP
  simp only [PyData.depth]
  omega
theorem Nice.ok {w : Nat} {p : PyData} (n : Nice w p) (hw : w ≤ 200000) : okP p := by
  refine ⟨n.s, n.d, by have := n.h; omega, ?_⟩
  have h1 := PyData.shown_le 60 (by omega) p n.l
  have h2 := n.w
  have h3 : 62 * 200000 + 60 ≤ sizeLine := by decide
  omega
theorem repr_ok {S : List Ob} {d : D} {p : PyData} {w : Nat} (h : toP S 60 d = some p) (n : Nice w p) (hw : w ≤ 200000) : fRepr S [d] = some (.str p.shown) := by
  show (toP S 60 d).bind _ = _
  rw [h, Option.bind_some, if_pos (n.ok hw)]
theorem toP_lst {S : List Ob} {n : Nat} {d : D} {ds : List D} {ps : List PyData} (hd : lstOf S d = some ds) (h : ds.mapM (toP S n) = some ps) : toP S (n + 1) d = some (.list ps) := by
  have ht : tupOf d = none := by cases d <;> first | rfl | cases hd
  cases d with
  | lst xs =>
    cases hd
    show ((ds.mapM (toP S n)).map PyData.list) = _
    rw [h]
    rfl
  | ptr k =>
    have e : toP S (n + 1) (.ptr k) = (match lstOf S (.ptr k) with | some xs => (xs.mapM (toP S n)).map PyData.list | none => none) := rfl
    rw [e, hd]
    simp only [h, Option.map_some]
  | _ => cases hd
theorem toP_rows {S : List Ob} {n : Nat} {d : D} {A : List Row} (hd : lstOf S d = some (A.map wd)) : toP S (n + 2) d = some (rowsP A) := by
  refine toP_lst hd ?_
  rw [← map_wd]
  exact mapM_strs S n _
theorem eqvAll_rows (A B : List Row) : PyData.eqv (rowsP A) (rowsP B) = decide (A = B) := by
  unfold rowsP
  simp only [PyData.eqv, eqvAll_strs]
  refine decide_eq_decide.mpr ⟨fun h => ?_, fun h => by rw [h]⟩
  have h2 : A.map wd = B.map wd := by rw [← map_wd, ← map_wd, h]
  exact map_wd_inj h2
theorem shaped_rows (A : List Row) : SeqAt.shaped (rowsP A) = true := by
  unfold SeqAt.shaped rowsP
  rw [Bool.and_eq_true_iff]
  refine ⟨canLay_strs A, decide_eq_true ?_⟩
  have := depth_strs (A.map ws)
  simp only [PyData.depth]
  omega
theorem eqv_lists {S : List Ob} {d e : D} {A B : List Row} (hd : lstOf S d = some (A.map wd)) (he : lstOf S e = some (B.map wd)) : eqv S d e = some (decide (A = B)) := by
  have s1 : sclD d = none := by cases d <;> first | rfl | cases hd
  have h1 := toP_rows (n := 58) hd
  have h2 := toP_rows (n := 58) he
  unfold eqv
  rw [s1]
  simp only [h1, h2, shaped_rows, Bool.and_self, if_true, eqvAll_rows]
theorem ne_lists {S : List Ob} {d e : D} {A B : List Row} (hd : lstOf S d = some (A.map wd)) (he : lstOf S e = some (B.map wd)) : opNe S d e = some (.bl (!decide (A = B))) := by
  unfold opNe
  rw [eqv_lists hd he]
  rfl
theorem eq_lists {S : List Ob} {d e : D} {A B : List Row} (hd : lstOf S d = some (A.map wd)) (he : lstOf S e = some (B.map wd)) : opEq S d e = some (.bl (decide (A = B))) := by
  unfold opEq
  rw [eqv_lists hd he]
  rfl
theorem ne_str_self (S : List Ob) (x : Str) : opNe S (.str x) (.str x) = some (.bl false) := by
  have h : opNe S (.str x) (.str x) = some (.bl (!decide (V.str x = V.str x))) := rfl
  rw [h, decide_eq_true rfl]
  rfl
/-! the code of a tree -/
open Tr in
theorem headsW_words {t : Tr} (hk : ok t) (r : Row) : r ∈ headsW (words t) ↔ r ∈ heads t := by rw [mem_headsW, mem_heads hk]
theorem nextW_len {W hs : List Row} : (hs.flatMap (entW W)).length = (hs.map fun s => (if (nextW W s false).isSome then 1 else 0) + (if (nextW W s true).isSome then 1 else 0)).sum := by
  induction hs with
  | nil => rfl
  | cons s hs ih =>
    rw [List.flatMap_cons, List.length_append, ih, List.map_cons, List.sum_cons]
    congr 1
    unfold entW
    cases h0 : nextW W s false <;> cases h1 : nextW W s true <;> simp [h0, h1]
open Tr in
/-- the next step, by the tree: is it there? -/
def step? : Tr → Row → Bool → Bool
  | nd a b, [], x => if x then decide (b ≠ no) else decide (a ≠ no)
  | nd a b, y :: s, x => step? (if y then b else a) s x
  | _, _, _ => false
open Tr in
theorem live_word : ∀ {t : Tr}, ok t → t ≠ no → ∃ w, w ∈ words t
  | no, _, h => absurd rfl h
  | lf, _, _ => ⟨[], by simp [words]⟩
  | nd a b, ⟨h1, h2, h3⟩, _ => by
    by_cases hp : a = no
    · obtain ⟨w, hw⟩ := live_word h2 fun e => h3 ⟨hp, e⟩
      exact ⟨true :: w, mem_words_nd.mpr ⟨true, w, rfl, hw⟩⟩
    · obtain ⟨w, hw⟩ := live_word h1 hp
      exact ⟨false :: w, mem_words_nd.mpr ⟨false, w, rfl, hw⟩⟩
open Tr in
theorem step_ok : ∀ {t : Tr} (_ : ok t) {s : Row} (_ : s ∈ heads t) (x : Bool), step? t s x = true ↔ (s ++ [x] ∈ words t ∨ s ++ [x] ∈ heads t)
  | no, _, s, h, x => by simp [heads] at h
  | lf, _, s, h, x => by simp [heads] at h
  | nd a b, ⟨ha, hb, hn⟩, [], h, x => by
    rw [List.nil_append, mem_words_nd, mem_heads_nd]
    have key : ∀ c : Tr, ok c → (decide (c ≠ no) = true ↔ ([] ∈ words c ∨ [] ∈ heads c)) := by
      intro c hc
      cases c with
      | no => simp [words, heads]
      | lf => simp [words]
      | nd p q => simp [heads]
    cases x with
    | false =>
      rw [show step? (nd a b) [] false = decide (a ≠ no) from rfl, key a ha]
      constructor
      · rintro (h | h)
        · exact .inl ⟨false, [], rfl, h⟩
        · exact .inr (.inr ⟨false, [], rfl, h⟩)
      · rintro (⟨x, v, e, h⟩ | h | ⟨x, v, e, h⟩)
        · cases e
          exact .inl h
        · cases h
        · cases e
          exact .inr h
    | true =>
      rw [show step? (nd a b) [] true = decide (b ≠ no) from rfl, key b hb]
      constructor
      · rintro (h | h)
        · exact .inl ⟨true, [], rfl, h⟩
        · exact .inr (.inr ⟨true, [], rfl, h⟩)
      · rintro (⟨x, v, e, h⟩ | h | ⟨x, v, e, h⟩)
        · cases e
          exact .inl h
        · cases h
        · cases e
          exact .inr h
  | nd a b, ⟨ha, hb, hn⟩, y :: s, h, x => by
    rw [List.cons_append, mem_words_nd, mem_heads_nd]
    rcases mem_heads_nd.mp h with h | ⟨z, v, e, h⟩
    · cases h
    · obtain ⟨rfl, rfl⟩ := List.cons.inj e
      have ih : step? (if y then b else a) s x = true ↔ (s ++ [x] ∈ words (if y then b else a) ∨ s ++ [x] ∈ heads (if y then b else a)) := by
        cases y with
        | false => exact step_ok (t := a) ha h x
        | true => exact step_ok (t := b) hb h x
      rw [show step? (nd a b) (y :: s) x = step? (if y then b else a) s x from rfl, ih]
      constructor
      · rintro (h | h)
        · exact .inl ⟨y, _, rfl, h⟩
        · exact .inr (.inr ⟨y, _, rfl, h⟩)
      · rintro (⟨z, v, e, h⟩ | h | ⟨z, v, e, h⟩)
        · obtain ⟨rfl, rfl⟩ := List.cons.inj e
          exact .inl h
        · cases h
        · obtain ⟨rfl, rfl⟩ := List.cons.inj e
          exact .inr h
open Tr in
theorem ways_sum : ∀ t : Tr, ((heads t).map fun s => (if step? t s false then 1 else 0) + (if step? t s true then 1 else 0)).sum = ways t
  | no => rfl
  | lf => rfl
  | nd a b => by
    have e0 : ((fun s => (if step? (nd a b) s false then 1 else 0) + (if step? (nd a b) s true then 1 else 0)) ∘ List.cons false) = fun s => (if step? a s false then 1 else 0) + (if step? a s true then 1 else 0) := rfl
    have e1 : ((fun s => (if step? (nd a b) s false then 1 else 0) + (if step? (nd a b) s true then 1 else 0)) ∘ List.cons true) = fun s => (if step? b s false then 1 else 0) + (if step? b s true then 1 else 0) := rfl
    simp only [heads, List.map_cons, List.sum_cons, List.map_append, List.sum_append_nat, List.map_map, e0, e1, ways_sum a, ways_sum b, ways]
    by_cases ha : a = no <;> by_cases hb : b = no <;> simp [ha, hb, step?, ways] <;> omega
open Tr in
theorem nextW_some {t : Tr} (hk : ok t) {s : Row} (hs : s ∈ heads t) (x : Bool) : (nextW (words t) s x).isSome = step? t s x := by
  unfold nextW
  by_cases h1 : s ++ [x] ∈ words t
  · rw [if_pos h1, (step_ok hk hs x).mpr (.inl h1)]
    rfl
  · rw [if_neg h1]
    by_cases h2 : s ++ [x] ∈ headsW (words t)
    · rw [if_pos h2, (step_ok hk hs x).mpr (.inr ((headsW_words hk _).mp h2))]
      rfl
    · rw [if_neg h2]
      symm
      rw [Option.isSome_none, ← Bool.not_eq_true, step_ok hk hs x]
      rintro (h | h)
      · exact h1 h
      · exact h2 ((headsW_words hk _).mpr h)
open Tr in
theorem heads_perm {t : Tr} (hk : ok t) : (ordR (headsW (words t))).Perm (heads t) :=
  (List.perm_ext_iff_of_nodup (nodup_ordR _) (nodup_heads t)).mpr fun r => by rw [mem_ordR, headsW_words hk]
open Tr in
theorem ways_len {t : Tr} (hk : ok t) : (waysW (words t)).length = ways t := by
  unfold waysW
  rw [nextW_len, ((heads_perm hk).map _).sum_nat, ← ways_sum]
  congr 1
  refine List.map_congr_left fun s hs => ?_
  rw [nextW_some hk hs, nextW_some hk hs]
open Tr in
theorem is_full_tree {S : List Ob} {t : Tr} (hk : ok t) (h1 : t ≠ no) (h : (heads t).length < 1000000) : ∃ b, c_is_full [codeW (words t)] S = some (.bl b, S) ∧ P_full [codeW (words t)] S = some (.bl b, S) ∧ (b = true ↔ full t) := by
  have hl : ((ordR (headsW (words t))).map ws).length = (heads t).length := by rw [List.length_map, (heads_perm hk).length_eq]
  refine ⟨_, is_full_ok (by rw [hl]; exact h), full_ok (by rw [hl]; exact h), ?_⟩
  rw [decide_eq_true_iff, hl, ways_len hk, ← (ways_le t).2 h1]
  omega
theorem words_codeW {S : List Ob} (W : List Row) : P_words [codeW W] S = some (.lst ((ordR W).map wd), S) := by
  have := words_ok (S := S) (rows := (ordR W).map ws) (heads := (ordR (headsW W)).map ws) (ways := waysW W)
  rwa [map_wd] at this
theorem states_codeW {S : List Ob} (W : List Row) : P_states [codeW W] S = some (.lst ((ordR (headsW W)).map wd), S) := by
  have := states_ok (S := S) (rows := (ordR W).map ws) (heads := (ordR (headsW W)).map ws) (ways := waysW W)
  rwa [map_wd] at this
theorem wordsN_codeW {S : List Ob} (W : List Row) : PN_words [codeW W] S = some (.ptr S.length, S ++ [.lst ((ordR W).map wd)]) := by
  have := wordsN_ok (S := S) (rows := (ordR W).map ws) (heads := (ordR (headsW W)).map ws) (ways := waysW W)
  rwa [map_wd] at this
theorem statesN_codeW {S : List Ob} (W : List Row) : PN_states [codeW W] S = some (.ptr S.length, S ++ [.lst ((ordR (headsW W)).map wd)]) := by
  have := statesN_ok (S := S) (rows := (ordR W).map ws) (heads := (ordR (headsW W)).map ws) (ways := waysW W)
  rwa [map_wd] at this
theorem codeW_eq {W V : List Row} : codeW W = codeW V ↔ ∀ r, r ∈ W ↔ r ∈ V := by
  constructor
  · intro h r
    rw [codeW_obj, codeW_obj] at h
    injection h with h1 h2
    have h3 := (List.cons.inj h2).1
    have h4 : D.tup ((ordR W).map wd) = D.tup ((ordR V).map wd) := (Prod.mk.inj h3).2
    injection h4 with h5
    have h6 := map_wd_inj h5
    rw [← mem_ordR (W := W), h6, mem_ordR]
  · exact codeW_ext
theorem eq_codeW {S : List Ob} (W V : List Row) : Q_0 [codeW W, codeW V] S = some (.bl (decide (ordR W = ordR V)), S) := by
  have := eq_code (S := S) (as := ordR W) (bs := ordR V) (h1 := (ordR (headsW W)).map ws) (h2 := (ordR (headsW V)).map ws) (w1 := waysW W) (w2 := waysW V)
  refine this.trans ?_
  congr 3
  refine decide_eq_decide.mpr ⟨fun h => ?_, fun h => by rw [h]⟩
  have h2 : (ordR W).map wd = (ordR V).map wd := by rw [← map_wd, ← map_wd, h]
  exact map_wd_inj h2
theorem ordR_eq {W V : List Row} : ordR W = ordR V ↔ ∀ r, r ∈ W ↔ r ∈ V := by
  constructor
  · intro h r
    rw [← mem_ordR (W := W), h, mem_ordR]
  · exact ordR_ext
end
end DL


set_option Elab.async false
set_option linter.all false
set_option maxRecDepth 100000
set_option maxHeartbeats 4000000
/-! K02m: the law's mathematics. -/
namespace DL
open PySem PySem.Spec PyProof.Rows L2
noncomputable section
local macro_rules | `(tactic| walk_at "wp") => `(tactic| first
  | (with_reducible first | apply w_seq | apply w_sV | apply w_sW | apply w_if | apply w_asg | apply w_ret | apply w_drop | apply w_sNil | apply w_test | apply w_not | apply w_bin | apply w_c | apply w_nil | apply w_cons | apply w_few | apply w_tree | apply w_new | apply w_tup | apply w_cb | apply w_call | apply w_isi | apply w_fld | apply w_nopart | apply w_part | apply w_slL | apply w_slS | apply w_dget | apply w_newK | apply w_newT | apply w_app | apply w_lst0 | apply w_prop | apply w_ownE | apply w_ownN | apply w_catN | apply w_get1 | apply w_get2 | apply w_and | apply w_or | apply w_andV | apply w_orV | apply w_notV | apply w_dif | apply w_retN | apply w_par | apply w_gN | apply w_gsNil | apply w_gsCons | apply w_gSetL | apply w_asgG | apply w_sFld | apply w_sDP | apply w_iLst | apply w_iTu | apply w_iSt | apply w_iRg1 | apply w_iRg2 | apply w_for | apply w_lc | apply w_lock | apply w_iDk | apply w_join | apply w_meth | apply nxt_nx | apply nxt_rt)
  | (with_reducible refine w_var (by with_unfolding_all rfl) ?_) | (with_reducible refine w_gTu (by with_unfolding_all rfl) (by with_unfolding_all rfl) ?_) | (with_reducible refine w_aug (by with_unfolding_all rfl) ?_)
  | ((fail_if_success (with_reducible apply wp_id)); first
  | (refine ⟨lenOk (Nat.le_of_ble_eq_true rfl), ?_⟩) | (refine ⟨show _ ≤ 1000000 by omega, ?_⟩) | (refine ⟨(Nat.le_of_ble_eq_true rfl : _ ≤ 1000000), ?_⟩) | (refine ⟨rfl, ?_⟩)
  | (refine br_t ?_) | (refine br_f ?_) | (with_reducible refine br_n ?_) | (refine br_yes (by first | assumption | exact rfl | omega) ?_) | (refine br_no (by first | assumption | omega) ?_)
  | (with_reducible refine ⟨_, eq_int _ _, ?_⟩) | (with_reducible refine ⟨_, ne_int _ _, ?_⟩) | (with_reducible refine ⟨_, eq_wd _ _, ?_⟩) | (with_reducible refine ⟨_, ne_wd _ _, ?_⟩) | (with_reducible refine ⟨_, eq_str _ _, ?_⟩) | (with_reducible refine ⟨_, ne_str _ _, ?_⟩) | (with_reducible refine ⟨_, in_tup _, ?_⟩) | (with_reducible refine ⟨_, in_lst _, ?_⟩) | (with_reducible refine ⟨_, len_lst', ?_⟩) | (with_reducible refine ⟨_, add_wd (by first | omega | (simp; omega)), ?_⟩)
  | (with_reducible refine ⟨_, opMul_ev (.inr (by omega)), ?_⟩) | (with_reducible refine ⟨_, opMul_ev (.inl (by omega)), ?_⟩) | (with_reducible refine ⟨_, opMod_ev (by first | assumption | omega), ?_⟩) | (with_reducible refine ⟨_, opDiv_ev (by first | assumption | omega), ?_⟩)
  | (refine ⟨_, rfl, ?_⟩) | (refine ⟨_, _, rfl, ?_⟩) | exact rfl)
  | fail)
theorem CodeOk.perm {W V : List Row} (h : CodeOk W) (p : V.Perm W) : CodeOk V := by
  refine ⟨⟨by rw [p.length_eq]; exact h.g.two, by rw [p.length_eq]; exact h.g.many, fun w hw => h.g.len w (p.mem_iff.mp hw), fun w hw => h.g.ne w (p.mem_iff.mp hw), p.nodup_iff.mpr h.g.nd, fun w hw i hi hm => h.g.pf w (p.mem_iff.mp hw) i hi (p.mem_iff.mp hm)⟩, ?_⟩
  have e : ∀ X : List Row, (headsW X).length = (X.map fun w => w.length).sum := fun X => by
    rw [headsW, List.length_flatMap]
    congr 1
    exact List.map_congr_left fun w _ => begs_len w
  have h2 := h.h
  rw [e] at h2 ⊢
  rw [(p.map _).sum_nat]
  exact h2
open Tr in
theorem codeOk_tree {t : Tr} (hk : ok t) (h2 : 2 ≤ size t) (h3 : size t ≤ 60) (h4 : hgt t ≤ 60) : CodeOk (words t) := by
  have hl := Tr.words_len t
  refine ⟨⟨by omega, by omega, fun w hw => by have := len_hgt hw; omega, fun w hw e => ?_, nodup_words t, fun w hw i hi => no_pre i hw hi⟩, ?_⟩
  · subst e
    cases t with
    | no => simp [size] at h2
    | lf => simp [size] at h2
    | nd a b =>
      obtain ⟨x, v, e, _⟩ := mem_words_nd.mp hw
      cases e
  · have e : ∀ X : List Row, (∀ w ∈ X, w.length ≤ 60) → (headsW X).length ≤ X.length * 60 := by
      intro X
      induction X with
      | nil => simp [headsW]
      | cons w X ih =>
        intro h
        rw [headsW, List.flatMap_cons, List.length_append, begs_len, List.length_cons, Nat.succ_mul]
        have h1 := ih fun v hv => h v (List.mem_cons_of_mem _ hv)
        have h5 := h w (List.mem_cons_self ..)
        rw [headsW] at h1
        omega
    have := e (words t) fun w hw => by have := len_hgt hw; omega
    have h6 : (words t).length * 60 ≤ 60 * 60 := Nat.mul_le_mul_right _ (by omega)
    omega
theorem filter_at {L : List Row} (hn : L.Nodup) {j : Nat} {w : Row} (hj : L[j]? = some w) : (L.filter fun x => !decide (x = w)) = L.take j ++ L.drop (j + 1) := by
  obtain ⟨hlt, e⟩ := List.getElem?_eq_some_iff.mp hj
  have split : L = L.take j ++ w :: L.drop (j + 1) := by
    rw [← e, ← List.drop_eq_getElem_cons hlt, List.take_append_drop]
  have hn2 := hn
  rw [split, List.nodup_append] at hn2
  obtain ⟨_, h2, h3⟩ := hn2
  rw [List.nodup_cons] at h2
  conv => lhs; rw [split]
  rw [List.filter_append, List.filter_cons_of_neg (by simp)]
  congr 1
  · exact List.filter_eq_self.mpr fun a ha => by
      have := h3 a ha w (List.mem_cons_self ..)
      simp [this]
  · exact List.filter_eq_self.mpr fun a ha => by
      have : a ≠ w := fun e => h2.1 (e ▸ ha)
      simp [this]
open Tr in
/-- words near a code's -/
theorem near {t : Tr} (hk : ok t) (h2 : 2 ≤ size t) (h3 : size t ≤ 50) (h4 : hgt t ≤ 50) {w : Row} (hw : w ∈ words t) :
    CodeOk (((words t).filter fun x => !decide (x = w)) ++ [w ++ [false], w ++ [true]]) ∧ CodeOk (((words t).filter fun x => !decide (x = w)) ++ [w ++ [true]]) ∧ (1 < ((words t).filter fun x => !decide (x = w)).length → CodeOk ((words t).filter fun x => !decide (x = w))) := by
  obtain ⟨j, hj, e⟩ := List.mem_iff_getElem.mp hw
  have hj' : (words t)[j]? = some w := by rw [List.getElem?_eq_getElem hj, e]
  have hl := Tr.words_len t
  have hf := filter_at (nodup_words t) hj'
  have hs := split_words t j w hj'
  have hok := split_ok j hk
  have hsz := split_size (t := t) (i := j) (by omega)
  have hh := split_hgt t j
  have c1 := codeOk_tree hok (by omega) (by omega) (by omega)
  rw [hs] at c1
  rw [hf]
  refine ⟨c1.perm ?_, ?_, fun h => ?_⟩
  · rw [List.append_assoc, List.append_assoc]
    exact List.Perm.append_left _ List.perm_append_comm
  · have sub : List.Sublist ((words t).take j ++ [w ++ [true]] ++ (words t).drop (j + 1)) (words (split t j)) := by
      rw [hs]
      refine List.Sublist.append (List.Sublist.append (List.Sublist.refl _) ?_) (List.Sublist.refl _)
      exact List.Sublist.cons _ (List.Sublist.refl _)
    obtain ⟨t', e1, e2, e3⟩ := sub_tree _ hok sub
    have hl' := Tr.words_len t'
    rw [e1, List.length_append, List.length_append, List.length_take, List.length_drop] at hl'
    simp at hl'
    have := codeOk_tree e2 (by omega) (by omega) (by omega)
    rw [e1] at this
    refine this.perm ?_
    rw [List.append_assoc, List.append_assoc]
    exact List.Perm.append_left _ List.perm_append_comm
  · have sub : List.Sublist ((words t).take j ++ (words t).drop (j + 1)) (words t) := by
      rw [← hf]
      exact List.filter_sublist
    obtain ⟨t', e1, e2, e3⟩ := sub_tree _ hk sub
    have hl' := Tr.words_len t'
    have hle := sub.length_le
    rw [e1] at hl'
    rw [hl'] at h hle
    have := codeOk_tree e2 (by omega) (by omega) (by omega)
    rwa [e1] at this
theorem repr3 {A B : List Row} (b : Bool) (hA : A.length ≤ 500) (hA2 : ∀ a ∈ A, a.length ≤ 100) (hB : B.length ≤ 500) (hB2 : ∀ a ∈ B, a.length ≤ 100) : ∃ X, ∀ S, fRepr S [.lst [.lst (A.map wd), .lst (B.map wd), .bl b]] = some (.str X) := by
  have h1 : A.length * (100 + 2) ≤ 500 * 102 := Nat.mul_le_mul_right _ hA
  have h2 : B.length * (100 + 2) ≤ 500 * 102 := Nat.mul_le_mul_right _ hB
  refine ⟨(PyData.list [rowsP A, rowsP B, .bool b]).shown, fun S => repr_ok (toP_lst rfl (n := 59) ?_) (nice_list (niceA_cons (nice_rows hA2) (rows_depth hA2) (niceA_cons (nice_rows hB2) (rows_depth hB2) (niceA_cons (nice_bool b).1 (by rw [(nice_bool b).2]; omega) ⟨niceA_nil.s, niceA_nil.d, niceA_nil.l, Nat.le_trans niceA_nil.h (Nat.zero_le _), niceA_nil.w⟩))) (by omega)) (by omega)⟩
  rw [List.mapM_cons, toP_rows (n := 57) (A := A) rfl, List.mapM_cons, toP_rows (n := 57) (A := B) rfl]
  rfl
theorem tg_code {S : List Ob} (W : List Row) : tgOf S (codeW W) = some (.o 0) := rfl
end
end DL


set_option Elab.async false
set_option linter.all false
set_option maxRecDepth 100000
set_option maxHeartbeats 2000000
/-! DL: join. -/
namespace DL
open PySem PySem.Spec PyProof.Rows L2
section
variable {X : Cx} {C : Ctx} {o e : Expr} {fo f : DF D} {pos : Pos}
def joinO (S : List Ob) (a : D) (d : D) : Option D := match a with
  | .str x => match (seqOf S d).bind strsOf with
    | some ys => if (ys.map (·.length)).sum + ys.length * x.length ≤ 16777216 then some (.str (PySem.Txt.join x ys)) else none
    | none => none
  | _ => none
def dJoin (fo f : DF D) : DF D := fun E S => (fo E S).bind fun p => match p.1 with
  | .str _ => (f E p.2).bind fun q => (joinO q.2 p.1 q.1).map fun d => (d, q.2)
  | _ => none
theorem de_join {apos : Pos} (ho : DE X C o fo) (he : DE X C e f) (hs : starEach [e] X.env = [(false, eval e X.env)] := by rfl) (hbase : attributeBase o "join" X.env (eval o X.env) = eval o X.env := by rfl) (hline : (apos.endLine == pos.line) = true := by rfl) :
    DE X C (.Call (.Attribute o "join" apos) [e] [] pos) (dJoin fo f) := by
  obtain ⟨to, a1, a2⟩ := ho
  obtain ⟨t, b1, b2⟩ := he
  refine ⟨_, pe_join a1 b1 hs hbase hline, fun E S d S' q Λ F π H σ w Q p => ?_⟩
  obtain ⟨⟨x, S1⟩, q1, q⟩ := Option.bind_eq_some_iff.mp q
  cases x with
  | str z =>
    obtain ⟨⟨y, S2⟩, q2, q⟩ := Option.bind_eq_some_iff.mp q
    obtain ⟨v, q3, q4⟩ := Option.map_eq_some_iff.mp q
    cases q4
    refine a2 E S (.str z) S1 q1 Λ F π H σ w _ fun u F1 π1 H1 e1 w1 r1 => ?_
    refine ⟨⟨z, r1⟩, b2 E S1 y S2 q2 Λ F1 π1 H1 σ (w.step e1 w1) _ fun u2 F2 π2 H2 e2 w2 r2 => ?_⟩
    unfold joinO at q3
    simp only at q3
    split at q3
    · rename_i ys hy
      split at q3
      · rename_i hz
        cases q3
        obtain ⟨xs, h1, h2⟩ := Option.bind_eq_some_iff.mp hy
        obtain ⟨a, vs, rfl, h3, h4⟩ := seqOf_ok w2 r2 h1
        have hv := strsOf_ok h4 h2
        subst hv
        exact ⟨z, a, ys, r1, rfl, h3, hz, p _ F2 π2 H2 (e1.trans e2) w2 rfl⟩
      · cases q3
    · cases q3
  | _ => cases q
end
end DL

set_option Elab.async false
set_option linter.all false
set_option maxRecDepth 100000
set_option maxHeartbeats 2000000
/-! WP2: more rules; clean defs by a relation. -/
namespace DL
open PySem PySem.Spec PyProof.Rows L2
noncomputable section
section
variable {α : Type} {E : SE} {S : List Ob} {f fo : DF D} {fs : DF (List D)} {n k : Nat} {Q : D → List Ob → Prop} {Qo : Out → List Ob → Prop}
theorem w_join (h : Wp (fo E S) fun a S1 => ∃ x, a = .str x ∧ Wp (f E S1) fun d S2 => ∃ r, joinO S2 (.str x) d = some r ∧ Q r S2) : Wp (dJoin fo f E S) Q := Wp.bind (h.imp fun a S1 ⟨x, e, h1⟩ => by
  subst e
  exact Wp.bind (h1.imp fun d S2 h2 => Wp.opt h2))
theorem w_meth {m : Str} {sem : List D → List Ob → Option (D × List Ob)} (h : Wp (f E S) fun d S1 => tgOf S1 d = some (.o k) ∧ fldOf S1 d m = none ∧ Wp (fs E S1) fun xs S2 => xs.length + 1 = n ∧ Wp (sem (d :: xs) S2) Q) : Wp (dMeth k n m sem f fs E S) Q := by
  obtain ⟨d, S1, e, h1, h2, xs, S2, e2, h3, r, S3, e3, q⟩ := h
  refine .of ?_ q
  unfold dMeth
  rw [e, Option.bind_some]
  simp only [h1, h2, and_self, if_true, e2, Option.bind_some, h3, e3]
/-- a loop that may end in a return -/
theorem for_by2 {σ : Type} {b : DFS} {s : Src} {tg : DFG} (xs : List α) (f : α → D) (rE : σ → SE) (rS : σ → List Ob) (P : Nat → σ → Prop) (R : D → List Ob → Prop) (st0 : σ)
    (h0 : P 0 st0) (hG : ∀ i st, P i st → Gv s (rS st) (xs.map f))
    (step : ∀ i x st, P i st → xs[i]? = some x → Wp (tg (f x) (rE st) (rS st)) fun E1 S1 => Wp (b E1 S1) fun o S2 => (∃ st', o = .nx (rE st') ∧ S2 = rS st' ∧ P (i + 1) st') ∨ ∃ d, o = .rt d ∧ R d S2)
    (k : ∀ st, P xs.length st → Qo (.nx (rE st)) (rS st)) (kr : ∀ d S2, R d S2 → Qo (.rt d) S2) (hE : E = rE st0 := by rfl) (hS : S = rS st0 := by rfl) : ForOk tg b E Qo s S := by
  subst hE
  subst hS
  have main : ∀ (n i : Nat) (st : σ), i + n = xs.length → P i st → Wp (loopF tg b s n i (rE st) (rS st)) Qo := by
    intro n
    induction n with
    | zero =>
      intro i st hi h
      have e : (xs.map f)[i]? = none := List.getElem?_eq_none (by rw [List.length_map]; omega)
      refine .of (by simp only [loopF, (hG i st h).at_, e]) (k st ?_)
      rw [show xs.length = i by omega]
      exact h
    | succ n ih =>
      intro i st hi h
      have hlt : i < xs.length := by omega
      have e : (xs.map f)[i]? = some (f xs[i]) := by rw [List.getElem?_map, List.getElem?_eq_getElem hlt]; rfl
      obtain ⟨E1, S1, g1, o, S2, g2, g3⟩ := step i xs[i] st h (List.getElem?_eq_getElem hlt)
      rcases g3 with ⟨st', rfl, rfl, g4⟩ | ⟨d, rfl, g4⟩
      · obtain ⟨o2, S3, g5, g6⟩ := ih (i + 1) st' (by omega) g4
        exact .of (by simp only [loopF, (hG i st h).at_, e, g1, Option.bind_some, g2, g5]) g6
      · exact .of (by simp only [loopF, (hG i st h).at_, e, g1, Option.bind_some, g2]) (kr d S2 g4)
  unfold ForOk
  rw [(hG 0 st0 h0).len, List.length_map]
  exact main xs.length 0 st0 (by omega) h0
end
/-- a def that changes nothing, by what it gives -/
def cR (R : List D → D → Prop) (ds : List D) (S : List Ob) : Option (D × List Ob) := open Classical in if h : ∃ d, R ds d then some (choose h, S) else none
theorem cR_ok {R : List D → D → Prop} (det : ∀ ds d e, R ds d → R ds e → d = e) {ds : List D} {d : D} {S : List Ob} (h : R ds d) : cR R ds S = some (d, S) := by
  have hx : ∃ d, R ds d := ⟨d, h⟩
  unfold cR
  rw [dif_pos hx, det ds _ d (Classical.choose_spec hx) h]
theorem cR_some {R : List D → D → Prop} {ds : List D} {S : List Ob} {r : D × List Ob} (h : cR R ds S = some r) : ∃ d, R ds d ∧ r = (d, S) := by
  unfold cR at h
  split at h
  · rename_i hx
    cases h
    exact ⟨_, Classical.choose_spec hx, rfl⟩
  · cases h
/-! join -/
theorem join_ws : ∀ W : List Row, Str.join "" (W.map ws) = ws W.flatten
  | [] => by decide +kernel
  | [x] => by
    show ws x = _
    simp
  | x :: y :: r => by
    have ih := join_ws (y :: r)
    show ws x ++ "" ++ Str.join "" (ws y :: r.map ws) = _
    rw [show ws y :: r.map ws = (y :: r).map ws from rfl, ih, s_nil, ws_app, ws_app]
    simp
theorem joinO_wd {S : List Ob} {d : D} {W : List Row} (h : seqOf S d = some (W.map wd)) (hz : W.flatten.length ≤ 1000000) : joinO S (.str "") d = some (wd W.flatten) := by
  unfold joinO
  simp only [h, Option.bind_some, strsOf_wd]
  have e : ((W.map ws).map fun x : Str => x.length).sum = W.flatten.length := by
    rw [List.map_map, List.length_flatten]
    congr 1
    exact List.map_congr_left fun w _ => ws_len w
  have e0 : ("" : Str).length = 0 := by decide +kernel
  rw [if_pos (by rw [e, e0]; omega), TL.join_eq, join_ws]
/-! picks -/
theorem w_pick {S : List Ob} {p n : Nat} {xs : List D} {Q : D → List Ob → Prop} (h : Pu S p n) (hn : n < 1000000) (hx : 0 < xs.length) (hx2 : xs.length < 1000000) (k : ∀ x S', x ∈ xs → Pu S' p (n + 1) → But p S S' → Q x S') : Wp (c__law_pick [.ptr p, .lst xs] S) Q := by
  obtain ⟨x, S', h1, h2, h3, h4⟩ := pick_ok h hn hx hx2
  exact .of h1 (k x S' h2 h3 h4)
theorem w_purse {C : Ctx} {S : List Ob} {t : Int} {Q : D → List Ob → Prop} (ht : 0 ≤ t) (ht2 : t < 1000) (k : ∀ S', Pu S' S.length 0 → Q (.ptr S.length) S') : Wp (c__law_purse C [.scr, .int t] S) Q := by
  obtain ⟨a, b, hpu, ha, hb, hb2⟩ := purse_ok (C := C) (S := S) (t := t) ht ht2
  exact .of hpu (k _ ⟨a, b, 0, end_at, ha, hb, hb2, Int.le_refl _, Int.le_refl _⟩)
/-! slices of rows -/
theorem cutS_drop (b : Row) (i : Nat) : cutS (ws b) (some (i : Int)) none = ws (b.drop i) := by
  unfold cutS
  rw [HT.sIx_none, HT.sIx_nat, ws_len]
  by_cases h : i ≤ b.length
  · rw [Nat.min_eq_left h]
    have : (b.map fun x : Bool => if x then 49 else 48).toArray.toList.length = b.length := by simp
    simp only [ws]
    congr 1
    simp [List.map_drop, List.take_of_length_le]
  · rw [Nat.min_eq_right (by omega)]
    simp only [ws]
    congr 1
    rw [List.drop_of_length_le (l := b) (by omega)]
    simp
theorem cutS_take (b : Row) (i : Nat) : cutS (ws b) none (some (i : Int)) = ws (b.take i) := by
  by_cases h : i ≤ b.length
  · exact cut_ws b i h
  · unfold cutS
    rw [HT.sIx_none, HT.sIx_nat, ws_len, Nat.min_eq_right (by omega)]
    simp only [ws]
    congr 1
    rw [List.take_of_length_le (l := b) (by omega)]
    simp [List.take_of_length_le]
/-! leaves -/
theorem w_c0 {E : SE} {S : List Ob} {Q : D → List Ob → Prop} (q : Q (wd [false]) S) : Wp (dC (.str "0") E S) Q := by
  rw [wd_0]
  exact w_c q
theorem w_c1 {E : SE} {S : List Ob} {Q : D → List Ob → Prop} (q : Q (wd [true]) S) : Wp (dC (.str "1") E S) Q := by
  rw [wd_1]
  exact w_c q
theorem w_cn {E : SE} {S : List Ob} {Q : D → List Ob → Prop} (q : Q (wd []) S) : Wp (dC (.str "") E S) Q := by
  rw [wd_nil]
  exact w_c q
theorem joinO_nil {S : List Ob} {d : D} {W : List Row} (h : seqOf S d = some (W.map wd)) (hz : W.flatten.length ≤ 1000000) : joinO S (.str (ws [])) d = some (wd W.flatten) := by
  rw [← s_nil]
  exact joinO_wd h hz
theorem ex_bl {x : Bool} {Q : Bool → Prop} (q : Q x) : ∃ b, D.bl x = D.bl b ∧ Q b := ⟨x, rfl, q⟩
theorem ex_int {x : Int} {Q : Int → Prop} (q : Q x) : ∃ b, D.int x = D.int b ∧ Q b := ⟨x, rfl, q⟩
theorem ex_str {x : Str} {Q : Str → Prop} (q : Q x) : ∃ b, D.str x = D.str b ∧ Q b := ⟨x, rfl, q⟩
theorem ex_two {x y : D} {Q : D → D → Prop} (q : Q x y) : ∃ a b, [x, y] = [a, b] ∧ Q a b := ⟨x, y, rfl, q⟩
theorem ex_rg {n : Nat} {Q : Nat → Prop} (q : Q n) : ∃ m : Nat, [D.int (n : Nat)] = [D.int (m : Nat)] ∧ Q m := ⟨n, rfl, q⟩
theorem ex_rgi {i : Int} {n : Nat} {Q : Nat → Prop} (h : i = (n : Nat)) (q : Q n) : ∃ m : Nat, [D.int i] = [D.int (m : Nat)] ∧ Q m := ⟨n, by rw [h], q⟩
theorem add_int {S : List Ob} (a b : Int) : opAdd S (.int a) (.int b) = some (.int (a + b)) := rfl
theorem sub_int {S : List Ob} (a b : Int) : opSub S (.int a) (.int b) = some (.int (a - b)) := rfl
theorem cmp_int {c : Int → Int → Bool} {S : List Ob} (a b : Int) : opCmp c S (.int a) (.int b) = some (.bl (c a b)) := rfl
theorem lst_lst {S : List Ob} (l : List D) : lstOf S (.lst l) = some l := rfl
theorem tup_tup (l : List D) : tupOf (.tup l) = some l := rfl
theorem isi_str {S : List Ob} (x : Str) : (tgOf S (.str x)).bind (isiB "str") = some true := rfl
theorem isi_lst {S : List Ob} (x : List D) : (tgOf S (.lst x)).bind (isiB "list") = some true := rfl
theorem isi_code {S : List Ob} (W : List Row) : (tgOf S (codeW W)).bind (isiO 0) = some true := rfl
theorem int_int {S : List Ob} (i : Int) : fInt S [.int i] = some (.int i) := rfl
theorem str_str {S : List Ob} (i : Str) : fStr S [.str i] = some (.str i) := rfl
theorem is_tup {S : List Ob} (l : List D) : opIs S (.tup l) .non = some (.bl false) := rfl
theorem is_non {S : List Ob} : opIs S .non .non = some (.bl true) := rfl
theorem isn_tup {S : List Ob} (l : List D) : opIsNot S (.tup l) .non = some (.bl true) := rfl
theorem isn_non {S : List Ob} : opIsNot S .non .non = some (.bl false) := rfl
theorem isn_bl {S : List Ob} (a b : Bool) : opIsNot S (.bl a) (.bl b) = some (.bl (!decide (a = b))) := by cases a <;> cases b <;> rfl
theorem is_bl {S : List Ob} (a b : Bool) : opIs S (.bl a) (.bl b) = some (.bl (decide (a = b))) := by cases a <;> cases b <;> rfl
theorem list_lst {S : List Ob} (l : List D) : fList S [.lst l] = some l := rfl
theorem fld_waysW {S : List Ob} (W : List Row) : fldOf S (codeW W) "ways" = some (.dT (waysW W)) := rfl
theorem fld_headsW {S : List Ob} (W : List Row) : fldOf S (codeW W) "heads" = some (.tup ((ordR (headsW W)).map wd)) := by
  rw [codeW_obj]
  rfl
theorem fld_rowsW {S : List Ob} (W : List Row) : fldOf S (codeW W) "rows" = some (.tup ((ordR W).map wd)) := by
  rw [codeW_obj]
  rfl
end
end DL

set_option Elab.async false
set_option linter.all false
set_option maxRecDepth 100000
set_option maxHeartbeats 4000000
/-! P15: rows read. -/
namespace DL
open PySem PySem.Spec PyProof.Rows L2
noncomputable section
local macro_rules | `(tactic| walk_at "wp") => `(tactic| first
  | (with_reducible first | apply w_seq | apply w_sV | apply w_sW | apply w_if | apply w_asg | apply w_ret | apply w_drop | apply w_sNil | apply w_test | apply w_not | apply w_bin | apply w_c0 | apply w_c1 | apply w_cn | apply w_c | apply w_nil | apply w_cons | apply w_few | apply w_tree | apply w_new | apply w_tup | apply w_cb | apply w_call | apply w_isi | apply w_fld | apply w_nopart | apply w_part | apply w_slL | apply w_slS | apply w_dget | apply w_newK | apply w_newT | apply w_app | apply w_lst0 | apply w_prop | apply w_ownE | apply w_ownN | apply w_catN | apply w_get1 | apply w_get2 | apply w_and | apply w_or | apply w_andV | apply w_orV | apply w_notV | apply w_dif | apply w_retN | apply w_par | apply w_gN | apply w_gsNil | apply w_gsCons | apply w_gSetL | apply w_asgG | apply w_sFld | apply w_sDP | apply w_iLst | apply w_iTu | apply w_iSt | apply w_iRg1 | apply w_iRg2 | apply w_for | apply w_lc | apply w_lock | apply w_iDk | apply w_join | apply w_meth | apply nxt_nx | apply nxt_rt)
  | (with_reducible refine w_var (by with_unfolding_all rfl) ?_) | (with_reducible refine w_gTu (by with_unfolding_all rfl) (by with_unfolding_all rfl) ?_) | (with_reducible refine w_aug (by with_unfolding_all rfl) ?_)
  | ((fail_if_success (with_reducible apply wp_id)); first
  | (refine ⟨lenOk (Nat.le_of_ble_eq_true rfl), ?_⟩) | (refine ⟨show _ ≤ 1000000 by omega, ?_⟩) | (refine ⟨(Nat.le_of_ble_eq_true rfl : _ ≤ 1000000), ?_⟩) | (refine ⟨rfl, ?_⟩)
  | (refine br_t ?_) | (refine br_f ?_) | (with_reducible refine br_n ?_) | (refine br_yes (by first | assumption | exact rfl | omega) ?_) | (refine br_no (by first | assumption | omega) ?_)
  | (with_reducible refine ⟨_, eq_int _ _, ?_⟩) | (with_reducible refine ⟨_, ne_int _ _, ?_⟩) | (with_reducible refine ⟨_, eq_wd _ _, ?_⟩) | (with_reducible refine ⟨_, ne_wd _ _, ?_⟩) | (with_reducible refine ⟨_, eq_str _ _, ?_⟩) | (with_reducible refine ⟨_, ne_str _ _, ?_⟩) | (with_reducible refine ⟨_, in_tup _, ?_⟩) | (with_reducible refine ⟨_, in_lst _, ?_⟩) | (with_reducible refine ⟨_, len_lst', ?_⟩) | (with_reducible refine ⟨_, add_wd (by first | omega | (simp; omega)), ?_⟩)
  | (with_reducible refine ⟨_, opMul_ev (.inr (by omega)), ?_⟩) | (with_reducible refine ⟨_, opMul_ev (.inl (by omega)), ?_⟩) | (with_reducible refine ⟨_, opMod_ev (by first | assumption | omega), ?_⟩) | (with_reducible refine ⟨_, opDiv_ev (by first | assumption | omega), ?_⟩)
  | (with_reducible refine ⟨_, add_int _ _, ?_⟩) | (with_reducible refine ⟨_, sub_int _ _, ?_⟩) | (with_reducible refine ⟨_, cmp_int _ _, ?_⟩) | (with_reducible refine ⟨_, lst_lst _, ?_⟩) | (with_reducible refine ⟨_, tup_tup _, ?_⟩) | (with_reducible refine ⟨_, isi_str _, ?_⟩) | (with_reducible refine ⟨_, isi_lst _, ?_⟩) | (with_reducible refine ⟨_, isi_code _, ?_⟩) | (with_reducible refine ⟨_, int_int _, ?_⟩) | (with_reducible refine ⟨_, str_str _, ?_⟩) | (with_reducible refine ⟨_, is_tup _, ?_⟩) | (with_reducible refine ⟨_, is_non, ?_⟩) | (with_reducible refine ⟨_, isn_tup _, ?_⟩) | (with_reducible refine ⟨_, isn_non, ?_⟩) | (with_reducible refine ⟨_, isn_bl _ _, ?_⟩) | (with_reducible refine ⟨_, is_bl _ _, ?_⟩) | (with_reducible refine ⟨_, list_lst _, ?_⟩) | (with_reducible refine ⟨_, fld_waysW _, ?_⟩) | (with_reducible refine ⟨_, fld_headsW _, ?_⟩) | (with_reducible refine ⟨_, fld_rowsW _, ?_⟩) | (with_reducible refine ⟨_, lstOf_end _, ?_⟩) | (with_reducible apply ex_bl) | (with_reducible apply ex_int) | (with_reducible apply ex_str) | (with_reducible apply ex_two) | (with_reducible apply ex_rg) | (with_reducible refine ex_rgi (by with_unfolding_all rfl) ?_))
  | fail)
/-! what a reader does -/
def afterW (W : List Row) : Row → Row → Option (Row × List Row)
  | s, [] => some (s, [])
  | s, b :: r => match nextW W s b with
    | none => none
    | some n => (afterW W n r).map fun p => (p.1, (if n = [] then [s ++ [b]] else []) ++ p.2)
def aftD : Option (Row × List Row) → D
  | none => .non
  | some p => .tup [wd p.1, .lst (p.2.map wd)]
theorem next_head {W : List Row} {s n : Row} {b : Bool} (h : nextW W s b = some n) (h0 : [] ∈ headsW W) : n ∈ headsW W := by
  unfold nextW at h
  split at h
  · cases h
    exact h0
  · split at h
    · cases h
      assumption
    · cases h
theorem nil_head {W : List Row} (G : GoodW W) : [] ∈ headsW W := by
  obtain ⟨w, hw⟩ : ∃ w, w ∈ W := by
    cases W with
    | nil => exact absurd G.two (by simp)
    | cons w r => exact ⟨w, List.mem_cons_self ..⟩
  refine mem_headsW.mpr ⟨w, hw, 0, ?_, by simp⟩
  have := G.ne w hw
  cases w with
  | nil => exact absurd rfl this
  | cons a r => simp
theorem head_len {W : List Row} (G : GoodW W) {s : Row} (h : s ∈ headsW W) : s.length ≤ 2000 := by
  obtain ⟨w, hw, i, hi, rfl⟩ := mem_headsW.mp h
  have := G.len w hw
  rw [List.length_take]
  omega
theorem getD_ways {W : List Row} {s : Row} (hs : s ∈ headsW W) (b : Bool) : getD' (waysW W) (keyW s b) = (nextW W s b).map wd := by
  cases h : nextW W s b with
  | some n =>
    refine getD_mem (waysW_nd (nodup_ordR _)) ?_
    exact List.mem_flatMap.mpr ⟨s, mem_ordR.mpr hs, mem_entW.mpr ⟨b, n, h, rfl⟩⟩
  | none =>
    refine getD_no fun x hx => ?_
    obtain ⟨s', _, h2⟩ := List.mem_flatMap.mp hx
    obtain ⟨b', n, h3, h4⟩ := mem_entW.mp h2
    obtain ⟨rfl, rfl⟩ := keyW_inj (Prod.mk.inj h4).1
    rw [h] at h3
    cases h3
theorem notIn_ways {S : List Ob} {W : List Row} {s : Row} (hs : s ∈ headsW W) (b : Bool) : opNotIn S (.tup [wd s, wd [b]]) (.dT (waysW W)) = some (.bl (!(nextW W s b).isSome)) := by
  have : isIn S (.tup [wd s, wd [b]]) (.dT (waysW W)) = some (getD' (waysW W) (keyW s b)).isSome := rfl
  unfold opNotIn
  rw [this, getD_ways hs]
  simp
theorem get_ways {S : List Ob} {W : List Row} {s n : Row} (hs : s ∈ headsW W) {b : Bool} (h : nextW W s b = some n) : dictGet S (.dT (waysW W)) (.tup [wd s, wd [b]]) = some (some (wd n)) := by
  have : dictGet S (.dT (waysW W)) (.tup [wd s, wd [b]]) = some (getD' (waysW W) (keyW s b)) := rfl
  rw [this, getD_ways hs, h]
  rfl
theorem row_step {α : Type} {xs : List α} {i : Nat} {x : α} (h : xs[i]? = some x) : xs.drop i = x :: xs.drop (i + 1) := by
  obtain ⟨h1, h2⟩ := List.getElem?_eq_some_iff.mp h
  rw [List.drop_eq_getElem_cons h1, h2]
def g_gone : DFS := (sSeq (sAsg 3 (dNew (few dNil)))
    (sSeq (sV [4, 5] (sFor (iSt (dVar 2)) (gN 4) (sW [4, 5] (sSeq (sIf (dTest (dBin opNotIn (dTup (dCons (dVar 1) (dCons (dVar 4) dNil))) (dFld "ways" (dVar 0)))) (sRet (dC .non)) sNil)
    (sSeq (sAsg 5 (dDGet (dFld "ways" (dVar 0)) (dTup (dCons (dVar 1) (dCons (dVar 4) dNil)))))
    (sSeq (sIf (dTest (dBin opEq (dVar 5) (dC (.str "")))) (sDrop (dApp (dVar 3) (dBin opAdd (dVar 1) (dVar 4)))) sNil)
    (sAsg 1 (dVar 5))))))))
    (sRet (dTup (dCons (dVar 1) (dCons (dVar 3) dNil))))))
theorem gone_run {S : List Ob} {W : List Row} (G : CodeOk W) {s row : Row} (hs : s ∈ headsW W) (hr : row.length ≤ 100000) :
    Wp (runB 6 g_gone [codeW W, wd s, wd row] S) fun r S' => match afterW W s row with
      | none => r = .non ∧ ∃ T, S' = S ++ T
      | some p => r = .tup [wd p.1, .ptr S.length] ∧ S' = S ++ [.lst (p.2.map wd)] := by
  have h0 := nil_head G.g
  refine w_run ?_
  unfold g_gone
  repeat' (walk_at "wp")
  rw [signs_ws]
  refine for_by2 row (fun x => wd [x]) (fun st : Row × List Row => [some (codeW W), some (wd st.1), some (wd row), some (.ptr S.length), none, none]) (fun st => S ++ [.lst (st.2.map wd)])
    (fun i st => st.1 ∈ headsW W ∧ st.2.length ≤ i ∧ afterW W s row = (afterW W st.1 (row.drop i)).map fun p => (p.1, st.2 ++ p.2)) (fun d S2 => d = .non ∧ afterW W s row = none ∧ ∃ T, S2 = S ++ T) (s, [])
    ⟨hs, Nat.le_refl _, by simp [Option.map_map, Function.comp_def]⟩ (fun _ _ _ => gv_fix) ?_ ?_ ?_
  · rintro i b ⟨s, ws'⟩ ⟨k1, k0, k2⟩ hb
    dsimp only at k1 k0 k2 ⊢
    have hi : i < 100000 := Nat.lt_of_lt_of_le (List.getElem?_eq_some_iff.mp hb).1 hr
    rw [row_step hb] at k2
    have hl := head_len G.g k1
    repeat' (walk_at "wp")
    refine ⟨_, notIn_ways k1 b, ?_⟩
    repeat' (walk_at "wp")
    cases hn : nextW W s b with
    | none =>
      simp only [afterW, hn] at k2
      repeat' (walk_at "wp")
      exact .inr ⟨_, rfl, rfl, k2, _, rfl⟩
    | some n =>
      simp only [afterW, hn, Option.map_map] at k2
      repeat' (walk_at "wp")
      refine ⟨_, get_ways k1 hn, ?_⟩
      repeat' (walk_at "wp")
      refine br (fun e => ?_) (fun e => ?_)
      · subst e
        repeat' (walk_at "wp")
        refine ⟨_, _, rfl, end_at, by rw [List.length_map]; exact Nat.lt_of_lt_of_le (show _ < 1000000 by omega) (by decide), ⟨_, end_at⟩, ?_⟩
        rw [end_set]
        repeat' (walk_at "wp")
        refine .inl ⟨([], ws' ++ [s ++ [b]]), rfl, by simp, h0, by simp; omega, ?_⟩
        rw [k2]
        congr 1
        funext p
        simp
      · repeat' (walk_at "wp")
        refine .inl ⟨(n, ws'), rfl, rfl, next_head hn h0, by dsimp only; omega, ?_⟩
        rw [k2]
        congr 1
        funext p
        simp [e]
  · rintro ⟨s', ws'⟩ ⟨k1, k0, k2⟩
    dsimp only at k1 k2 ⊢
    rw [List.drop_length] at k2
    simp only [afterW, Option.map_some, List.append_nil] at k2
    rw [k2]
    repeat' (walk_at "wp")
    all_goals first | rfl | exact ⟨rfl, rfl⟩
  · rintro d S2 ⟨rfl, e, T, rfl⟩
    rw [e]
    exact ⟨rfl, T, rfl⟩
def RGone (ds : List D) (d : D) : Prop := ∃ W s row, ds = [codeW W, wd s, wd row] ∧ CodeOk W ∧ s ∈ headsW W ∧ row.length ≤ 100000 ∧ d = aftD (afterW W s row)
theorem afterW_ext {W V : List Row} (h : nextW W = nextW V) : ∀ (row s : Row), afterW W s row = afterW V s row
  | [], s => rfl
  | b :: r, s => by
    unfold afterW
    rw [h]
    cases nextW V s b with
    | none => rfl
    | some n => simp only [afterW_ext h r n]
theorem wd_inj {a b : Row} (h : wd a = wd b) : a = b := ws_inj (D.str.inj h)
theorem gone_det (ds : List D) (d e : D) (h1 : RGone ds d) (h2 : RGone ds e) : d = e := by
  obtain ⟨W, s, row, rfl, _, _, _, rfl⟩ := h1
  obtain ⟨V, s', row', e1, _, _, _, rfl⟩ := h2
  obtain ⟨e1, e2⟩ := List.cons.inj e1
  obtain ⟨e2, e3⟩ := List.cons.inj e2
  obtain ⟨e3, _⟩ := List.cons.inj e3
  rw [wd_inj e2, wd_inj e3, afterW_ext (nextW_ext (codeW_eq.mp e1))]
def c_gone := cR RGone
theorem rz_lstW {n : Nat} {S : List Ob} {k : Nat} {W : List Row} (hk : n ≤ k) (h : S[k]? = some (.lst (W.map wd))) : Rz n S (.lst (W.map wd)) (.ptr k) := .inr ⟨k, _, hk, rfl, h, rzA_bnd _ (rows_bnd _ _)⟩
theorem gone_frz : ∀ (ds : List D) (S : List Ob) (r : D × List Ob), ds.length = 3 → c_gone ds S = some r → ∃ r', runB 6 g_gone ds S = some r' ∧ RzR S r' r := by
  intro ds S r _ h
  obtain ⟨d, ⟨W, s, row, rfl, G, hs, hr, rfl⟩, rfl⟩ := cR_some h
  obtain ⟨r, S', e, h2⟩ := gone_run (S := S) G hs hr
  cases hp : afterW W s row with
  | none =>
    rw [hp] at h2
    obtain ⟨rfl, T, rfl⟩ := h2
    exact ⟨_, e, RzR.same rfl⟩
  | some p =>
    rw [hp] at h2
    obtain ⟨rfl, rfl⟩ := h2
    exact ⟨_, e, RzR.same ⟨_, rfl, _, _, rfl, rfl, _, _, rfl, rz_lstW (Nat.le_refl _) end_at, rfl⟩⟩
theorem gone_ok {S : List Ob} {W : List Row} (G : CodeOk W) {s row : Row} (hs : s ∈ headsW W) (hr : row.length ≤ 100000) : c_gone [codeW W, wd s, wd row] S = some (aftD (afterW W s row), S) :=
  cR_ok gone_det ⟨W, s, row, rfl, G, hs, hr, rfl⟩
def g_check_state : DFS := (sIf (dOr (dNot (dTest (dIsi (isiB "str") (dVar 1)))) (dTest (dBin opNotIn (dVar 1) (dFld "heads" (dVar 0))))) sNever sNil)
def c_check_state := runB 2 g_check_state
theorem check_state_ok {S : List Ob} {W : List Row} {s : Row} (hs : s ∈ headsW W) : c_check_state [codeW W, wd s] S = some (.non, S) := by
  have key : Wp (c_check_state [codeW W, wd s] S) fun r S' => r = .non ∧ S' = S := by
    refine w_run ?_
    unfold g_check_state
    repeat' (walk_at "wp")
    refine ⟨_, notIn_seq rfl s, ?_⟩
    rw [decide_eq_true (mem_ordR.mpr hs)]
    repeat' (walk_at "wp")
    all_goals first | rfl | exact ⟨rfl, rfl⟩
  obtain ⟨r, S', e, rfl, rfl⟩ := key
  exact e
def g_check_row : DFS := (sIf (dNot (dTest (dCall 1 c_is_row (dCons (dVar 0) dNil)))) sNever sNil)
def c_check_row := runB 1 g_check_row
theorem check_row_ok {S : List Ob} {r : Row} (h : r.length ≤ 1000000) : c_check_row [wd r] S = some (.non, S) := by
  have key : Wp (c_check_row [wd r] S) fun r S' => r = .non ∧ S' = S := by
    refine w_run ?_
    unfold g_check_row
    repeat' (walk_at "wp")
    refine .of (is_row_ok r h) ?_
    repeat' (walk_at "wp")
    all_goals first | rfl | exact ⟨rfl, rfl⟩
  obtain ⟨r, S', e, rfl, rfl⟩ := key
  exact e
def g_Code_after : DFS := (sSeq (sDrop (dCall 2 c_check_state (dCons (dVar 0) (dCons (dVar 1) dNil))))
    (sSeq (sDrop (dCall 1 c_check_row (dCons (dVar 2) dNil)))
    (sRet (dCall 3 c_gone (dCons (dVar 0) (dCons (dVar 1) (dCons (dVar 2) dNil)))))))
def W_after := runB 3 g_Code_after
theorem after_ok {S : List Ob} {W : List Row} (G : CodeOk W) {s row : Row} (hs : s ∈ headsW W) (hr : row.length ≤ 100000) : W_after [codeW W, wd s, wd row] S = some (aftD (afterW W s row), S) := by
  have key : Wp (W_after [codeW W, wd s, wd row] S) fun r S' => r = aftD (afterW W s row) ∧ S' = S := by
    refine w_run ?_
    unfold g_Code_after
    repeat' (walk_at "wp")
    refine .of (check_state_ok hs) ?_
    repeat' (walk_at "wp")
    refine .of (check_row_ok (by omega)) ?_
    repeat' (walk_at "wp")
    refine .of (gone_ok G hs hr) ?_
    repeat' (walk_at "wp")
    all_goals first | rfl | exact ⟨rfl, rfl⟩
  obtain ⟨r, S', e, rfl, rfl⟩ := key
  exact e
def g_Code_cut : DFS := (sSeq (sDrop (dCall 1 c_check_row (dCons (dVar 1) dNil)))
    (sRet (dCall 3 c_gone (dCons (dVar 0) (dCons (dC (.str "")) (dCons (dVar 1) dNil))))))
def W_cut := runB 2 g_Code_cut
theorem cut_ok {S : List Ob} {W : List Row} (G : CodeOk W) {row : Row} (hr : row.length ≤ 100000) : W_cut [codeW W, wd row] S = some (aftD (afterW W [] row), S) := by
  have key : Wp (W_cut [codeW W, wd row] S) fun r S' => r = aftD (afterW W [] row) ∧ S' = S := by
    refine w_run ?_
    unfold g_Code_cut
    repeat' (walk_at "wp")
    refine .of (check_row_ok (by omega)) ?_
    repeat' (walk_at "wp")
    refine .of (gone_ok G (nil_head G.g) hr) ?_
    repeat' (walk_at "wp")
    all_goals first | rfl | exact ⟨rfl, rfl⟩
  obtain ⟨r, S', e, rfl, rfl⟩ := key
  exact e
end
end DL


set_option Elab.async false
set_option linter.all false
set_option maxRecDepth 100000
set_option maxHeartbeats 4000000
/-! P16: the laws' helpers for rows; facts of reading. -/
namespace DL
open PySem PySem.Spec PyProof.Rows L2
noncomputable section
local macro_rules | `(tactic| walk_at "wp") => `(tactic| first
  | (with_reducible first | apply w_seq | apply w_sV | apply w_sW | apply w_if | apply w_asg | apply w_ret | apply w_drop | apply w_sNil | apply w_test | apply w_not | apply w_bin | apply w_c0 | apply w_c1 | apply w_cn | apply w_c | apply w_nil | apply w_cons | apply w_few | apply w_tree | apply w_new | apply w_tup | apply w_cb | apply w_call | apply w_isi | apply w_fld | apply w_nopart | apply w_part | apply w_slL | apply w_slS | apply w_dget | apply w_newK | apply w_newT | apply w_app | apply w_lst0 | apply w_prop | apply w_ownE | apply w_ownN | apply w_catN | apply w_get1 | apply w_get2 | apply w_and | apply w_or | apply w_andV | apply w_orV | apply w_notV | apply w_dif | apply w_retN | apply w_par | apply w_gN | apply w_gsNil | apply w_gsCons | apply w_gSetL | apply w_asgG | apply w_sFld | apply w_sDP | apply w_iLst | apply w_iTu | apply w_iSt | apply w_iRg1 | apply w_iRg2 | apply w_for | apply w_lc | apply w_lock | apply w_iDk | apply w_join | apply w_meth | apply nxt_nx | apply nxt_rt)
  | (with_reducible refine w_var (by with_unfolding_all rfl) ?_) | (with_reducible refine w_gTu (by with_unfolding_all rfl) (by with_unfolding_all rfl) ?_) | (with_reducible refine w_aug (by with_unfolding_all rfl) ?_)
  | ((fail_if_success (with_reducible apply wp_id)); first
  | (refine ⟨lenOk (Nat.le_of_ble_eq_true rfl), ?_⟩) | (refine ⟨show _ ≤ 1000000 by omega, ?_⟩) | (refine ⟨(Nat.le_of_ble_eq_true rfl : _ ≤ 1000000), ?_⟩) | (refine ⟨rfl, ?_⟩)
  | (refine br_t ?_) | (refine br_f ?_) | (with_reducible refine br_n ?_) | (refine br_yes (by first | assumption | exact rfl | omega) ?_) | (refine br_no (by first | assumption | omega) ?_)
  | (with_reducible refine ⟨_, eq_int _ _, ?_⟩) | (with_reducible refine ⟨_, ne_int _ _, ?_⟩) | (with_reducible refine ⟨_, eq_wd _ _, ?_⟩) | (with_reducible refine ⟨_, ne_wd _ _, ?_⟩) | (with_reducible refine ⟨_, eq_str _ _, ?_⟩) | (with_reducible refine ⟨_, ne_str _ _, ?_⟩) | (with_reducible refine ⟨_, in_tup _, ?_⟩) | (with_reducible refine ⟨_, in_lst _, ?_⟩) | (with_reducible refine ⟨_, len_lst', ?_⟩) | (with_reducible refine ⟨_, add_wd (by first | omega | (simp; omega)), ?_⟩)
  | (with_reducible refine ⟨_, opMul_ev (.inr (by omega)), ?_⟩) | (with_reducible refine ⟨_, opMul_ev (.inl (by omega)), ?_⟩) | (with_reducible refine ⟨_, opMod_ev (by first | assumption | omega), ?_⟩) | (with_reducible refine ⟨_, opDiv_ev (by first | assumption | omega), ?_⟩)
  | (with_reducible refine ⟨_, add_int _ _, ?_⟩) | (with_reducible refine ⟨_, sub_int _ _, ?_⟩) | (with_reducible refine ⟨_, cmp_int _ _, ?_⟩) | (with_reducible refine ⟨_, lst_lst _, ?_⟩) | (with_reducible refine ⟨_, tup_tup _, ?_⟩) | (with_reducible refine ⟨_, isi_str _, ?_⟩) | (with_reducible refine ⟨_, isi_lst _, ?_⟩) | (with_reducible refine ⟨_, isi_code _, ?_⟩) | (with_reducible refine ⟨_, int_int _, ?_⟩) | (with_reducible refine ⟨_, str_str _, ?_⟩) | (with_reducible refine ⟨_, is_tup _, ?_⟩) | (with_reducible refine ⟨_, is_non, ?_⟩) | (with_reducible refine ⟨_, isn_tup _, ?_⟩) | (with_reducible refine ⟨_, isn_non, ?_⟩) | (with_reducible refine ⟨_, isn_bl _ _, ?_⟩) | (with_reducible refine ⟨_, is_bl _ _, ?_⟩) | (with_reducible refine ⟨_, list_lst _, ?_⟩) | (with_reducible refine ⟨_, fld_waysW _, ?_⟩) | (with_reducible refine ⟨_, fld_headsW _, ?_⟩) | (with_reducible refine ⟨_, fld_rowsW _, ?_⟩) | (with_reducible refine ⟨_, lstOf_end _, ?_⟩) | (with_reducible apply ex_bl) | (with_reducible apply ex_int) | (with_reducible apply ex_str) | (with_reducible apply ex_two) | (with_reducible apply ex_rg) | (with_reducible refine ex_rgi (by with_unfolding_all rfl) ?_))
  | fail)
/-! facts -/
theorem after_none {W : List Row} {s : Row} {b : Bool} (r : Row) (h : nextW W s b = none) : afterW W s (b :: r) = none := by
  rw [afterW, h]
theorem after_some {W : List Row} {s n : Row} {b : Bool} (r : Row) (h : nextW W s b = some n) : afterW W s (b :: r) = (afterW W n r).map fun p => (p.1, (if n = [] then [s ++ [b]] else []) ++ p.2) := by
  rw [afterW, h]
theorem afterW_app (W : List Row) : ∀ (r1 : Row) (s r2 : Row), afterW W s (r1 ++ r2) = (afterW W s r1).bind fun p => (afterW W p.1 r2).map fun q => (q.1, p.2 ++ q.2)
  | [], s, r2 => by simp [afterW]
  | b :: r, s, r2 => by
    rw [List.cons_append]
    cases h : nextW W s b with
    | none => rw [after_none _ h, after_none _ h]; rfl
    | some n =>
      rw [after_some _ h, after_some _ h, afterW_app W r n r2]
      cases afterW W n r with
      | none => rfl
      | some p =>
        simp only [Option.bind_some, Option.map_some, Option.map_map]
        congr 1
        funext q
        simp
theorem after_head {W : List Row} (h0 : [] ∈ headsW W) : ∀ (row s : Row) {p : Row × List Row}, s ∈ headsW W → afterW W s row = some p → p.1 ∈ headsW W
  | [], s, p, hs, h => by
    cases h
    exact hs
  | b :: r, s, p, hs, h => by
    cases hn : nextW W s b with
    | none =>
      rw [after_none _ hn] at h
      cases h
    | some n =>
      rw [after_some _ hn] at h
      obtain ⟨q, h1, rfl⟩ := Option.map_eq_some_iff.mp h
      exact (after_head h0 r n (next_head hn h0) h1 : q.1 ∈ _)
theorem after_count {W : List Row} : ∀ (row s : Row) {p : Row × List Row}, afterW W s row = some p → p.2.length ≤ row.length
  | [], s, p, h => by
    cases h
    simp
  | b :: r, s, p, h => by
    cases hn : nextW W s b with
    | none =>
      rw [after_none _ hn] at h
      cases h
    | some n =>
      rw [after_some _ hn] at h
      obtain ⟨q, h1, rfl⟩ := Option.map_eq_some_iff.mp h
      have := after_count r n h1
      simp only [List.length_append, List.length_cons]
      split <;> simp <;> omega
theorem after_outs {W : List Row} : ∀ (row s : Row) {p : Row × List Row}, afterW W s row = some p → ∀ w ∈ p.2, w ∈ W
  | [], s, p, h, w, hw => by
    cases h
    cases hw
  | b :: r, s, p, h, w, hw => by
    cases hn : nextW W s b with
    | none =>
      rw [after_none _ hn] at h
      cases h
    | some n =>
      rw [after_some _ hn] at h
      obtain ⟨q, h1, rfl⟩ := Option.map_eq_some_iff.mp h
      rcases List.mem_append.mp hw with hw | hw
      · by_cases e : n = []
        · rw [if_pos e, List.mem_singleton] at hw
          subst hw
          unfold nextW at hn
          split at hn
          · assumption
          · split at hn
            · cases hn
              simp at e
            · cases hn
        · rw [if_neg e] at hw
          cases hw
      · exact after_outs r n h1 w hw
theorem word_from {W : List Row} (G : GoodW W) {w : Row} (hw : w ∈ W) : ∀ (k i : Nat), i + k = w.length → 0 < k → afterW W (w.take i) (w.drop i) = some ([], [w])
  | 0, i, _, h => absurd h (by omega)
  | k + 1, i, hi, _ => by
    have hlt : i < w.length := by omega
    rw [List.drop_eq_getElem_cons hlt]
    have e : w.take i ++ [w[i]] = w.take (i + 1) := by rw [List.take_add_one, List.getElem?_eq_getElem hlt]; rfl
    by_cases hk : k = 0
    · have el : w.take (i + 1) = w := List.take_of_length_le (by omega)
      have hn : nextW W (w.take i) w[i] = some [] := by
        unfold nextW
        rw [e, el, if_pos hw]
      rw [after_some _ hn, List.drop_of_length_le (by omega), e, el]
      rfl
    · have hn := G.pf w hw (i + 1) (by omega)
      have hh : w.take (i + 1) ∈ headsW W := mem_headsW.mpr ⟨w, hw, i + 1, by omega, rfl⟩
      have hx : nextW W (w.take i) w[i] = some (w.take (i + 1)) := by
        unfold nextW
        rw [e, if_neg hn, if_pos hh]
      rw [after_some _ hx]
      have ih := word_from G hw k (i + 1) (by omega) (by omega)
      rw [ih, Option.map_some]
      have ne : ¬ w.take (i + 1) = [] := fun e => by
        have := congrArg List.length e
        rw [List.length_take, Nat.min_eq_left (by omega)] at this
        simp at this
      rw [if_neg ne]
      rfl
theorem word_read {W : List Row} (G : GoodW W) {w : Row} (hw : w ∈ W) : afterW W [] w = some ([], [w]) := by
  have := word_from G hw w.length 0 (by omega) (by
    have := G.ne w hw
    cases w with
    | nil => exact absurd rfl this
    | cons a r => simp)
  simpa using this
theorem words_read {W : List Row} (G : GoodW W) : ∀ V : List Row, (∀ v ∈ V, v ∈ W) → afterW W [] V.flatten = some ([], V)
  | [], _ => rfl
  | v :: V, h => by
    rw [List.flatten_cons, afterW_app, word_read G (h v (List.mem_cons_self ..)), Option.bind_some, words_read G V fun x hx => h x (List.mem_cons_of_mem _ hx)]
    simp
open Tr in
theorem full_step : ∀ {t : Tr} (_ : full t) {s : Row} (_ : s ∈ heads t) (x : Bool), step? t s x = true
  | no, h, _, _, _ => h.elim
  | lf, _, s, hs, _ => by simp [heads] at hs
  | nd a b, ⟨h1, h2⟩, [], _, x => by
    cases x with
    | false => exact decide_eq_true fun e => by subst e; exact h1
    | true => exact decide_eq_true fun e => by subst e; exact h2
  | nd a b, ⟨h1, h2⟩, y :: s, hs, x => by
    rcases mem_heads_nd.mp hs with h | ⟨z, v, e, h⟩
    · cases h
    · obtain ⟨rfl, rfl⟩ := List.cons.inj e
      cases y with
      | false => exact full_step (t := a) h1 h x
      | true => exact full_step (t := b) h2 h x
open Tr in
theorem full_after {t : Tr} (hf : full t) (h0 : [] ∈ headsW (words t)) : ∀ (row s : Row), s ∈ headsW (words t) → afterW (words t) s row ≠ none
  | [], s, _ => nofun
  | b :: r, s, hs => by
    have hk := Tr.full_ok hf
    have h1 := nextW_some hk ((headsW_words hk s).mp hs) b
    rw [full_step hf ((headsW_words hk s).mp hs) b] at h1
    obtain ⟨n, hn⟩ := Option.isSome_iff_exists.mp h1
    rw [after_some _ hn]
    intro e
    exact full_after hf h0 r n (next_head hn h0) (Option.map_eq_none_iff.mp e)
/-! rows drawn -/
theorem two_bits {x : D} (h : x ∈ [wd [false], wd [true]]) : ∃ b : Bool, x = wd [b] := by
  simp at h
  rcases h with rfl | rfl
  · exact ⟨false, rfl⟩
  · exact ⟨true, rfl⟩
def g__law_bits : DFS := (sRet (dJoin (dC (.str "")) (dTree (dLc [2] (iRg1 (dCons (dCall 2 c__law_draw (dCons (dVar 0) (dCons (dBin opAdd (dVar 1) (dC (.int 1))) dNil))) dNil)) (gN 2) dYes (dCall 2 c__law_pick (dCons (dVar 0) (dCons (dTree (few (dCons (dC (.str "0")) (dCons (dC (.str "1")) dNil)))) dNil)))))))
def c__law_bits := runB 3 g__law_bits
theorem bits_drawn {S : List Ob} {p n m : Nat} (h : Pu S p n) (hm : m ≤ 10000) (hn : n + m + 10 < 900000) : Wp (c__law_bits [.ptr p, .int (m : Nat)] S) fun d S' => ∃ r : Row, d = wd r ∧ r.length ≤ m ∧ Pu S' p (n + m + 10) ∧ But p S S' := by
  refine w_run ?_
  unfold g__law_bits
  repeat' (walk_at "wp")
  rw [show (m : Int) + 1 = ((m + 1 : Nat) : Int) by omega]
  refine w_draw h (by omega) (by omega) (by omega) fun k S1 hk P1 B1 => ?_
  repeat' (walk_at "wp")
  refine lc_by_rel (fun i acc S' => ∃ r : Row, acc = (r.map fun b => [b]).map wd ∧ r.length = i ∧ Pu S' p (n + 1 + i) ∧ But p S S') (List.range k) (fun i : Nat => D.int (i : Nat)) ⟨[], rfl, rfl, P1, B1⟩ (fun _ _ _ _ => gv_fix) (by rw [List.length_range]; omega) ?_ ?_
  · rintro i x acc S2 ⟨r, rfl, hr, P2, B2⟩ hx
    have hi := (List.getElem?_eq_some_iff.mp hx).1
    rw [List.length_range] at hi
    repeat' (walk_at "wp")
    refine .of rfl (br_t ?_)
    repeat' (walk_at "wp")
    refine w_pick P2 (by omega) (by decide) (by decide) fun z S3 hz P3 B3 => ?_
    obtain ⟨b, rfl⟩ := two_bits hz
    exact ⟨r ++ [b], by simp, by simp [hr], P3.up (by omega), B2.trans B3⟩
  · rintro _ S2 ⟨r, rfl, hr, P2, B2⟩
    rw [List.length_range] at hr P2
    repeat' (walk_at "wp")
    have fl : (r.map fun b => [b]).flatten = r := by
      clear hr P2 B2
      induction r with
      | nil => rfl
      | cons b r ih => simp [ih]
    refine ⟨_, joinO_nil (W := r.map fun b => [b]) rfl (by rw [fl]; omega), ?_⟩
    rw [fl]
    exact ⟨r, rfl, by omega, P2.up (by omega), B2⟩
theorem wd_01 : D.str "01" = wd [false, true] := by
  show D.str "01" = D.str (ws _)
  congr 1
theorem len_wd {S : List Ob} {b : Row} (h : b.length ≤ 1000000) : fLen S [wd b] = some (.int (b.length : Nat)) := len_ws b h
def g__law_row : DFS := (sSeq (sAsg 2 (dJoin (dC (.str "")) (dTree (dLc [3] (iRg1 (dCons (dCall 2 c__law_draw (dCons (dVar 0) (dCons (dC (.int 8)) dNil))) dNil)) (gN 3) dYes (dCall 2 c__law_pick (dCons (dVar 0) (dCons (dVar 1) dNil)))))))
    (sSeq (sIf (dAnd (dTest (dBin opEq (dCall 2 c__law_draw (dCons (dVar 0) (dCons (dC (.int 3)) dNil))) (dC (.int 0)))) (dTest (dBin opNe (dVar 2) (dC (.str ""))))) (sSeq (sAsg 3 (dCall 2 c__law_draw (dCons (dVar 0) (dCons (dCB fLen (dCons (dVar 2) dNil)) dNil))))
    (sAsg 2 (dBin opAdd (dBin opAdd (dSlS (dVar 2) dNoPart (dPart (dVar 3))) (dCall 2 c__law_pick (dCons (dVar 0) (dCons (dTree (few (dCons (dC (.str "0")) (dCons (dC (.str "1")) (dCons (dC (.str "")) (dCons (dC (.str "01")) dNil)))))) dNil)))) (dSlS (dVar 2) (dPart (dBin opAdd (dVar 3) (dC (.int 1)))) dNoPart)))) sNil)
    (sRet (dBin opAdd (dSlS (dVar 2) (dPart (dCall 2 c__law_draw (dCons (dVar 0) (dCons (dC (.int 3)) dNil)))) dNoPart) (dCall 2 c__law_pick (dCons (dVar 0) (dCons (dTree (few (dCons (dC (.str "")) (dCons (dCall 2 c__law_bits (dCons (dVar 0) (dCons (dC (.int 6)) dNil))) dNil)))) dNil)))))))
def c__law_row := runB 4 g__law_row
theorem row_drawn {S : List Ob} {p n : Nat} {W : List Row} (h : Pu S p n) (hW : 0 < W.length) (hW2 : W.length ≤ 1000) (hl : ∀ w ∈ W, w.length ≤ 100) (hn : n + 60 < 900000) : Wp (c__law_row [.ptr p, .lst (W.map wd)] S) fun d S' => ∃ r : Row, d = wd r ∧ r.length ≤ 1000 ∧ Pu S' p (n + 60) ∧ But p S S' := by
  refine w_run ?_
  unfold g__law_row
  repeat' (walk_at "wp")
  refine w_draw (m := 8) h (by omega) (by omega) (by omega) fun k S1 hk P1 B1 => ?_
  repeat' (walk_at "wp")
  refine lc_by_rel (fun i acc S' => ∃ V : List Row, acc = V.map wd ∧ V.flatten.length ≤ i * 100 ∧ Pu S' p (n + 1 + i) ∧ But p S S') (List.range k) (fun i : Nat => D.int (i : Nat)) ⟨[], rfl, by simp, P1, B1⟩ (fun _ _ _ _ => gv_fix) (by rw [List.length_range]; omega) ?_ ?_
  · rintro i x acc S2 ⟨V, rfl, hV, P2, B2⟩ hx
    have hi := (List.getElem?_eq_some_iff.mp hx).1
    rw [List.length_range] at hi
    repeat' (walk_at "wp")
    refine .of rfl (br_t ?_)
    repeat' (walk_at "wp")
    refine w_pick P2 (by omega) (by rw [List.length_map]; omega) (by rw [List.length_map]; omega) fun z S3 hz P3 B3 => ?_
    obtain ⟨w, hw, rfl⟩ := List.mem_map.mp hz
    have := hl w hw
    refine ⟨V ++ [w], by simp, ?_, P3.up (by omega), B2.trans B3⟩
    rw [List.flatten_append, List.length_append, Nat.succ_mul, List.flatten_cons, List.flatten_nil, List.append_nil]
    omega
  · rintro _ S2 ⟨V, rfl, hV, P2, B2⟩
    rw [List.length_range] at hV P2
    have hV7 : V.flatten.length ≤ 700 := by
      have : k * 100 ≤ 7 * 100 := Nat.mul_le_mul_right _ (by omega)
      omega
    repeat' (walk_at "wp")
    refine ⟨_, joinO_nil rfl (by omega), ?_⟩
    walk_at "wp"
    refine seq_mid (fun o S' => ∃ (r : Row) (x : Option D), o = .nx [some (.ptr p), some (.lst (W.map wd)), some (wd r), x] ∧ r.length ≤ 800 ∧ Pu S' p (n + 20) ∧ But p S S') ?_ ?_
    · repeat' (walk_at "wp")
      refine w_draw (m := 3) P2 (by omega) (by omega) (by omega) fun c S3 hc P3 B3 => ?_
      repeat' (walk_at "wp")
      refine br (fun hc => ?_) (fun hc => ?_)
      · repeat' (walk_at "wp")
        refine br (fun e => ?_) (fun e => ?_)
        · repeat' (walk_at "wp")
          exact ⟨_, _, rfl, by omega, P3.up (by omega), B2.trans B3⟩
        · have pos : 0 < V.flatten.length := by
            cases hf : V.flatten with
            | nil => exact absurd hf e
            | cons a r => simp
          repeat' (walk_at "wp")
          refine ⟨_, len_wd (by omega), ?_⟩
          repeat' (walk_at "wp")
          refine w_draw P3 pos (by omega) (by omega) fun a S4 ha P4 B4 => ?_
          repeat' (walk_at "wp")
          refine ⟨by rw [ws_len]; exact Nat.le_trans (show _ ≤ 1000000 by omega) (by decide), ?_⟩
          rw [cutS_take]
          repeat' (walk_at "wp")
          rw [wd_01]
          refine w_pick P4 (by omega) (by decide) (by decide) fun z S5 hz P5 B5 => ?_
          obtain ⟨y, rfl, hy⟩ : ∃ y : Row, z = wd y ∧ y.length ≤ 2 := by
            simp at hz
            rcases hz with rfl | rfl | rfl | rfl
            · exact ⟨_, rfl, by simp⟩
            · exact ⟨_, rfl, by simp⟩
            · exact ⟨_, rfl, by simp⟩
            · exact ⟨_, rfl, by simp⟩
          have h1 : (V.flatten.take a).length ≤ 700 := by rw [List.length_take]; omega
          refine ⟨_, add_wd (by omega), ?_⟩
          repeat' (walk_at "wp")
          refine ⟨by rw [ws_len]; exact Nat.le_trans (show _ ≤ 1000000 by omega) (by decide), ?_⟩
          rw [show (a : Int) + 1 = ((a + 1 : Nat) : Int) by omega, cutS_drop]
          have h2 : (V.flatten.drop (a + 1)).length ≤ 700 := by rw [List.length_drop]; omega
          refine ⟨_, add_wd (by rw [List.length_append]; omega), ?_⟩
          refine ⟨_, _, rfl, ?_, P5.up (by omega), ((B2.trans B3).trans B4).trans B5⟩
          rw [List.length_append, List.length_append, List.length_take, List.length_drop]
          omega
      · repeat' (walk_at "wp")
        exact ⟨_, _, rfl, by omega, P3.up (by omega), B2.trans B3⟩
    · rintro _ S3 ⟨r, x, rfl, hr, P3, B3⟩
      repeat' (walk_at "wp")
      refine w_draw (m := 3) P3 (by omega) (by omega) (by omega) fun c S4 hc P4 B4 => ?_
      repeat' (walk_at "wp")
      refine ⟨by rw [ws_len]; exact Nat.le_trans (show _ ≤ 1000000 by omega) (by decide), ?_⟩
      rw [cutS_drop]
      repeat' (walk_at "wp")
      refine (bits_drawn (m := 6) P4 (by omega) (by omega)).imp ?_
      rintro _ S5 ⟨q, rfl, hq, P5, B5⟩
      repeat' (walk_at "wp")
      refine w_pick P5 (by omega) (by simp) (by simp) fun z S6 hz P6 B6 => ?_
      obtain ⟨y, rfl, hy⟩ : ∃ y : Row, z = wd y ∧ y.length ≤ 6 := by
        simp at hz
        rcases hz with rfl | rfl
        · exact ⟨_, rfl, by simp⟩
        · exact ⟨_, rfl, hq⟩
      have h1 : (r.drop c).length ≤ 800 := by rw [List.length_drop]; omega
      refine ⟨_, add_wd (by omega), _, rfl, by rw [List.length_append]; omega, P6.up (by omega), ((B3.trans B4).trans B5).trans B6⟩
def g__law_after : DFS := (sSeq (sPar 3 4 (dCons (dCall 1 c__law_states (dCons (dVar 0) dNil)) (dCons (dNew (few dNil)) dNil)))
    (sSeq (sV [5] (sFor (iSt (dVar 2)) (gN 5) (sW [5] (sSeq (sAsg 1 (dBin opAdd (dVar 1) (dVar 5)))
    (sIf (dTest (dBin opIn (dVar 1) (dVar 0))) (sSeq (sDrop (dApp (dVar 4) (dVar 1)))
    (sAsg 1 (dC (.str "")))) (sIf (dTest (dBin opNotIn (dVar 1) (dVar 3))) (sRet (dC .non)) sNil))))))
    (sRet (dTup (dCons (dVar 1) (dCons (dVar 4) dNil))))))
def c__law_after := runB 6 g__law_after
theorem law_after_ok {S : List Ob} {W : List Row} (G : CodeOk W) (hS : SmallS W) {s row : Row} (hs : s ∈ headsW W) (hr : row.length ≤ 100000) :
    Wp (c__law_after [.lst (W.map wd), wd s, wd row] S) fun r S' => match afterW W s row with
      | none => r = .non ∧ ∃ T, S' = S ++ T
      | some p => r = .tup [wd p.1, .ptr S.length] ∧ S' = S ++ [.lst (p.2.map wd)] := by
  have h0 := nil_head G.g
  refine w_run ?_
  unfold g__law_after
  repeat' (walk_at "wp")
  refine .of (cW_ok (P := SmallS) (W := W) rfl hS) ?_
  repeat' (walk_at "wp")
  rw [signs_ws]
  refine for_by2 row (fun x => wd [x]) (fun st : Row × List Row => [some (.lst (W.map wd)), some (wd st.1), some (wd row), some (.lst ((ordR (headsW W)).map wd)), some (.ptr S.length), none]) (fun st => S ++ [.lst (st.2.map wd)])
    (fun i st => st.1 ∈ headsW W ∧ st.2.length ≤ i ∧ afterW W s row = (afterW W st.1 (row.drop i)).map fun p => (p.1, st.2 ++ p.2)) (fun d S2 => d = .non ∧ afterW W s row = none ∧ ∃ T, S2 = S ++ T) (s, [])
    ⟨hs, Nat.le_refl _, by simp [Option.map_map, Function.comp_def]⟩ (fun _ _ _ => gv_fix) ?_ ?_ ?_
  · rintro i b ⟨s, ws'⟩ ⟨k1, k0, k2⟩ hb
    dsimp only at k1 k0 k2 ⊢
    have hi : i < 100000 := Nat.lt_of_lt_of_le (List.getElem?_eq_some_iff.mp hb).1 hr
    rw [row_step hb] at k2
    have hl := head_len G.g k1
    repeat' (walk_at "wp")
    refine br (fun e => ?_) (fun e => ?_)
    · have hn : nextW W s b = some [] := by unfold nextW; rw [if_pos e]
      simp only [afterW, hn, Option.map_map] at k2
      repeat' (walk_at "wp")
      refine ⟨_, _, rfl, end_at, by rw [List.length_map]; exact Nat.lt_of_lt_of_le (show _ < 1000000 by omega) (by decide), ⟨_, end_at⟩, ?_⟩
      rw [end_set]
      repeat' (walk_at "wp")
      refine .inl ⟨([], ws' ++ [s ++ [b]]), rfl, by simp, h0, by simp; omega, ?_⟩
      rw [k2]
      congr 1
      funext p
      simp
    · repeat' (walk_at "wp")
      refine ⟨_, notIn_seq (W := ordR (headsW W)) rfl _, ?_⟩
      repeat' (walk_at "wp")
      refine br (fun e2 => ?_) (fun e2 => ?_)
      · have hn : nextW W s b = some (s ++ [b]) := by unfold nextW; rw [if_neg e, if_pos (mem_ordR.mp e2)]
        simp only [afterW, hn, Option.map_map] at k2
        repeat' (walk_at "wp")
        refine .inl ⟨(s ++ [b], ws'), rfl, rfl, mem_ordR.mp e2, by dsimp only; omega, ?_⟩
        rw [k2]
        congr 1
        funext p
        simp
      · have hn : nextW W s b = none := by unfold nextW; rw [if_neg e, if_neg fun h => e2 (mem_ordR.mpr h)]
        simp only [afterW, hn] at k2
        repeat' (walk_at "wp")
        exact .inr ⟨_, rfl, rfl, k2, _, rfl⟩
  · rintro ⟨s', ws'⟩ ⟨k1, k0, k2⟩
    dsimp only at k1 k2 ⊢
    rw [List.drop_length] at k2
    simp only [afterW, Option.map_some, List.append_nil] at k2
    rw [k2]
    repeat' (walk_at "wp")
    all_goals first | rfl | exact ⟨rfl, rfl⟩
  · rintro d S2 ⟨rfl, e, T, rfl⟩
    rw [e]
    exact ⟨rfl, T, rfl⟩
end
end DL


set_option Elab.async false
set_option linter.all false
set_option maxRecDepth 100000
set_option maxHeartbeats 8000000
/-! K04l: the law. -/
namespace DL
open PySem PySem.Spec PyProof.Rows L2
noncomputable section
local macro_rules | `(tactic| walk_at "wp") => `(tactic| first
  | (with_reducible first | apply w_seq | apply w_sV | apply w_sW | apply w_if | apply w_asg | apply w_ret | apply w_drop | apply w_sNil | apply w_test | apply w_not | apply w_bin | apply w_c0 | apply w_c1 | apply w_cn | apply w_c | apply w_nil | apply w_cons | apply w_few | apply w_tree | apply w_new | apply w_tup | apply w_cb | apply w_call | apply w_isi | apply w_fld | apply w_nopart | apply w_part | apply w_slL | apply w_slS | apply w_dget | apply w_newK | apply w_newT | apply w_app | apply w_lst0 | apply w_prop | apply w_ownE | apply w_ownN | apply w_catN | apply w_get1 | apply w_get2 | apply w_and | apply w_or | apply w_andV | apply w_orV | apply w_notV | apply w_dif | apply w_retN | apply w_par | apply w_gN | apply w_gsNil | apply w_gsCons | apply w_gSetL | apply w_asgG | apply w_sFld | apply w_sDP | apply w_iLst | apply w_iTu | apply w_iSt | apply w_iRg1 | apply w_iRg2 | apply w_for | apply w_lc | apply w_lock | apply w_iDk | apply w_join | apply w_meth | apply nxt_nx | apply nxt_rt)
  | (with_reducible refine w_var (by with_unfolding_all rfl) ?_) | (with_reducible refine w_gTu (by with_unfolding_all rfl) (by with_unfolding_all rfl) ?_) | (with_reducible refine w_aug (by with_unfolding_all rfl) ?_)
  | ((fail_if_success (with_reducible apply wp_id)); first
  | (refine ⟨lenOk (Nat.le_of_ble_eq_true rfl), ?_⟩) | (refine ⟨show _ ≤ 1000000 by omega, ?_⟩) | (refine ⟨(Nat.le_of_ble_eq_true rfl : _ ≤ 1000000), ?_⟩) | (refine ⟨rfl, ?_⟩)
  | (refine br_t ?_) | (refine br_f ?_) | (with_reducible refine br_n ?_) | (refine br_yes (by first | assumption | exact rfl | omega) ?_) | (refine br_no (by first | assumption | omega) ?_)
  | (with_reducible refine ⟨_, eq_int _ _, ?_⟩) | (with_reducible refine ⟨_, ne_int _ _, ?_⟩) | (with_reducible refine ⟨_, eq_wd _ _, ?_⟩) | (with_reducible refine ⟨_, ne_wd _ _, ?_⟩) | (with_reducible refine ⟨_, eq_str _ _, ?_⟩) | (with_reducible refine ⟨_, ne_str _ _, ?_⟩) | (with_reducible refine ⟨_, in_tup _, ?_⟩) | (with_reducible refine ⟨_, in_lst _, ?_⟩) | (with_reducible refine ⟨_, len_lst', ?_⟩) | (with_reducible refine ⟨_, add_wd (by first | omega | (simp; omega)), ?_⟩)
  | (with_reducible refine ⟨_, opMul_ev (.inr (by omega)), ?_⟩) | (with_reducible refine ⟨_, opMul_ev (.inl (by omega)), ?_⟩) | (with_reducible refine ⟨_, opMod_ev (by first | assumption | omega), ?_⟩) | (with_reducible refine ⟨_, opDiv_ev (by first | assumption | omega), ?_⟩)
  | (with_reducible refine ⟨_, add_int _ _, ?_⟩) | (with_reducible refine ⟨_, sub_int _ _, ?_⟩) | (with_reducible refine ⟨_, cmp_int _ _, ?_⟩) | (with_reducible refine ⟨_, lst_lst _, ?_⟩) | (with_reducible refine ⟨_, tup_tup _, ?_⟩) | (with_reducible refine ⟨_, isi_str _, ?_⟩) | (with_reducible refine ⟨_, isi_lst _, ?_⟩) | (with_reducible refine ⟨_, isi_code _, ?_⟩) | (with_reducible refine ⟨_, int_int _, ?_⟩) | (with_reducible refine ⟨_, str_str _, ?_⟩) | (with_reducible refine ⟨_, is_tup _, ?_⟩) | (with_reducible refine ⟨_, is_non, ?_⟩) | (with_reducible refine ⟨_, isn_tup _, ?_⟩) | (with_reducible refine ⟨_, isn_non, ?_⟩) | (with_reducible refine ⟨_, isn_bl _ _, ?_⟩) | (with_reducible refine ⟨_, is_bl _ _, ?_⟩) | (with_reducible refine ⟨_, list_lst _, ?_⟩) | (with_reducible refine ⟨_, fld_waysW _, ?_⟩) | (with_reducible refine ⟨_, fld_headsW _, ?_⟩) | (with_reducible refine ⟨_, fld_rowsW _, ?_⟩) | (with_reducible refine ⟨_, lstOf_end _, ?_⟩) | (with_reducible apply ex_bl) | (with_reducible apply ex_int) | (with_reducible apply ex_str) | (with_reducible apply ex_two) | (with_reducible apply ex_rg) | (with_reducible refine ex_rgi (by with_unfolding_all rfl) ?_))
  | fail)
/-! answers told and compared -/
def aftP : Option (Row × List Row) → PyData
  | none => .none
  | some p => .tuple [.str (ws p.1), rowsP p.2]
theorem toP_tup {S : List Ob} {n : Nat} {ds : List D} {ps : List PyData} (h : ds.mapM (toP S n) = some ps) : toP S (n + 1) (.tup ds) = some (.tuple ps) := by
  show ((ds.mapM (toP S n)).map PyData.tuple) = _
  rw [h]
  rfl
theorem toP_aft {S : List Ob} {n : Nat} {o : Row × List Row} {d : D} (h : lstOf S d = some (o.2.map wd)) : toP S (n + 3) (.tup [wd o.1, d]) = some (aftP (some o)) := by
  refine toP_tup ?_
  rw [List.mapM_cons, List.mapM_cons, toP_rows h]
  rfl
/-- an answer as data: None, or a tuple of a state and a list of words -/
def IsAft (S : List Ob) (o : Option (Row × List Row)) (d : D) : Prop := match o with
  | none => d = .non
  | some p => ∃ e, d = .tup [wd p.1, e] ∧ lstOf S e = some (p.2.map wd)
theorem isAft_D (S : List Ob) (o : Option (Row × List Row)) : IsAft S o (aftD o) := by
  cases o with
  | none => rfl
  | some p => exact ⟨_, rfl, rfl⟩
theorem IsAft.toP {S : List Ob} {o : Option (Row × List Row)} {d : D} (h : IsAft S o d) : toP S 60 d = some (aftP o) := by
  cases o with
  | none =>
    cases h
    rfl
  | some p =>
    obtain ⟨e, rfl, h2⟩ := h
    exact toP_aft (n := 57) h2
def SmallA : Option (Row × List Row) → Prop
  | none => True
  | some p => p.1.length ≤ 100 ∧ p.2.length ≤ 1500 ∧ ∀ w ∈ p.2, w.length ≤ 100
theorem nice_none : Nice 2 .none := ⟨by simp only [PyData.showable], by simp only [PyData.hasDict], by simp only [PyData.leavesShort], by simp [PyData.depth], by simp [PyData.weight]⟩
theorem nice_aft {o : Option (Row × List Row)} (h : SmallA o) : Nice 180000 (aftP o) := by
  cases o with
  | none => exact ⟨nice_none.s, nice_none.d, nice_none.l, nice_none.h, Nat.le_trans nice_none.w (by omega)⟩
  | some p =>
    obtain ⟨h1, h2, h3⟩ := h
    have a1 := nice_row p.1
    have a2 := nice_rows h3
    have a3 := rows_depth h3
    have hz : NiceA 0 1 [] := ⟨niceA_nil.s, niceA_nil.d, niceA_nil.l, Nat.le_trans niceA_nil.h (Nat.zero_le _), niceA_nil.w⟩
    have := nice_tuple (niceA_cons a1.1 (by rw [a1.2]; omega) (niceA_cons a2 a3 hz)) (by omega)
    refine ⟨this.s, this.d, this.l, this.h, Nat.le_trans this.w ?_⟩
    have : p.2.length * (100 + 2) ≤ 1500 * 102 := Nat.mul_le_mul_right _ h2
    omega
theorem repr_aft {S : List Ob} {o : Option (Row × List Row)} {d : D} (h : IsAft S o d) (hs : SmallA o) : fRepr S [d] = some (.str (aftP o).shown) := repr_ok h.toP (nice_aft hs) (by omega)
theorem strOk_row (b : Row) : PyData.strOk (ws b) = true := strOk_ws b
theorem shaped_aft (o : Option (Row × List Row)) : SeqAt.shaped (aftP o) = true := by
  cases o with
  | none => rfl
  | some p =>
    unfold SeqAt.shaped aftP rowsP
    rw [Bool.and_eq_true_iff]
    refine ⟨?_, decide_eq_true ?_⟩
    · have h1 := strOk_ws p.1
      have h2 := canLay_strs p.2
      simp only [PyData.canLay0, PyData.canLayAll0, Bool.and_true, Bool.and_eq_true] at h1 ⊢
      exact ⟨h1, h2⟩
    · have := depth_strs (p.2.map ws)
      simp only [PyData.depth, PyData.depthAll]
      omega
theorem eqv_aft (o q : Option (Row × List Row)) : PyData.eqv (aftP o) (aftP q) = decide (o = q) := by
  cases o with
  | none => cases q <;> simp [aftP, PyData.eqv]
  | some p =>
    cases q with
    | none => simp [aftP, PyData.eqv]
    | some r =>
      have := eqvAll_rows p.2 r.2
      simp only [aftP, PyData.eqv, PyData.eqvAll, this, Bool.and_true]
      obtain ⟨p1, p2⟩ := p
      obtain ⟨r1, r2⟩ := r
      by_cases h1 : p1 = r1
      · subst h1
        by_cases h2 : p2 = r2 <;> simp [h2]
      · have : ¬ ws p1 = ws r1 := fun e => h1 (ws_inj e)
        simp [h1, this]
theorem scl_aft {S : List Ob} {o : Option (Row × List Row)} {d : D} (h : IsAft S o d) : sclD d = (if o = none then some .non else none) := by
  cases o with
  | none =>
    cases h
    rfl
  | some p =>
    obtain ⟨e, rfl, _⟩ := h
    rfl
theorem eq_aft {S : List Ob} {o q : Option (Row × List Row)} {d e : D} (h1 : IsAft S o d) (h2 : IsAft S q e) : eqv S d e = some (decide (o = q)) := by
  have s1 := scl_aft h1
  have s2 := scl_aft h2
  have t1 := h1.toP
  have t2 := h2.toP
  unfold eqv
  rw [s1, s2]
  cases o with
  | none =>
    cases q with
    | none => rfl
    | some r =>
      simp only [if_true, reduceCtorEq, if_false, t1, t2, shaped_aft, Bool.and_self, eqv_aft]
  | some p =>
    simp only [reduceCtorEq, if_false, t1, t2, shaped_aft, Bool.and_self, if_true, eqv_aft]
theorem ne_aft' {S : List Ob} {o q : Option (Row × List Row)} {d e : D} (h1 : IsAft S o d) (h2 : IsAft S q e) : opNe S d e = some (.bl (!decide (o = q))) := by
  unfold opNe
  rw [eq_aft h1 h2]
  rfl
theorem eq_aft' {S : List Ob} {o q : Option (Row × List Row)} {d e : D} (h1 : IsAft S o d) (h2 : IsAft S q e) : opEq S d e = some (.bl (decide (o = q))) := by
  unfold opEq
  rw [eq_aft h1 h2]
  rfl
theorem isn_aft {S : List Ob} {o : Option (Row × List Row)} {d : D} (h : IsAft S o d) : opIsNot S d .non = some (.bl (!decide (o = none))) := by
  cases o with
  | none =>
    cases h
    rfl
  | some p =>
    obtain ⟨e, rfl, _⟩ := h
    rfl
theorem is_aft {S : List Ob} {o : Option (Row × List Row)} {d : D} (h : IsAft S o d) : opIs S d .non = some (.bl (decide (o = none))) := by
  cases o with
  | none =>
    cases h
    rfl
  | some p =>
    obtain ⟨e, rfl, _⟩ := h
    rfl
/-! an answer whose list may change -/
def Due (S : List Ob) (p k : Nat) (o : Option (Row × List Row)) (r : D) : Prop := match o with
  | none => r = .non
  | some q => r = .tup [wd q.1, .ptr k] ∧ S[k]? = some (.lst (q.2.map wd)) ∧ p < k
theorem Due.is {S : List Ob} {p k : Nat} {o : Option (Row × List Row)} {r : D} (h : Due S p k o r) : IsAft S o r := by
  cases o with
  | none => exact h
  | some q =>
    obtain ⟨rfl, h2, _⟩ := h
    exact ⟨_, rfl, by simp only [lstOf, h2]⟩
theorem Due.app {S T : List Ob} {p k : Nat} {o : Option (Row × List Row)} {r : D} (h : Due S p k o r) : Due (S ++ T) p k o r := by
  cases o with
  | none => exact h
  | some q =>
    obtain ⟨rfl, h2, h3⟩ := h
    exact ⟨rfl, by rw [List.getElem?_append_left (List.getElem?_eq_some_iff.mp h2).1]; exact h2, h3⟩
theorem Due.but {S S' : List Ob} {p k : Nat} {o : Option (Row × List Row)} {r : D} (h : Due S p k o r) (b : But p S S') : Due S' p k o r := by
  cases o with
  | none => exact h
  | some q =>
    obtain ⟨rfl, h2, h3⟩ := h
    exact ⟨rfl, by rw [b.ne k (by omega)]; exact h2, h3⟩
theorem Pu.put {S : List Ob} {p n k : Nat} {ob : Ob} (h : Pu S p n) (hk : p < k) : Pu (S.set k ob) p n := by
  obtain ⟨a, b, c, h1, h2⟩ := h.ex
  exact ⟨a, b, c, by rw [List.getElem?_set_ne (by omega)]; exact h1, h2⟩
theorem due_of {S : List Ob} {p n : Nat} {W : List Row} (P : Pu S p n) (G : CodeOk W) (hS : SmallS W) {s row : Row} (hs : s ∈ headsW W) (hr : row.length ≤ 100000) {Q : D → List Ob → Prop} (k : ∀ r T, Due (S ++ T) p S.length (afterW W s row) r → Q r (S ++ T)) :
    Wp (c__law_after [.lst (W.map wd), wd s, wd row] S) Q := by
  refine (law_after_ok (S := S) G hS hs hr).imp fun r S' h => ?_
  have hp := P.lt
  cases ho : afterW W s row with
  | none =>
    rw [ho] at h
    obtain ⟨rfl, T, rfl⟩ := h
    exact k _ T (by rw [ho]; rfl)
  | some q =>
    rw [ho] at h
    obtain ⟨rfl, rfl⟩ := h
    exact k _ _ (by rw [ho]; exact ⟨rfl, end_at, hp⟩)
theorem more_ne {S : List Ob} {k : Nat} {q : Row × List Row} (h : S[k]? = some (.lst (q.2.map wd ++ [.str "more"]))) : opEq S (aftD (some q)) (.tup [wd q.1, .ptr k]) = some (.bl false) := by
  have t1 := (isAft_D S (some q)).toP
  have e : q.2.map wd ++ [D.str "more"] = (q.2.map ws ++ [("more" : Str)]).map D.str := by rw [List.map_append, map_wd]; rfl
  have t2 : toP S 60 (.tup [wd q.1, .ptr k]) = some (.tuple [.str (ws q.1), .list ((q.2.map ws ++ [("more" : Str)]).map PyData.str)]) := by
    refine toP_tup (n := 59) ?_
    have h1 : toP S 59 (.ptr k) = some (.list ((q.2.map ws ++ [("more" : Str)]).map PyData.str)) := by
      refine toP_lst (n := 58) (ds := (q.2.map ws ++ [("more" : Str)]).map D.str) ?_ (mapM_strs S 57 _)
      simp only [lstOf, h, e]
    rw [List.mapM_cons, List.mapM_cons, h1]
    rfl
  have sh : SeqAt.shaped (.tuple [.str (ws q.1), .list ((q.2.map ws ++ [("more" : Str)]).map PyData.str)]) = true := by
    unfold SeqAt.shaped
    rw [Bool.and_eq_true_iff]
    refine ⟨?_, decide_eq_true ?_⟩
    · have h1 := strOk_ws q.1
      have h2 : ∀ V : List (List Bool), PyData.canLayAll0 ((V.map ws ++ [("more" : Str)]).map PyData.str) = true := by
        intro V
        induction V with
        | nil => decide +kernel
        | cons v V ih =>
          have h3 := strOk_ws v
          simp only [List.map_cons, List.cons_append, PyData.canLayAll0, ih, Bool.and_true]
          exact h3
      have h2 := h2 q.2
      simp only [PyData.canLay0, PyData.canLayAll0, Bool.and_true, Bool.and_eq_true] at h1 ⊢
      exact ⟨h1, h2⟩
    · have := depth_strs (q.2.map ws ++ [("more" : Str)])
      simp only [PyData.depth, PyData.depthAll]
      omega
  have s1 : sclD (aftD (some q)) = none := rfl
  unfold opEq eqv
  rw [s1]
  simp only [t1, t2, sh, shaped_aft, Bool.and_self, if_true, Option.map_some]
  congr 2
  unfold aftP rowsP
  simp only [PyData.eqv, PyData.eqvAll, eqvAll_strs, Bool.and_true]
  have : ¬ q.2.map ws = q.2.map ws ++ [("more" : Str)] := fun e => by
    have := congrArg List.length e
    simp at this
  simp [this]
theorem aft_0 {S : List Ob} (q : Row × List Row) : atD S (aftD (some q)) (.int 0) = some (wd q.1) := rfl
theorem aft_1 {S : List Ob} (q : Row × List Row) : atD S (aftD (some q)) (.int 1) = some (.lst (q.2.map wd)) := rfl
theorem and_no {bf b2 : Bool} {r : Option (Bool × List Ob)} {S : List Ob} {A C : List Ob → Prop} (h2 : r = some (b2, S)) (hno : (bf && b2) = false) (hc : C S) : Br bf (Wp r fun b S1 => Br b (A S1) (C S1)) (Br false (A S) (C S)) := by
  refine ⟨fun e => .of h2 ?_, fun _ => br_f hc⟩
  subst e
  have : b2 = false := by simpa using hno
  subst this
  exact br_f hc
theorem br_mid {b : Bool} {r1 r2 : Option (Out × List Ob)} {K : Out → List Ob → Prop} (R : Out → List Ob → Prop) (h1 : b = true → Wp r1 R) (h2 : b = false → Wp r2 R) (k : ∀ o S, R o S → K o S) : Br b (Wp r1 K) (Wp r2 K) := ⟨fun e => (h1 e).imp k, fun e => (h2 e).imp k⟩
theorem is_ev {E : SE} {S : List Ob} {i : Nat} {o : Option (Row × List Row)} {d : D} (hE : E[i]? = some (some d)) (h : IsAft S o d) : dTest (dBin opIs (dVar i) (dC .non)) E S = some (decide (o = none), S) :=
  dTest_ev (dBin_ev (dVar_ev hE) dC_ev (is_aft h))
theorem isn_ev {E : SE} {S : List Ob} {i : Nat} {o : Option (Row × List Row)} {d : D} (hE : E[i]? = some (some d)) (h : IsAft S o d) : dTest (dBin opIsNot (dVar i) (dC .non)) E S = some (!decide (o = none), S) :=
  dTest_ev (dBin_ev (dVar_ev hE) dC_ev (isn_aft h))
end
end DL


set_option Elab.async false
set_option linter.all false
/-! T2: trees mirrored, filled, in turn. -/
namespace DL
namespace Tr
def neg (r : Row) : Row := r.map fun x => !x
theorem neg_neg (r : Row) : neg (neg r) = r := by
  induction r with
  | nil => rfl
  | cons x r ih =>
    simp only [neg, List.map_cons, Bool.not_not] at ih ⊢
    rw [ih]
theorem neg_app (a b : Row) : neg (a ++ b) = neg a ++ neg b := by simp [neg]
theorem neg_len (a : Row) : (neg a).length = a.length := by simp [neg]
theorem neg_take (a : Row) (i : Nat) : neg (a.take i) = (neg a).take i := by simp [neg, List.map_take]
theorem neg_inj {a b : Row} (h : neg a = neg b) : a = b := by rw [← neg_neg a, h, neg_neg]
def mir : Tr → Tr
  | no => no
  | lf => lf
  | nd a b => nd (mir b) (mir a)
theorem mir_mir : ∀ t : Tr, mir (mir t) = t
  | no => rfl
  | lf => rfl
  | nd a b => by simp only [mir, mir_mir a, mir_mir b]
theorem mir_no : ∀ {t : Tr}, mir t = no ↔ t = no
  | no => by simp [mir]
  | lf => by simp [mir]
  | nd a b => by simp [mir]
theorem mem_mir : ∀ (t : Tr) (r : Row), r ∈ words (mir t) ↔ neg r ∈ words t
  | no, r => by simp [mir, words]
  | lf, r => by cases r <;> simp [mir, words, neg]
  | nd a b, r => by
    simp only [mir]
    rw [mem_words_nd, mem_words_nd]
    constructor
    · rintro ⟨x, v, rfl, h⟩
      refine ⟨!x, neg v, rfl, ?_⟩
      cases x with
      | false => exact (mem_mir b v).mp h
      | true => exact (mem_mir a v).mp h
    · rintro ⟨x, v, e, h⟩
      cases r with
      | nil => cases e
      | cons y r =>
        simp only [neg, List.map_cons, List.cons.injEq] at e
        obtain ⟨rfl, rfl⟩ := e
        refine ⟨y, r, rfl, ?_⟩
        cases y with
        | false => exact (mem_mir b r).mpr h
        | true => exact (mem_mir a r).mpr h
theorem mir_ok : ∀ {t : Tr}, ok t → ok (mir t)
  | no, _ => trivial
  | lf, _ => trivial
  | nd a b, ⟨h1, h2, h3⟩ => ⟨mir_ok h2, mir_ok h1, fun h => h3 ⟨mir_no.mp h.2, mir_no.mp h.1⟩⟩
theorem mir_full : ∀ {t : Tr}, full (mir t) ↔ full t
  | no => Iff.rfl
  | lf => Iff.rfl
  | nd a b => by
    simp only [mir, full, mir_full (t := a), mir_full (t := b)]
    exact And.comm
theorem mir_size : ∀ t : Tr, size (mir t) = size t
  | no => rfl
  | lf => rfl
  | nd a b => by simp only [mir, size, mir_size a, mir_size b]; omega
theorem mir_hgt : ∀ t : Tr, hgt (mir t) = hgt t
  | no => rfl
  | lf => rfl
  | nd a b => by simp only [mir, hgt, mir_hgt a, mir_hgt b]; omega
/-- all gaps closed -/
def fill : Tr → Tr
  | no => lf
  | lf => lf
  | nd a b => nd (fill a) (fill b)
theorem fill_full : ∀ t : Tr, full (fill t)
  | no => trivial
  | lf => trivial
  | nd a b => ⟨fill_full a, fill_full b⟩
theorem fill_heads : ∀ t : Tr, heads (fill t) = heads t
  | no => rfl
  | lf => rfl
  | nd a b => by simp only [fill, heads, fill_heads a, fill_heads b]
theorem fill_id : ∀ {t : Tr}, full t → fill t = t
  | no, h => h.elim
  | lf, _ => rfl
  | nd a b, ⟨h1, h2⟩ => by simp only [fill, fill_id h1, fill_id h2]
theorem fill_mir : ∀ t : Tr, fill (mir t) = mir (fill t)
  | no => rfl
  | lf => rfl
  | nd a b => by simp only [mir, fill, fill_mir a, fill_mir b]
theorem fill_hgt : ∀ t : Tr, hgt (fill t) = hgt t
  | no => rfl
  | lf => rfl
  | nd a b => by simp only [fill, hgt, fill_hgt a, fill_hgt b]
theorem words_fill : ∀ {t : Tr} {r : Row}, r ∈ words t → r ∈ words (fill t)
  | no, r, h => by simp [words] at h
  | lf, r, h => h
  | nd a b, r, h => by
    obtain ⟨x, v, rfl, hv⟩ := mem_words_nd.mp h
    refine mem_words_nd.mpr ⟨x, v, rfl, ?_⟩
    cases x with
    | false => exact words_fill (t := a) hv
    | true => exact words_fill (t := b) hv
/-- words and states are two things -/
theorem word_no_head : ∀ {t : Tr} {r : Row}, r ∈ words t → r ∉ heads t
  | no, r, h, _ => by simp [words] at h
  | lf, r, h, h2 => by simp [heads] at h2
  | nd a b, r, h, h2 => by
    obtain ⟨x, v, rfl, hv⟩ := mem_words_nd.mp h
    rcases mem_heads_nd.mp h2 with h3 | ⟨y, u, e, hu⟩
    · cases h3
    · obtain ⟨rfl, rfl⟩ := List.cons.inj e
      cases x with
      | false => exact word_no_head (t := a) hv hu
      | true => exact word_no_head (t := b) hv hu
/-- the words of the filled code -/
theorem mem_fill : ∀ {t : Tr} (_ : ok t) (_ : t ≠ no) {r : Row}, r ∈ words (fill t) ↔ r ∈ words t ∨ ∃ s ∈ heads t, ∃ x, r = s ++ [x] ∧ s ++ [x] ∉ words t ∧ s ++ [x] ∉ heads t
  | no, _, h, r => absurd rfl h
  | lf, _, _, r => by simp [fill, words, heads]
  | nd a b, ⟨ha, hb, hn⟩, _, r => by
    have side : ∀ c : Tr, ok c → ∀ x : Bool, (if x then b else a) = c → ∀ v, (v ∈ words (fill c) ↔ (x :: v ∈ words (nd a b) ∨ ∃ s ∈ heads (nd a b), ∃ y, x :: v = s ++ [y] ∧ s ++ [y] ∉ words (nd a b) ∧ s ++ [y] ∉ heads (nd a b))) := by
      intro c hc x hx v
      have inw : ∀ u, x :: u ∈ words (nd a b) ↔ u ∈ words c := fun u => by
        rw [mem_words_nd]
        constructor
        · rintro ⟨z, u', e, h⟩
          obtain ⟨rfl, rfl⟩ := List.cons.inj e
          rw [hx] at h
          exact h
        · exact fun h => ⟨x, u, rfl, by rw [hx]; exact h⟩
      have inh : ∀ u, x :: u ∈ heads (nd a b) ↔ u ∈ heads c := fun u => by
        rw [mem_heads_nd]
        constructor
        · rintro (h | ⟨z, u', e, h⟩)
          · cases h
          · obtain ⟨rfl, rfl⟩ := List.cons.inj e
            rw [hx] at h
            exact h
        · exact fun h => .inr ⟨x, u, rfl, by rw [hx]; exact h⟩
      rw [inw]
      by_cases hcn : c = no
      · subst hcn
        constructor
        · intro h
          have : v = [] := by simpa [fill, words] using h
          subst this
          refine .inr ⟨[], by simp [heads], x, rfl, ?_, ?_⟩
          · rw [List.nil_append, inw]
            simp [words]
          · rw [List.nil_append, inh]
            simp [heads]
        · rintro (h | ⟨s, hs, y, e, h1, h2⟩)
          · simp [words] at h
          · cases s with
            | nil =>
              obtain ⟨_, rfl⟩ := List.cons.inj e
              simp [fill, words]
            | cons z s =>
              obtain ⟨rfl, rfl⟩ := List.cons.inj e
              rw [inh] at hs
              simp [heads] at hs
      · have ih : v ∈ words (fill c) ↔ v ∈ words c ∨ ∃ s ∈ heads c, ∃ y, v = s ++ [y] ∧ s ++ [y] ∉ words c ∧ s ++ [y] ∉ heads c := by
          cases x with
          | false =>
            have : a = c := hx
            subst this
            exact mem_fill (t := a) hc hcn
          | true =>
            have : b = c := hx
            subst this
            exact mem_fill (t := b) hc hcn
        rw [ih]
        refine or_congr Iff.rfl ⟨?_, ?_⟩
        · rintro ⟨s, hs, y, rfl, h1, h2⟩
          refine ⟨x :: s, (inh s).mpr hs, y, rfl, ?_, ?_⟩
          · rw [List.cons_append, inw]
            exact h1
          · rw [List.cons_append, inh]
            exact h2
        · rintro ⟨s, hs, y, e, h1, h2⟩
          cases s with
          | nil =>
            obtain ⟨rfl, rfl⟩ := List.cons.inj e
            rw [List.nil_append, inw] at h1
            rw [List.nil_append, inh] at h2
            cases c with
            | no => exact absurd rfl hcn
            | lf => simp [words] at h1
            | nd p q => simp [heads] at h2
          | cons z s =>
            obtain ⟨rfl, rfl⟩ := List.cons.inj e
            rw [inh] at hs
            rw [List.cons_append, inw] at h1
            rw [List.cons_append, inh] at h2
            exact ⟨s, hs, y, rfl, h1, h2⟩
    simp only [fill]
    constructor
    · intro h
      obtain ⟨x, v, rfl, hv⟩ := mem_words_nd.mp h
      cases x with
      | false => exact (side a ha false rfl v).mp hv
      | true => exact (side b hb true rfl v).mp hv
    · intro h
      cases r with
      | nil =>
        rcases h with h | ⟨s, _, y, e, _⟩
        · obtain ⟨x, v, e, _⟩ := mem_words_nd.mp h
          cases e
        · cases s <;> cases e
      | cons x v =>
        refine mem_words_nd.mpr ⟨x, v, rfl, ?_⟩
        cases x with
        | false => exact (side a ha false rfl v).mpr h
        | true => exact (side b hb true rfl v).mpr h
/-- one code behind the other -/
def graft : Tr → Tr → Tr
  | no, _ => no
  | lf, u => u
  | nd a b, u => nd (graft a u) (graft b u)
theorem words_graft : ∀ (t u : Tr), words (graft t u) = (words t).flatMap fun a => (words u).map (a ++ ·)
  | no, u => rfl
  | lf, u => by simp [graft, words]
  | nd a b, u => by
    simp only [graft, words, words_graft a u, words_graft b u, List.flatMap_append, List.flatMap_map, List.map_flatMap, List.map_map]
    rfl
theorem graft_no : ∀ {t u : Tr}, u ≠ no → (graft t u = no ↔ t = no)
  | no, u, _ => by simp [graft]
  | lf, u, h => by simp [graft, h]
  | nd a b, u, _ => by simp [graft]
theorem graft_ok : ∀ {t u : Tr}, u ≠ no → ok t → ok u → ok (graft t u)
  | no, u, _, _, _ => trivial
  | lf, u, _, _, h => h
  | nd a b, u, hu, ⟨h1, h2, h3⟩, h => ⟨graft_ok hu h1 h, graft_ok hu h2 h, fun e => h3 ⟨(graft_no hu).mp e.1, (graft_no hu).mp e.2⟩⟩
theorem graft_full : ∀ {t u : Tr}, t ≠ no → ok t → (full (graft t u) ↔ full t ∧ full u)
  | no, u, h, _ => absurd rfl h
  | lf, u, _, _ => by simp [graft, full]
  | nd a b, u, _, ⟨h1, h2, h3⟩ => by
    simp only [graft, full]
    by_cases ha : a = no
    · subst ha
      simp [graft, full]
    · by_cases hb : b = no
      · subst hb
        simp [graft, full]
      · rw [graft_full ha h1, graft_full hb h2]
        constructor
        · exact fun h => ⟨⟨h.1.1, h.2.1⟩, h.1.2⟩
        · exact fun h => ⟨⟨h.1.1, h.2⟩, ⟨h.1.2, h.2⟩⟩
theorem graft_size : ∀ (t u : Tr), size (graft t u) = size t * size u
  | no, u => by simp [graft, size]
  | lf, u => by simp [graft, size]
  | nd a b, u => by simp only [graft, size, graft_size a u, graft_size b u, Nat.add_mul]
theorem graft_hgt : ∀ (t u : Tr), hgt (graft t u) ≤ hgt t + hgt u
  | no, u => Nat.zero_le _
  | lf, u => by simp [graft, hgt]
  | nd a b, u => by
    have := graft_hgt a u
    have := graft_hgt b u
    simp only [graft, hgt]
    omega
end Tr
end DL

set_option Elab.async false
set_option linter.all false
set_option maxRecDepth 100000
set_option maxHeartbeats 2000000
/-! DL: written dicts. -/
namespace DL
open PySem PySem.Spec PyProof.Rows L2
section
variable (K : PySem.W.Frag) (C : Ctx) (F : Hp) (π : List Addr)
def RepP : List (D × D) → List (V × V) → Prop
  | [], l => l = []
  | (a, b) :: r, l => ∃ x y t, l = (x, y) :: t ∧ Rep K C F π a x ∧ Rep K C F π b y ∧ RepP r t
end
def SndP (K : PySem.W.Frag) (C : Ctx) (t : List (TE × TE)) (f : DF (List (D × D))) : Prop := ∀ E S d S', f E S = some (d, S') → ∀ Λ F π H σ, At K C Λ F π S H σ E → ∀ Q : List (V × V) → Hp → Prop,
  (∀ ps F' π' H', Ext F π H F' π' H' → Wd K C Λ F' π' S' H' → RepP K C F' π' d ps → Q ps H') → tPairs t σ H Q
def DP (X : Cx) (C : Ctx) (pos : Pos) (ks : List (Option Expr)) (vs : List Expr) (f : DF (List (D × D))) : Prop := ∃ t, PPs X pos ks vs t ∧ SndP X.K C t f
def dPNil : DF (List (D × D)) := fun _ S => some ([], S)
def dPCons (fk fv : DF D) (f : DF (List (D × D))) : DF (List (D × D)) := fun E S => (fk E S).bind fun k => (fv E k.2).bind fun v => (f E v.2).map fun r => ((k.1, v.1) :: r.1, r.2)
section
variable {X : Cx} {C : Ctx} {pos : Pos} {k v : Expr} {ks : List (Option Expr)} {vs : List Expr} {fk fv : DF D} {f : DF (List (D × D))}
theorem dp_nil : DP X C pos [] [] dPNil := by
  refine ⟨_, pps_nil, fun E S d S' q Λ F π H σ w Q p => ?_⟩
  cases q
  exact p [] F π H (Ext.refl _ _ _) w.w rfl
theorem dp_cons (hk : DE X C k fk) (hv : DE X C v fv) (hr : DP X C pos ks vs f) : DP X C pos (some k :: ks) (v :: vs) (dPCons fk fv f) := by
  obtain ⟨tk, a1, a2⟩ := hk
  obtain ⟨tv, b1, b2⟩ := hv
  obtain ⟨t, c1, c2⟩ := hr
  refine ⟨_, pps_cons a1 b1 c1, fun E S d S' q Λ F π H σ w Q p => ?_⟩
  obtain ⟨⟨x, S1⟩, q1, q⟩ := Option.bind_eq_some_iff.mp q
  obtain ⟨⟨y, S2⟩, q2, q⟩ := Option.bind_eq_some_iff.mp q
  obtain ⟨⟨r, S3⟩, q3, q4⟩ := Option.map_eq_some_iff.mp q
  cases q4
  refine a2 E S x S1 q1 Λ F π H σ w _ fun u F1 π1 H1 e1 w1 r1 => ?_
  refine b2 E S1 y S2 q2 Λ F1 π1 H1 σ (w.step e1 w1) _ fun u2 F2 π2 H2 e2 w2 r2 => ?_
  refine c2 E S2 r S3 q3 Λ F2 π2 H2 σ (w.step (e1.trans e2) w2) _ fun ps F3 π3 H3 e3 w3 r3 => ?_
  have e23 := e2.trans e3
  exact p _ F3 π3 H3 ((e1.trans e2).trans e3) w3 ⟨u, u2, ps, rfl, Rep.mono e23.f e23.p _ _ r1, Rep.mono e3.f e3.p _ _ r2, r3⟩
def keysAll : List (D × D) → Option (List (Key × D))
  | [] => some []
  | (k, x) :: r => match keyOf k, keysAll r with
    | some key, some l => some ((key, x) :: l)
    | _, _ => none
theorem keysAll_ok {K : PySem.W.Frag} {F : Hp} {π : List Addr} : ∀ {ds : List (D × D)} {ps : List (V × V)} {l : List (Key × D)}, RepP K C F π ds ps → keysAll ds = some l → ∃ kvs : List (Key × V), ps = kvs.map (fun kv => (kV kv.1, kv.2)) ∧ RepM (Rep K C F π) l kvs ∧ l.length = ds.length
  | [], ps, l, r, h => by
    cases h
    exact ⟨[], r, rfl, rfl⟩
  | (k, x) :: ds, ps, l, r, h => by
    obtain ⟨a, b, t, rfl, r1, r2, r3⟩ := r
    unfold keysAll at h
    split at h
    · rename_i key l' h1 h2
      cases h
      obtain ⟨kvs, e1, e2, e3⟩ := keysAll_ok r3 h2
      refine ⟨(key, b) :: kvs, ?_, ⟨b, kvs, rfl, r2, e2⟩, ?_⟩
      · rw [keyOf_ok r1 h1, e1]
        rfl
      · rw [List.length_cons, List.length_cons, e3]
    · cases h
def mergeD (l : List (Key × D)) : List (Key × D) := l.foldl (fun a p => putD a p.1 p.2) []
def dDisp (f : DF (List (D × D))) : DF (List (Key × D)) := fun E S => (f E S).bind fun p => if p.1.length ≤ 15 then (keysAll p.1).map fun l => (mergeD l, p.2) else none
theorem merge_m {R : D → V → Prop} : ∀ {l : List (Key × D)} {kvs : List (Key × V)} {a : List (Key × D)} {b : List (Key × V)}, RepM R a b → RepM R l kvs → RepM R (l.foldl (fun a p => putD a p.1 p.2) a) (mergeK b kvs)
  | [], kvs, a, b, ha, h => by
    rw [show kvs = [] from h]
    exact ha
  | (k, x) :: l, kvs, a, b, ha, h => by
    obtain ⟨v, t, rfl, h1, h2⟩ := h
    exact merge_m (l := l) (kvs := t) (a := putD a k x) (b := putK b k v) (ha.put h1 k) h2
theorem snd_disp {K : PySem.W.Frag} {t : List (TE × TE)} (h : SndP K C t f) : SndM K C (tDisp t) (dDisp f) := by
  intro E S l S' q Λ F π H σ w Q p
  obtain ⟨⟨ds, S1⟩, q1, q⟩ := Option.bind_eq_some_iff.mp q
  simp only at q
  split at q
  · rename_i h15
    obtain ⟨l', q2, q3⟩ := Option.map_eq_some_iff.mp q
    cases q3
    intro a ha
    have b0 : Bd K C Λ a F π H F π S (upd H a (.dK [])) (.dK []) := Bd.start w.w ha ⟨[], upd_same, rfl⟩
    refine h E S ds S' q1 Λ F π _ σ ⟨b0.w, w.r⟩ _ fun ps F1 π1 H1 e1 w1 r1 => ?_
    have b1 := b0.step e1 w1
    obtain ⟨vs, hv, rv⟩ := b1.r
    have : vs = [] := rv
    subst this
    obtain ⟨kvs, k1, k2, k3⟩ := keysAll_ok r1 q2
    refine ⟨hv, kvs, k1, by rw [k2.length, k3]; exact h15, ?_⟩
    exact p a F1 π1 _ (b1.put (ob2 := .dK (mergeD l')) ha ⟨_, upd_same, repK_m.mpr (merge_m (a := []) (b := []) rfl k2)⟩) ha
  · cases q
theorem de_disp (new : Bool) (h : DP X C pos ks vs f) (hall : ks.all (·.isSome) = true := by rfl) (hl : ks.length = vs.length := by rfl) (h0 : ks ≠ [] := by exact nofun) (h15 : ks.length ≤ 15 := by decide) : DE X C (.Dict ks vs pos) (if new then dNewD (dDisp f) else dTreeK (dDisp f)) := by
  obtain ⟨t, a, b⟩ := h
  exact ⟨_, pe_disp a hall hl h0 h15, (snd_disp b).snd new⟩
end
end DL

set_option Elab.async false
set_option linter.all false
set_option maxRecDepth 100000
set_option maxHeartbeats 2000000
/-! DL: lists of unlike lengths compared. -/
namespace DL
open PySem PySem.Spec PyProof.Rows L2
section
variable {X : Cx} {C : Ctx} {a b : Expr} {fa fb : DF D} {pos : Pos}
def rEqLen (K : PySem.W.Frag) : R2 := fun x y H Q => ∃ a b xs ys, x = .ref a ∧ y = .ref b ∧ SqL K H a xs ∧ SqL K H b ys ∧ xs.length ≠ ys.length ∧ Q (.bl false) H
theorem op_eqLen (hu : X.A.units + 64 < cLine) : OpR X (compareOp .Eq) (rEqLen X.K) := by
  intro pins s σ H x y v u Q I rx ry h
  obtain ⟨a, b, xs, ys, rfl, rfl, h1, h2, hn, q⟩ := h
  cases rx
  cases ry
  obtain ⟨its, r1, p1, _⟩ := I.list h1
  obtain ⟨its2, r2, p2, _⟩ := I.list h2
  have l1 := r1.length
  have l2 := r2.length
  exact SeqAt.RcAt.lists_lengths p1.isList p2.isList (by simp only [List.size_toArray, bne_iff_ne]; omega) (by omega) X.prog X.w _ _ ⟨.bl _, H, I, rfl, q⟩
def opEqL (S : List Ob) (x y : D) : Option D := match lstOf S x, lstOf S y with
  | some xs, some ys => if xs.length ≠ ys.length then some (.bl false) else if xs.length = 0 then some (.bl true) else none
  | _, _ => none
theorem o2_eqL {K : PySem.W.Frag} : Op2 K C (fun x y H Q => rEqLen K x y H Q ∨ rEqD K x y H Q) opEqL := by
  intro Λ F π S H dx dy x y d h w rx ry Q p
  unfold opEqL at h
  split at h
  · rename_i xs ys h1 h2
    obtain ⟨a, vs, rfl, q1, q2⟩ := lstOf_ok w rx h1
    obtain ⟨b, us, rfl, q3, q4⟩ := lstOf_ok w ry h2
    split at h
    · rename_i hn
      cases h
      exact .inl ⟨a, b, vs, us, rfl, rfl, SqL.of q1, SqL.of q3, by rw [q2.length, q4.length]; exact hn, p.val w rfl⟩
    · rename_i hn
      split at h
      · rename_i h0
        cases h
        have e1 : xs = [] := List.length_eq_zero_iff.mp h0
        have e2 : ys = [] := List.length_eq_zero_iff.mp (by omega)
        subst e1
        subst e2
        cases (show vs = [] from q2)
        cases (show us = [] from q4)
        exact .inr ⟨.list [], .list [], .lst (SqL.of q1) .nil, .lst (SqL.of q3) .nil, by decide, by decide, p.val w rfl⟩
      · cases h
  · cases h
theorem de_eqL (hu : X.A.units + 64 < cLine) (ha : DE X C a fa) (hb : DE X C b fb) : DE X C (.Compare a [.Eq] [b] pos) (dBin opEqL fa fb) := de_cmp ((op_eqLen hu).or (op_eqD hu)) o2_eqL ha hb
theorem dt_eqL (hu : X.A.units + 64 < cLine) (ha : DE X C a fa) (hb : DE X C b fb) : DT X C (.Compare a [.Eq] [b] pos) (dTest (dBin opEqL fa fb)) := dt_cmp ((op_eqLen hu).or (op_eqD hu)) o2_eqL ha hb
end
end DL

set_option Elab.async false
set_option linter.all false
set_option maxRecDepth 100000
set_option maxHeartbeats 4000000
/-! P17: codes made of codes. -/
namespace DL
open PySem PySem.Spec PyProof.Rows L2
noncomputable section
local macro_rules | `(tactic| walk_at "wp") => `(tactic| first
  | (with_reducible first | apply w_seq | apply w_sV | apply w_sW | apply w_if | apply w_asg | apply w_ret | apply w_drop | apply w_sNil | apply w_test | apply w_not | apply w_bin | apply w_c0 | apply w_c1 | apply w_cn | apply w_c | apply w_nil | apply w_cons | apply w_few | apply w_tree | apply w_new | apply w_tup | apply w_cb | apply w_call | apply w_isi | apply w_fld | apply w_nopart | apply w_part | apply w_slL | apply w_slS | apply w_dget | apply w_newK | apply w_newT | apply w_app | apply w_lst0 | apply w_prop | apply w_ownE | apply w_ownN | apply w_catN | apply w_get1 | apply w_get2 | apply w_and | apply w_or | apply w_andV | apply w_orV | apply w_notV | apply w_dif | apply w_retN | apply w_par | apply w_gN | apply w_gsNil | apply w_gsCons | apply w_gSetL | apply w_asgG | apply w_sFld | apply w_sDP | apply w_iLst | apply w_iTu | apply w_iSt | apply w_iRg1 | apply w_iRg2 | apply w_for | apply w_lc | apply w_lock | apply w_iDk | apply w_join | apply w_meth | apply nxt_nx | apply nxt_rt)
  | (with_reducible refine w_var (by with_unfolding_all rfl) ?_) | (with_reducible refine w_gTu (by with_unfolding_all rfl) (by with_unfolding_all rfl) ?_) | (with_reducible refine w_aug (by with_unfolding_all rfl) ?_)
  | ((fail_if_success (with_reducible apply wp_id)); first
  | (refine ⟨lenOk (Nat.le_of_ble_eq_true rfl), ?_⟩) | (refine ⟨show _ ≤ 1000000 by omega, ?_⟩) | (refine ⟨(Nat.le_of_ble_eq_true rfl : _ ≤ 1000000), ?_⟩) | (refine ⟨rfl, ?_⟩)
  | (refine br_t ?_) | (refine br_f ?_) | (with_reducible refine br_n ?_) | (refine br_yes (by first | assumption | exact rfl | omega) ?_) | (refine br_no (by first | assumption | omega) ?_)
  | (with_reducible refine ⟨_, eq_int _ _, ?_⟩) | (with_reducible refine ⟨_, ne_int _ _, ?_⟩) | (with_reducible refine ⟨_, eq_wd _ _, ?_⟩) | (with_reducible refine ⟨_, ne_wd _ _, ?_⟩) | (with_reducible refine ⟨_, eq_str _ _, ?_⟩) | (with_reducible refine ⟨_, ne_str _ _, ?_⟩) | (with_reducible refine ⟨_, in_tup _, ?_⟩) | (with_reducible refine ⟨_, in_lst _, ?_⟩) | (with_reducible refine ⟨_, len_lst', ?_⟩) | (with_reducible refine ⟨_, add_wd (by first | omega | (simp; omega)), ?_⟩)
  | (with_reducible refine ⟨_, opMul_ev (.inr (by omega)), ?_⟩) | (with_reducible refine ⟨_, opMul_ev (.inl (by omega)), ?_⟩) | (with_reducible refine ⟨_, opMod_ev (by first | assumption | omega), ?_⟩) | (with_reducible refine ⟨_, opDiv_ev (by first | assumption | omega), ?_⟩)
  | (with_reducible refine ⟨_, add_int _ _, ?_⟩) | (with_reducible refine ⟨_, sub_int _ _, ?_⟩) | (with_reducible refine ⟨_, cmp_int _ _, ?_⟩) | (with_reducible refine ⟨_, lst_lst _, ?_⟩) | (with_reducible refine ⟨_, tup_tup _, ?_⟩) | (with_reducible refine ⟨_, isi_str _, ?_⟩) | (with_reducible refine ⟨_, isi_lst _, ?_⟩) | (with_reducible refine ⟨_, isi_code _, ?_⟩) | (with_reducible refine ⟨_, int_int _, ?_⟩) | (with_reducible refine ⟨_, str_str _, ?_⟩) | (with_reducible refine ⟨_, is_tup _, ?_⟩) | (with_reducible refine ⟨_, is_non, ?_⟩) | (with_reducible refine ⟨_, isn_tup _, ?_⟩) | (with_reducible refine ⟨_, isn_non, ?_⟩) | (with_reducible refine ⟨_, isn_bl _ _, ?_⟩) | (with_reducible refine ⟨_, is_bl _ _, ?_⟩) | (with_reducible refine ⟨_, list_lst _, ?_⟩) | (with_reducible refine ⟨_, fld_waysW _, ?_⟩) | (with_reducible refine ⟨_, fld_headsW _, ?_⟩) | (with_reducible refine ⟨_, fld_rowsW _, ?_⟩) | (with_reducible refine ⟨_, lstOf_end _, ?_⟩) | (with_reducible apply ex_bl) | (with_reducible apply ex_int) | (with_reducible apply ex_str) | (with_reducible apply ex_two) | (with_reducible apply ex_rg) | (with_reducible refine ex_rgi (by with_unfolding_all rfl) ?_))
  | fail)
open Tr (neg)
theorem w_disp {E : SE} {S : List Ob} {f : DF (List (D × D))} {Q : D → List Ob → Prop} (h : Wp (f E S) fun ds S1 => ds.length ≤ 15 ∧ ∃ l, keysAll ds = some l ∧ Q (.dK (mergeD l)) S1) : Wp (dTreeK (dDisp f) E S) Q := by
  obtain ⟨ds, S1, e, h1, l, h2, q⟩ := h
  refine .of ?_ q
  unfold dTreeK dDisp
  rw [e, Option.bind_some, if_pos h1]
  simp only [h2, Option.map_some]
theorem exch_get {S : List Ob} (b : Bool) : dTreeK (dDisp (dPCons (dC (.str "0")) (dC (.str "1")) (dPCons (dC (.str "1")) (dC (.str "0")) dPNil))) = fun _ S => some (.dK [(.inr (ws [false]), wd [true]), (.inr (ws [true]), wd [false])], S) := by
  funext E S
  rw [show ("0" : Str) = ws [false] from s_zero, show ("1" : Str) = ws [true] from s_one]
  rfl
def g_exchanged : DFS := (sRet (dJoin (dC (.str "")) (dTree (dLc [1] (iSt (dVar 0)) (gN 1) dYes (dDGet (dTreeK (dDisp (dPCons (dC (.str "0")) (dC (.str "1")) (dPCons (dC (.str "1")) (dC (.str "0")) dPNil)))) (dVar 1))))))
def c_exchanged := runB 2 g_exchanged
theorem bits_flat (r : Row) (f : Bool → Bool) : (r.map fun b => [f b]).flatten = r.map f := by
  induction r with
  | nil => rfl
  | cons b r ih => simp [ih]
theorem exchanged_ok {S : List Ob} {r : Row} (h : r.length ≤ 100000) : c_exchanged [wd r] S = some (wd (neg r), S) := by
  have key : Wp (c_exchanged [wd r] S) fun d S' => d = wd (neg r) ∧ S' = S := by
    refine w_run ?_
    unfold g_exchanged
    repeat' (walk_at "wp")
    rw [signs_ws]
    refine lcm_by r (fun x => wd [x]) (fun x => wd [!x]) gv_fix (by omega) (fun x _ => ?_) ?_
    · rw [exch_get (S := S) x]
      repeat' (walk_at "wp")
      refine .of rfl (.of (dVar_ev rfl) ⟨wd [!x], ?_, rfl, rfl⟩)
      cases x <;> rfl
    · repeat' (walk_at "wp")
      have e : (r.map fun x => wd [!x]) = (r.map fun x => [!x]).map wd := by rw [List.map_map]; rfl
      have fl := bits_flat r (fun x => !x)
      refine ⟨_, joinO_nil (W := r.map fun x => [!x]) (by rw [e]; rfl) (by rw [fl, List.length_map]; omega), ?_⟩
      rw [fl]
      exact ⟨rfl, rfl⟩
  obtain ⟨d, S', e, rfl, rfl⟩ := key
  exact e
def g__law_mirror : DFS := (sRet (dJoin (dC (.str "")) (dTree (dLc [1] (iSt (dVar 0)) (gN 1) dYes (dBin atD (dTree (few (dCons (dC (.str "1")) (dCons (dC (.str "0")) dNil)))) (dCB fInt (dCons (dBin opEq (dVar 1) (dC (.str "1"))) dNil)))))))
def c__law_mirror := runB 2 g__law_mirror
theorem law_mirror_ok {S : List Ob} {r : Row} (h : r.length ≤ 100000) : c__law_mirror [wd r] S = some (wd (neg r), S) := by
  have key : Wp (c__law_mirror [wd r] S) fun d S' => d = wd (neg r) ∧ S' = S := by
    refine w_run ?_
    unfold g__law_mirror
    repeat' (walk_at "wp")
    rw [signs_ws]
    refine lcm_by r (fun x => wd [x]) (fun x => wd [!x]) gv_fix (by omega) (fun x _ => ?_) ?_
    · repeat' (walk_at "wp")
      have e1 : fInt S [.bl (decide ([x] = [true]))] = some (.int (if x = true then 1 else 0)) := by cases x <;> rfl
      refine ⟨_, e1, wd [!x], ?_, rfl, rfl⟩
      cases x <;> rfl
    · repeat' (walk_at "wp")
      have e : (r.map fun x => wd [!x]) = (r.map fun x => [!x]).map wd := by rw [List.map_map]; rfl
      have fl := bits_flat r (fun x => !x)
      refine ⟨_, joinO_nil (W := r.map fun x => [!x]) (by rw [e]; rfl) (by rw [fl, List.length_map]; omega), ?_⟩
      rw [fl]
      exact ⟨rfl, rfl⟩
  obtain ⟨d, S', e, rfl, rfl⟩ := key
  exact e
def g_check_code : DFS := (sIf (dNot (dTest (dIsi (isiO 0) (dVar 0)))) sNever sNil)
def c_check_code := runB 1 g_check_code
theorem check_code_ok {S : List Ob} {W : List Row} : c_check_code [codeW W] S = some (.non, S) := by
  have key : Wp (c_check_code [codeW W] S) fun r S' => r = .non ∧ S' = S := by
    refine w_run ?_
    unfold g_check_code
    repeat' (walk_at "wp")
    all_goals first | rfl | exact ⟨rfl, rfl⟩
  obtain ⟨r, S', e, rfl, rfl⟩ := key
  exact e
def mirW (W : List Row) : List Row := W.map neg
theorem mem_mirW {W : List Row} {r : Row} : r ∈ mirW W ↔ neg r ∈ W := by
  unfold mirW
  rw [List.mem_map]
  constructor
  · rintro ⟨a, h, rfl⟩
    rw [Tr.neg_neg]
    exact h
  · exact fun h => ⟨_, h, Tr.neg_neg r⟩
theorem mirW_ok {W : List Row} (G : CodeOk W) : CodeOk (mirW W) := by
  have e : ∀ X : List Row, (headsW (mirW X)).length = (headsW X).length := fun X => by
    induction X with
    | nil => rfl
    | cons x X ih =>
      simp only [mirW, headsW, List.map_cons, List.flatMap_cons, List.length_append, begs_len, Tr.neg_len] at ih ⊢
      rw [ih]
  refine ⟨⟨by simpa [mirW] using G.g.two, by simpa [mirW] using G.g.many, fun w hw => ?_, fun w hw e => ?_, ?_, fun w hw i hi hm => ?_⟩, by rw [e]; exact G.h⟩
  · have := G.g.len _ (mem_mirW.mp hw)
    rwa [Tr.neg_len] at this
  · subst e
    exact G.g.ne _ (mem_mirW.mp hw) rfl
  · exact List.pairwise_map.mpr (G.g.nd.imp fun h e => h (Tr.neg_inj e))
  · have h1 := mem_mirW.mp hw
    have h2 := mem_mirW.mp hm
    rw [Tr.neg_take] at h2
    exact G.g.pf _ h1 i (by rw [Tr.neg_len]; exact hi) h2
def g_mirrored : DFS := (sSeq (sDrop (dCall 1 c_check_code (dCons (dVar 0) dNil)))
    (sRet (dCall 1 M_Code (dCons (dTree (dLc [1] (iTu (dFld "rows" (dVar 0))) (gN 1) dYes (dCall 1 c_exchanged (dCons (dVar 1) dNil)))) dNil))))
def c_mirrored := runB 2 g_mirrored
theorem mirrored_ok {S : List Ob} {W : List Row} (G : CodeOk W) : c_mirrored [codeW W] S = some (codeW (mirW W), S) := by
  have key : Wp (c_mirrored [codeW W] S) fun r S' => r = codeW (mirW W) ∧ S' = S := by
    have G1 : CodeOk (mirW (ordR W)) := mirW_ok (G.perm ((List.perm_ext_iff_of_nodup (nodup_ordR _) G.g.nd).mpr fun r => mem_ordR))
    have hl : (ordR W).length ≤ 2000 := by rw [ordR_len G.g.nd]; exact G.g.many
    refine w_run ?_
    unfold g_mirrored
    repeat' (walk_at "wp")
    refine .of check_code_ok ?_
    repeat' (walk_at "wp")
    refine lcm_by (ordR W) wd (fun w => wd (neg w)) gv_fix (by omega) (fun w hw => ?_) ?_
    · have := G.g.len w (mem_ordR.mp hw)
      repeat' (walk_at "wp")
      exact .of (exchanged_ok (by omega)) ⟨rfl, rfl⟩
    · repeat' (walk_at "wp")
      refine .of (code_ok (W := mirW (ordR W)) (by rw [lst_lst, mirW, List.map_map]; rfl) G1) ?_
      have e : codeW (mirW (ordR W)) = codeW (mirW W) := codeW_ext fun r => by rw [mem_mirW, mem_mirW, mem_ordR]
      rw [e]
      exact ⟨rfl, rfl⟩
  obtain ⟨r, S', e, rfl, rfl⟩ := key
  exact e
end
end DL


set_option Elab.async false
set_option linter.all false
set_option maxRecDepth 100000
set_option maxHeartbeats 4000000
/-! P18: filled, in turn. -/
namespace DL
open PySem PySem.Spec PyProof.Rows L2
noncomputable section
local macro_rules | `(tactic| walk_at "wp") => `(tactic| first
  | (with_reducible first | apply w_seq | apply w_sV | apply w_sW | apply w_if | apply w_asg | apply w_ret | apply w_drop | apply w_sNil | apply w_test | apply w_not | apply w_bin | apply w_c0 | apply w_c1 | apply w_cn | apply w_c | apply w_nil | apply w_cons | apply w_few | apply w_tree | apply w_new | apply w_tup | apply w_cb | apply w_call | apply w_isi | apply w_fld | apply w_nopart | apply w_part | apply w_slL | apply w_slS | apply w_dget | apply w_newK | apply w_newT | apply w_app | apply w_lst0 | apply w_prop | apply w_ownE | apply w_ownN | apply w_catN | apply w_get1 | apply w_get2 | apply w_and | apply w_or | apply w_andV | apply w_orV | apply w_notV | apply w_dif | apply w_retN | apply w_par | apply w_gN | apply w_gsNil | apply w_gsCons | apply w_gSetL | apply w_asgG | apply w_sFld | apply w_sDP | apply w_iLst | apply w_iTu | apply w_iSt | apply w_iRg1 | apply w_iRg2 | apply w_for | apply w_lc | apply w_lock | apply w_iDk | apply w_join | apply w_meth | apply nxt_nx | apply nxt_rt)
  | (with_reducible refine w_var (by with_unfolding_all rfl) ?_) | (with_reducible refine w_gTu (by with_unfolding_all rfl) (by with_unfolding_all rfl) ?_) | (with_reducible refine w_aug (by with_unfolding_all rfl) ?_)
  | ((fail_if_success (with_reducible apply wp_id)); first
  | (refine ⟨lenOk (Nat.le_of_ble_eq_true rfl), ?_⟩) | (refine ⟨show _ ≤ 1000000 by omega, ?_⟩) | (refine ⟨(Nat.le_of_ble_eq_true rfl : _ ≤ 1000000), ?_⟩) | (refine ⟨rfl, ?_⟩)
  | (refine br_t ?_) | (refine br_f ?_) | (with_reducible refine br_n ?_) | (refine br_yes (by first | assumption | exact rfl | omega) ?_) | (refine br_no (by first | assumption | omega) ?_)
  | (with_reducible refine ⟨_, eq_int _ _, ?_⟩) | (with_reducible refine ⟨_, ne_int _ _, ?_⟩) | (with_reducible refine ⟨_, eq_wd _ _, ?_⟩) | (with_reducible refine ⟨_, ne_wd _ _, ?_⟩) | (with_reducible refine ⟨_, eq_str _ _, ?_⟩) | (with_reducible refine ⟨_, ne_str _ _, ?_⟩) | (with_reducible refine ⟨_, in_tup _, ?_⟩) | (with_reducible refine ⟨_, in_lst _, ?_⟩) | (with_reducible refine ⟨_, len_lst', ?_⟩) | (with_reducible refine ⟨_, add_wd (by first | omega | (simp; omega)), ?_⟩)
  | (with_reducible refine ⟨_, opMul_ev (.inr (by omega)), ?_⟩) | (with_reducible refine ⟨_, opMul_ev (.inl (by omega)), ?_⟩) | (with_reducible refine ⟨_, opMod_ev (by first | assumption | omega), ?_⟩) | (with_reducible refine ⟨_, opDiv_ev (by first | assumption | omega), ?_⟩)
  | (with_reducible refine ⟨_, add_int _ _, ?_⟩) | (with_reducible refine ⟨_, sub_int _ _, ?_⟩) | (with_reducible refine ⟨_, cmp_int _ _, ?_⟩) | (with_reducible refine ⟨_, lst_lst _, ?_⟩) | (with_reducible refine ⟨_, tup_tup _, ?_⟩) | (with_reducible refine ⟨_, isi_str _, ?_⟩) | (with_reducible refine ⟨_, isi_lst _, ?_⟩) | (with_reducible refine ⟨_, isi_code _, ?_⟩) | (with_reducible refine ⟨_, int_int _, ?_⟩) | (with_reducible refine ⟨_, str_str _, ?_⟩) | (with_reducible refine ⟨_, is_tup _, ?_⟩) | (with_reducible refine ⟨_, is_non, ?_⟩) | (with_reducible refine ⟨_, isn_tup _, ?_⟩) | (with_reducible refine ⟨_, isn_non, ?_⟩) | (with_reducible refine ⟨_, isn_bl _ _, ?_⟩) | (with_reducible refine ⟨_, is_bl _ _, ?_⟩) | (with_reducible refine ⟨_, list_lst _, ?_⟩) | (with_reducible refine ⟨_, fld_waysW _, ?_⟩) | (with_reducible refine ⟨_, fld_headsW _, ?_⟩) | (with_reducible refine ⟨_, fld_rowsW _, ?_⟩) | (with_reducible refine ⟨_, lstOf_end _, ?_⟩) | (with_reducible apply ex_bl) | (with_reducible apply ex_int) | (with_reducible apply ex_str) | (with_reducible apply ex_two) | (with_reducible apply ex_rg) | (with_reducible refine ex_rgi (by with_unfolding_all rfl) ?_))
  | fail)
open Tr
theorem w_ext {E : SE} {S : List Ob} {fo fx : DF D} {Q : D → List Ob → Prop} (h : Wp (fo E S) fun o S1 => Wp (fx E S1) fun d S2 => ∃ k xs ys x0, o = .ptr k ∧ S1[k]? = some (.lst x0) ∧ S2[k]? = some (.lst xs) ∧ lstOf S2 d = some ys ∧ xs.length + ys.length ≤ sizeLine ∧ Q .non (S2.set k (.lst (xs ++ ys)))) : Wp (dExt fo fx E S) Q := by
  obtain ⟨o, S1, e1, d, S2, e2, k, xs, ys, x0, rfl, h1, h2, h3, h4, q⟩ := h
  exact .of (dExt_ev e1 e2 h1 h2 h3 h4) q
/-! filled -/
def gapsW (W : List Row) (s : Row) : List Row := ([false, true].filter fun b => !(nextW W s b).isSome).map fun b => s ++ [b]
def fillW (W : List Row) : List Row := ordR W ++ (ordR (headsW W)).flatMap (gapsW W)
theorem mem_gaps {W : List Row} {s r : Row} : r ∈ gapsW W s ↔ ∃ b, nextW W s b = none ∧ r = s ++ [b] := by
  unfold gapsW
  rw [List.mem_map]
  constructor
  · rintro ⟨b, h, rfl⟩
    have := (List.mem_filter.mp h).2
    exact ⟨b, by simpa using this, rfl⟩
  · rintro ⟨b, h, rfl⟩
    exact ⟨b, List.mem_filter.mpr ⟨by cases b <;> simp, by simp [h]⟩, rfl⟩
theorem snoc_inj {s s' : Row} {b b' : Bool} (h : s ++ [b] = s' ++ [b']) : s = s' ∧ b = b' := by
  have := List.append_inj' h rfl
  exact ⟨this.1, by simpa using this.2⟩
theorem gaps_nd (W : List Row) (s : Row) : (gapsW W s).Nodup := by
  unfold gapsW
  refine List.pairwise_map.mpr ?_
  have : ([false, true].filter fun b => !(nextW W s b).isSome).Nodup := List.Pairwise.filter _ (by decide)
  exact this.imp fun h e => h (snoc_inj e).2
theorem next_none {W : List Row} {s : Row} {b : Bool} : nextW W s b = none ↔ s ++ [b] ∉ W ∧ s ++ [b] ∉ headsW W := by
  unfold nextW
  by_cases h1 : s ++ [b] ∈ W
  · simp [h1]
  · by_cases h2 : s ++ [b] ∈ headsW W <;> simp [h1, h2]
theorem fillW_nd (W : List Row) : (fillW W).Nodup := by
  refine List.nodup_append.mpr ⟨nodup_ordR _, ?_, ?_⟩
  · refine List.pairwise_flatMap.mpr ⟨fun s _ => gaps_nd W s, (nodup_ordR _).imp fun {s s'} h x hx y hy e => ?_⟩
    obtain ⟨b, _, rfl⟩ := mem_gaps.mp hx
    obtain ⟨b', _, rfl⟩ := mem_gaps.mp hy
    exact h (snoc_inj e).1
  · intro x hx y hy e
    subst e
    obtain ⟨s, _, h⟩ := List.mem_flatMap.mp hy
    obtain ⟨b, hb, rfl⟩ := mem_gaps.mp h
    exact (next_none.mp hb).1 (mem_ordR.mp hx)
theorem mem_fillW {t : Tr} (hk : ok t) (hn : t ≠ no) (r : Row) : r ∈ fillW (words t) ↔ r ∈ words (fill t) := by
  rw [mem_fill hk hn]
  unfold fillW
  rw [List.mem_append, mem_ordR]
  refine or_congr Iff.rfl ?_
  rw [List.mem_flatMap]
  constructor
  · rintro ⟨s, hs, h⟩
    obtain ⟨b, hb, rfl⟩ := mem_gaps.mp h
    obtain ⟨h1, h2⟩ := next_none.mp hb
    rw [headsW_words hk] at h2
    exact ⟨s, (headsW_words hk s).mp (mem_ordR.mp hs), b, rfl, h1, h2⟩
  · rintro ⟨s, hs, b, rfl, h1, h2⟩
    refine ⟨s, mem_ordR.mpr ((headsW_words hk s).mpr hs), mem_gaps.mpr ⟨b, next_none.mpr ⟨h1, ?_⟩, rfl⟩⟩
    rw [headsW_words hk]
    exact h2
theorem fillW_perm {t : Tr} (hk : ok t) (hn : t ≠ no) : (fillW (words t)).Perm (words (fill t)) :=
  (List.perm_ext_iff_of_nodup (fillW_nd _) (nodup_words _)).mpr fun r => mem_fillW hk hn r
def g_filled : DFS := (sSeq (sDrop (dCall 1 c_check_code (dCons (dVar 0) dNil)))
    (sSeq (sAsg 1 (dNew (dCB fList (dCons (dFld "rows" (dVar 0)) dNil))))
    (sSeq (sV [2] (sFor (iTu (dFld "heads" (dVar 0))) (gN 2) (sW [2] (sDrop (dExt (dVar 1) (dTree (dLc [3] (iSt (dC (.str "01"))) (gN 3) (dTest (dBin opNotIn (dTup (dCons (dVar 2) (dCons (dVar 3) dNil))) (dFld "ways" (dVar 0)))) (dBin opAdd (dVar 2) (dVar 3)))))))))
    (sRet (dCall 1 M_Code (dCons (dVar 1) dNil))))))
theorem filled_run {S : List Ob} {W : List Row} (G : CodeOk W) (G2 : CodeOk (fillW W)) : Wp (runB 4 g_filled [codeW W] S) fun r S' => r = codeW (fillW W) ∧ ∃ T, S' = S ++ T := by
  refine w_run ?_
  unfold g_filled
  repeat' (walk_at "wp")
  refine .of check_code_ok ?_
  repeat' (walk_at "wp")
  refine ⟨_, (rfl : fList S [.tup ((ordR W).map wd)] = some ((ordR W).map wd)), ?_⟩
  repeat' (walk_at "wp")
  have hh : (ordR (headsW W)).length ≤ 4000 := by
    have h1 : (ordR (headsW W)).length = (ded (headsW W)).length := ((List.perm_ext_iff_of_nodup (nodup_ordR _) (nodup_ded _)).mpr fun r => by rw [mem_ordR, mem_ded]).length_eq
    have := ded_len (headsW W)
    have := G.h
    omega
  have hr : (ordR W).length ≤ 2000 := by rw [ordR_len G.g.nd]; exact G.g.many
  have gl : ∀ s, (gapsW W s).length ≤ 2 := fun s => by
    unfold gapsW
    rw [List.length_map]
    exact List.length_filter_le _ _
  refine for_by (ordR (headsW W)) wd (fun _ : List Row => [some (codeW W), some (.ptr S.length), none, none]) (fun L => S ++ [.lst (L.map wd)]) (fun i L => L = ordR W ++ ((ordR (headsW W)).take i).flatMap (gapsW W)) (ordR W) (by simp) (fun _ _ _ => gv_fix) ?_ ?_
  · rintro i s L rfl hs
    have hi := (List.getElem?_eq_some_iff.mp hs).1
    have hsh := mem_ordR.mp (List.mem_of_getElem? hs)
    have hsl := head_len G.g hsh
    repeat' (walk_at "wp")
    refine w_ext ?_
    repeat' (walk_at "wp")
    rw [s_01]
    refine lc_by [false, true] (fun b => wd [b]) (fun b => !(nextW W s b).isSome) (fun b => wd (s ++ [b])) gv_fix (by decide) (fun b _ => ?_) ?_
    · repeat' (walk_at "wp")
      refine ⟨_, notIn_ways hsh b, ?_⟩
      repeat' (walk_at "wp")
      refine fun _ => ?_
      repeat' (walk_at "wp")
      all_goals first | rfl | exact ⟨rfl, rfl⟩
    · repeat' (walk_at "wp")
      have e : (([false, true].filter fun b => !(nextW W s b).isSome).map fun b => wd (s ++ [b])) = (gapsW W s).map wd := by
        unfold gapsW
        rw [List.map_map]
        rfl
      rw [e]
      refine ⟨_, _, _, _, rfl, end_at, end_at, rfl, ?_, ?_⟩
      · have h1 := flat_len (gapsW W) 2 gl ((ordR (headsW W)).take i)
        have h2 := gl s
        rw [List.length_take] at h1
        rw [List.length_map, List.length_map, List.length_append]
        exact Nat.le_trans (show _ ≤ 1000000 by omega) (by decide)
      · rw [end_set]
        repeat' (walk_at "wp")
        refine ⟨ordR W ++ ((ordR (headsW W)).take (i + 1)).flatMap (gapsW W), rfl, ?_, rfl⟩
        rw [List.take_add_one, hs]
        simp
  · rintro L rfl
    rw [List.take_length]
    repeat' (walk_at "wp")
    refine .of (code_ok (W := fillW W) (lstOf_end _) G2) ?_
    exact ⟨rfl, _, rfl⟩
def RFill (ds : List D) (d : D) : Prop := ∃ W, ds = [codeW W] ∧ CodeOk W ∧ CodeOk (fillW W) ∧ d = codeW (fillW W)
theorem fill_det (ds : List D) (d e : D) (h1 : RFill ds d) (h2 : RFill ds e) : d = e := by
  obtain ⟨W, rfl, _, _, rfl⟩ := h1
  obtain ⟨V, e1, _, _, rfl⟩ := h2
  have h := codeW_eq.mp (List.cons.inj e1).1
  refine codeW_ext fun r => ?_
  unfold fillW
  have hg : gapsW W = gapsW V := by
    funext s
    unfold gapsW
    rw [nextW_ext h]
  rw [ordR_ext h, ordR_ext (headsW_ext h), hg]
def c_filled := cR RFill
theorem filled_frz : ∀ (ds : List D) (S : List Ob) (r : D × List Ob), ds.length = 1 → c_filled ds S = some r → ∃ r', runB 4 g_filled ds S = some r' ∧ RzR S r' r := by
  intro ds S r _ h
  obtain ⟨d, ⟨W, rfl, G, G2, rfl⟩, rfl⟩ := cR_some h
  obtain ⟨r, S', e, rfl, T, rfl⟩ := filled_run (S := S) G G2
  exact ⟨_, e, RzR.same (rz_bnd _ (codeW_bnd _ _))⟩
theorem filled_ok {S : List Ob} {t : Tr} (hk : ok t) (hn : t ≠ no) (G : CodeOk (words t)) (G2 : CodeOk (words (fill t))) : c_filled [codeW (words t)] S = some (codeW (words (fill t)), S) := by
  have := cR_ok fill_det (ds := [codeW (words t)]) (S := S) (d := codeW (fillW (words t))) ⟨_, rfl, G, G2.perm (fillW_perm hk hn), rfl⟩
  rwa [codeW_ext (mem_fillW hk hn)] at this
def g__law_filled : DFS := (sSeq (sAsgG (dTup (dCons (dTree (dCB fList (dCons (dVar 0) dNil))) (dCons (dCall 1 c__law_states (dCons (dVar 0) dNil)) dNil))) (gTu 2 (gsCons (gN 1) (gsCons (gN 2) gsNil))))
    (sSeq (sV [3] (sFor (iLst (dVar 2)) (gN 3) (sW [3] (sAsg 1 (dBin opAdd (dVar 1) (dTree (dLc [4] (iLst (dTree (few (dCons (dC (.str "0")) (dCons (dC (.str "1")) dNil))))) (gN 4) (dAnd (dTest (dBin opNotIn (dBin opAdd (dVar 3) (dVar 4)) (dVar 2))) (dTest (dBin opNotIn (dBin opAdd (dVar 3) (dVar 4)) (dVar 0)))) (dBin opAdd (dVar 3) (dVar 4)))))))))
    (sRet (dVar 1))))
def c__law_filled := runB 5 g__law_filled
theorem law_filled_ok {S : List Ob} {t : Tr} (hk : ok t) (hn : t ≠ no) (G : CodeOk (words t)) (hS : SmallS (words t)) : ∃ V : List Row, c__law_filled [.lst ((words t).map wd)] S = some (.lst (V.map wd), S) ∧ V.Perm (words (fill t)) := by
  have hsm := hS.1.n
  have hh : (ordR (headsW (words t))).length ≤ 400 := by
    have h1 : (ordR (headsW (words t))).length = (ded (headsW (words t))).length := ((List.perm_ext_iff_of_nodup (nodup_ordR _) (nodup_ded _)).mpr fun r => by rw [mem_ordR, mem_ded]).length_eq
    have := ded_len (headsW (words t))
    have := hS.2
    omega
  have gl : ∀ s, (gapsW (words t) s).length ≤ 2 := fun s => by
    unfold gapsW
    rw [List.length_map]
    exact List.length_filter_le _ _
  have key : Wp (c__law_filled [.lst ((words t).map wd)] S) fun r S' => r = .lst ((words t ++ (ordR (headsW (words t))).flatMap (gapsW (words t))).map wd) ∧ S' = S := by
    refine w_run ?_
    unfold g__law_filled
    repeat' (walk_at "wp")
    refine .of (cW_ok (P := SmallS) (W := words t) rfl hS) ?_
    repeat' (walk_at "wp")
    refine for_by (ordR (headsW (words t))) wd (fun L : List Row => [some (.lst ((words t).map wd)), some (.lst (L.map wd)), some (.lst ((ordR (headsW (words t))).map wd)), none, none]) (fun _ => S) (fun i L => L = words t ++ ((ordR (headsW (words t))).take i).flatMap (gapsW (words t))) (words t) (by simp) (fun _ _ _ => gv_lst) ?_ ?_
    · rintro i s L rfl hs
      have hi := (List.getElem?_eq_some_iff.mp hs).1
      have hsh := mem_ordR.mp (List.mem_of_getElem? hs)
      have hsl := head_len G.g hsh
      repeat' (walk_at "wp")
      refine lc_by [false, true] (fun b => wd [b]) (fun b => !(nextW (words t) s b).isSome) (fun b => wd (s ++ [b])) gv_lst (by decide) (fun b _ => ?_) ?_
      · repeat' (walk_at "wp")
        refine ⟨_, notIn_seq (W := ordR (headsW (words t))) rfl _, ?_⟩
        repeat' (walk_at "wp")
        refine br (fun h2 => ?_) (fun h2 => ?_)
        · have h2 := mem_ordR.mp h2
          have e : (nextW (words t) s b).isSome = true := by
            unfold nextW
            by_cases h1 : s ++ [b] ∈ words t <;> simp [h1, h2]
          rw [e]
          exact ⟨rfl, rfl, fun h => absurd h (by simp)⟩
        · have h2 : s ++ [b] ∉ headsW (words t) := fun h => h2 (mem_ordR.mpr h)
          repeat' (walk_at "wp")
          refine ⟨_, notIn_seq (W := words t) rfl _, ?_⟩
          repeat' (walk_at "wp")
          have e : (nextW (words t) s b).isSome = decide (s ++ [b] ∈ words t) := by
            unfold nextW
            by_cases h1 : s ++ [b] ∈ words t <;> simp [h1, h2]
          refine ⟨by rw [e], fun _ => ?_⟩
          repeat' (walk_at "wp")
          all_goals first | rfl | exact ⟨rfl, rfl⟩
      · repeat' (walk_at "wp")
        have e : (([false, true].filter fun b => !(nextW (words t) s b).isSome).map fun b => wd (s ++ [b])) = (gapsW (words t) s).map wd := by
          unfold gapsW
          rw [List.map_map]
          rfl
        rw [e]
        refine ⟨_, add_lst ?_, words t ++ ((ordR (headsW (words t))).take (i + 1)).flatMap (gapsW (words t)), ?_, rfl, rfl⟩
        · have h1 := flat_len (gapsW (words t)) 2 gl ((ordR (headsW (words t))).take i)
          have h2 := gl s
          rw [List.length_take] at h1
          rw [List.length_map, List.length_map, List.length_append]
          omega
        · rw [List.take_add_one, hs]
          simp [wOut, wipeE]
    · rintro L rfl
      rw [List.take_length]
      repeat' (walk_at "wp")
      all_goals first | rfl | exact ⟨rfl, rfl⟩
  obtain ⟨r, S', e, rfl, rfl⟩ := key
  refine ⟨_, e, ?_⟩
  refine List.Perm.trans ?_ (fillW_perm hk hn)
  exact List.Perm.append_right _ ((List.perm_ext_iff_of_nodup (nodup_words t) (nodup_ordR _)).mpr fun r => mem_ordR.symm)
/-! in turn -/
def grafts (ts : List Tr) : Tr := ts.foldl graft lf
def turnW (ts : List Tr) : List Row := ts.foldl (fun acc t => acc.flatMap fun a => (ordR (words t)).map (a ++ ·)) [[]]
def joinW (ts : List Tr) : List Row := ts.foldl (fun acc t => acc.flatMap fun a => (words t).map (a ++ ·)) [[]]
theorem joinW_words (ts : List Tr) : joinW ts = words (grafts ts) := by
  have : ∀ (ts : List Tr) (u : Tr), ts.foldl (fun acc t => acc.flatMap fun a => (words t).map (a ++ ·)) (words u) = words (ts.foldl graft u) := by
    intro ts
    induction ts with
    | nil => exact fun _ => rfl
    | cons t ts ih =>
      intro u
      rw [List.foldl_cons, List.foldl_cons, ← words_graft, ih]
  exact this ts lf
theorem turnW_snoc (ts : List Tr) (t : Tr) : turnW (ts ++ [t]) = (turnW ts).flatMap fun a => (ordR (words t)).map (a ++ ·) := by simp [turnW]
theorem grafts_snoc (ts : List Tr) (t : Tr) : grafts (ts ++ [t]) = graft (grafts ts) t := by simp [grafts]
theorem flat_perm {α β : Type} {f g : α → List β} (h : ∀ a, (f a).Perm (g a)) : ∀ l : List α, (l.flatMap f).Perm (l.flatMap g)
  | [] => List.Perm.refl _
  | a :: l => by
    rw [List.flatMap_cons, List.flatMap_cons]
    exact (h a).append (flat_perm h l)
theorem turnW_perm (ts : List Tr) : (turnW ts).Perm (words (grafts ts)) := by
  induction ts using snoc_ind with
  | h0 => exact List.Perm.refl _
  | h1 ts t ih =>
    rw [turnW_snoc, grafts_snoc, words_graft]
    refine (List.Perm.flatMap_right _ ih).trans (flat_perm (fun a => ?_) _)
    exact ((List.perm_ext_iff_of_nodup (nodup_ordR _) (nodup_words t)).mpr fun r => mem_ordR).map _
end
end DL


set_option Elab.async false
set_option linter.all false
set_option maxRecDepth 100000
set_option maxHeartbeats 4000000
/-! P19: in turn; facts for k06. -/
namespace DL
open PySem PySem.Spec PyProof.Rows L2
noncomputable section
local macro_rules | `(tactic| walk_at "wp") => `(tactic| first
  | (with_reducible first | apply w_seq | apply w_sV | apply w_sW | apply w_if | apply w_asg | apply w_ret | apply w_drop | apply w_sNil | apply w_test | apply w_not | apply w_bin | apply w_c0 | apply w_c1 | apply w_cn | apply w_c | apply w_nil | apply w_cons | apply w_few | apply w_tree | apply w_new | apply w_tup | apply w_cb | apply w_call | apply w_isi | apply w_fld | apply w_nopart | apply w_part | apply w_slL | apply w_slS | apply w_dget | apply w_newK | apply w_newT | apply w_app | apply w_lst0 | apply w_prop | apply w_ownE | apply w_ownN | apply w_catN | apply w_get1 | apply w_get2 | apply w_and | apply w_or | apply w_andV | apply w_orV | apply w_notV | apply w_dif | apply w_retN | apply w_par | apply w_gN | apply w_gsNil | apply w_gsCons | apply w_gSetL | apply w_asgG | apply w_sFld | apply w_sDP | apply w_iLst | apply w_iTu | apply w_iSt | apply w_iRg1 | apply w_iRg2 | apply w_for | apply w_lc | apply w_lock | apply w_iDk | apply w_join | apply w_meth | apply nxt_nx | apply nxt_rt)
  | (with_reducible refine w_var (by with_unfolding_all rfl) ?_) | (with_reducible refine w_gTu (by with_unfolding_all rfl) (by with_unfolding_all rfl) ?_) | (with_reducible refine w_aug (by with_unfolding_all rfl) ?_)
  | ((fail_if_success (with_reducible apply wp_id)); first
  | (refine ⟨lenOk (Nat.le_of_ble_eq_true rfl), ?_⟩) | (refine ⟨show _ ≤ 1000000 by omega, ?_⟩) | (refine ⟨(Nat.le_of_ble_eq_true rfl : _ ≤ 1000000), ?_⟩) | (refine ⟨rfl, ?_⟩)
  | (refine br_t ?_) | (refine br_f ?_) | (with_reducible refine br_n ?_) | (refine br_yes (by first | assumption | exact rfl | omega) ?_) | (refine br_no (by first | assumption | omega) ?_)
  | (with_reducible refine ⟨_, eq_int _ _, ?_⟩) | (with_reducible refine ⟨_, ne_int _ _, ?_⟩) | (with_reducible refine ⟨_, eq_wd _ _, ?_⟩) | (with_reducible refine ⟨_, ne_wd _ _, ?_⟩) | (with_reducible refine ⟨_, eq_str _ _, ?_⟩) | (with_reducible refine ⟨_, ne_str _ _, ?_⟩) | (with_reducible refine ⟨_, in_tup _, ?_⟩) | (with_reducible refine ⟨_, in_lst _, ?_⟩) | (with_reducible refine ⟨_, len_lst', ?_⟩) | (with_reducible refine ⟨_, add_wd (by first | omega | (simp; omega)), ?_⟩)
  | (with_reducible refine ⟨_, opMul_ev (.inr (by omega)), ?_⟩) | (with_reducible refine ⟨_, opMul_ev (.inl (by omega)), ?_⟩) | (with_reducible refine ⟨_, opMod_ev (by first | assumption | omega), ?_⟩) | (with_reducible refine ⟨_, opDiv_ev (by first | assumption | omega), ?_⟩)
  | (with_reducible refine ⟨_, add_int _ _, ?_⟩) | (with_reducible refine ⟨_, sub_int _ _, ?_⟩) | (with_reducible refine ⟨_, cmp_int _ _, ?_⟩) | (with_reducible refine ⟨_, lst_lst _, ?_⟩) | (with_reducible refine ⟨_, tup_tup _, ?_⟩) | (with_reducible refine ⟨_, isi_str _, ?_⟩) | (with_reducible refine ⟨_, isi_lst _, ?_⟩) | (with_reducible refine ⟨_, isi_code _, ?_⟩) | (with_reducible refine ⟨_, int_int _, ?_⟩) | (with_reducible refine ⟨_, str_str _, ?_⟩) | (with_reducible refine ⟨_, is_tup _, ?_⟩) | (with_reducible refine ⟨_, is_non, ?_⟩) | (with_reducible refine ⟨_, isn_tup _, ?_⟩) | (with_reducible refine ⟨_, isn_non, ?_⟩) | (with_reducible refine ⟨_, isn_bl _ _, ?_⟩) | (with_reducible refine ⟨_, is_bl _ _, ?_⟩) | (with_reducible refine ⟨_, list_lst _, ?_⟩) | (with_reducible refine ⟨_, fld_waysW _, ?_⟩) | (with_reducible refine ⟨_, fld_headsW _, ?_⟩) | (with_reducible refine ⟨_, fld_rowsW _, ?_⟩) | (with_reducible refine ⟨_, lstOf_end _, ?_⟩) | (with_reducible apply ex_bl) | (with_reducible apply ex_int) | (with_reducible apply ex_str) | (with_reducible apply ex_two) | (with_reducible apply ex_rg) | (with_reducible refine ex_rgi (by with_unfolding_all rfl) ?_))
  | fail)
open Tr
def g_in_turn : DFS := (sSeq (sIf (dOr (dNot (dTest (dIsi (isiB "list") (dVar 0)))) (dOr (dTest (dBin opEqL (dVar 0) (dTree (few dNil)))) (dTest (dBin opNe (dTree (dLc [2] (iLst (dVar 0)) (gN 2) (dNot (dTest (dIsi (isiO 0) (dVar 2)))) (dVar 2))) (dTree (few dNil)))))) sNever sNil)
    (sSeq (sAsg 1 (dTree (few (dCons (dC (.str "")) dNil))))
    (sSeq (sV [2] (sFor (iLst (dVar 0)) (gN 2) (sW [2] (sAsg 1 (dTree (dLc2 [3, 4] [4] (iLst (dVar 1)) (gN 3) dYes (iTu (dFld "rows" (dVar 2))) (gN 4) dYes (dBin opAdd (dVar 3) (dVar 4))))))))
    (sRet (dCall 1 M_Code (dCons (dVar 1) dNil))))))
def c_in_turn := runB 5 g_in_turn
theorem turnW_len (ts : List Tr) : (turnW ts).length = size (grafts ts) := by rw [(turnW_perm ts).length_eq, Tr.words_len]
theorem eqL_no {S : List Ob} {d : D} {l : List D} (h : lstOf S d = some l) (hl : l ≠ []) : opEqL S d (.lst []) = some (.bl false) := by
  unfold opEqL
  rw [h]
  simp only [lstOf]
  rw [if_pos (by simpa using hl)]
theorem eqL_nil {S : List Ob} (l : List D) : opEqL S (.lst l) (.lst []) = some (.bl (decide (l = []))) := by
  unfold opEqL
  simp only [lstOf]
  cases l with
  | nil => rfl
  | cons a l => simp
theorem in_turn_ok {S : List Ob} {d : D} {ts : List Tr} (hd : lstOf S d = some (ts.map fun t => codeW (words t))) (hne : ts ≠ []) (hl : ts.length ≤ 100) (hb : ∀ i, size (grafts (ts.take i)) ≤ 300 ∧ hgt (grafts (ts.take i)) ≤ 300) (hs : ∀ t ∈ ts, size t ≤ 100 ∧ hgt t ≤ 100) (G : CodeOk (words (grafts ts))) :
    c_in_turn [d] S = some (codeW (words (grafts ts)), S) := by
  have key : Wp (c_in_turn [d] S) fun r S' => r = codeW (words (grafts ts)) ∧ S' = S := by
    refine w_run ?_
    unfold g_in_turn
    repeat' (walk_at "wp")
    have tg := tg_lst hd
    have e1 : (tgOf S d).bind (isiB "list") = some true := by rw [tg]; rfl
    refine ⟨_, e1, ?_⟩
    repeat' (walk_at "wp")
    refine ⟨_, eqL_no hd (by simpa using hne), ?_⟩
    repeat' (walk_at "wp")
    refine ⟨_, hd, ?_⟩
    refine lc_by ts (fun t => codeW (words t)) (fun _ => false) (fun t => codeW (words t)) (gv_live hd) (by omega) (fun t _ => ?_) ?_
    · repeat' (walk_at "wp")
      exact fun h => nomatch h
    · rw [List.filter_eq_nil_iff.mpr (fun _ _ => by simp)]
      repeat' (walk_at "wp")
      refine ⟨_, ne_lists (A := []) (B := []) rfl rfl, ?_⟩
      rw [decide_eq_true rfl]
      repeat' (walk_at "wp")
      refine ⟨_, hd, ?_⟩
      refine for_by ts (fun t => codeW (words t)) (fun L : List Row => [some d, some (.lst (L.map wd)), none, none, none]) (fun _ => S) (fun i L => L = turnW (ts.take i)) [[]] (by simp [turnW]) (fun _ _ _ => gv_live hd) ?_ ?_
      · rintro i t L rfl ht
        have hi := (List.getElem?_eq_some_iff.mp ht).1
        obtain ⟨b1, b2⟩ := hb i
        obtain ⟨b3, b4⟩ := hs t (List.mem_of_getElem? ht)
        have hL : ∀ a ∈ turnW (ts.take i), a.length ≤ 300 := fun a ha => Nat.le_trans (len_hgt ((turnW_perm _).mem_iff.mp ha)) b2
        have hLn := turnW_len (ts.take i)
        have hw : ∀ w ∈ ordR (words t), w.length ≤ 100 := fun w hw => Nat.le_trans (len_hgt (mem_ordR.mp hw)) b4
        have hwn : (ordR (words t)).length ≤ 100 := by rw [ordR_len (nodup_words t), Tr.words_len]; exact b3
        repeat' (walk_at "wp")
        refine .of (lc2m_ev (vs := [3, 4]) (vs1 := [4]) (xs := turnW (ts.take i)) (f := wd) (ys := fun _ => ordR (words t)) (g := fun _ => wd) (v := fun a w => wd (a ++ w)) 100
          (live_ev (dVar_ev rfl) rfl) gv_lst (fun _ _ => gN_ev) (fun _ _ => iTu_ev (dFld_ev (dVar_ev rfl) (fld_rowsW _)) rfl) (fun _ _ => gv_fix) (fun _ _ _ _ => gN_ev) (fun a ha w hww => dBin_ev (dVar_ev rfl) (dVar_ev rfl) (add_wd (by have := hL a ha; have := hw w hww; omega))) (fun _ _ => hwn)
          (by
            have : (turnW (ts.take i)).length * 100 ≤ 300 * 100 := Nat.mul_le_mul_right _ (by omega)
            exact Nat.le_trans (show _ ≤ 1000000 by omega) (by decide))) ?_
        repeat' (walk_at "wp")
        refine ⟨turnW (ts.take (i + 1)), ?_, rfl, rfl⟩
        have e : (turnW (ts.take i)).flatMap (fun a => (ordR (words t)).map fun w => wd (a ++ w)) = (turnW (ts.take (i + 1))).map wd := by
          rw [List.take_add_one, ht, Option.toList_some, turnW_snoc, List.map_flatMap]
          congr 1
          funext a
          rw [List.map_map]
          rfl
        rw [e]
        rfl
      · rintro L rfl
        rw [List.take_length]
        repeat' (walk_at "wp")
        refine .of (code_ok (W := turnW ts) rfl (G.perm (turnW_perm ts))) ?_
        rw [codeW_ext fun r => (turnW_perm ts).mem_iff]
        exact ⟨rfl, rfl⟩
  obtain ⟨r, S', e, rfl, rfl⟩ := key
  exact e
def g__law_joined_words : DFS := (sSeq (sAsg 1 (dTree (few (dCons (dC (.str "")) dNil))))
    (sSeq (sV [2, 3, 4] (sFor (iLst (dVar 0)) (gN 2) (sW [2, 3, 4] (sSeq (sAsg 3 (dTree (few dNil)))
    (sSeq (sV [4] (sFor (iLst (dVar 1)) (gN 4) (sW [4] (sAsg 3 (dBin opAdd (dVar 3) (dTree (dLc [5] (iLst (dVar 2)) (gN 5) dYes (dBin opAdd (dVar 4) (dVar 5)))))))))
    (sAsg 1 (dVar 3)))))))
    (sRet (dVar 1))))
def c__law_joined_words := runB 6 g__law_joined_words
theorem joinW_snoc (ts : List Tr) (t : Tr) : joinW (ts ++ [t]) = (joinW ts).flatMap fun a => (words t).map (a ++ ·) := by simp [joinW]
theorem joined_ok {S : List Ob} {ts : List Tr} (hl : ts.length ≤ 100) (hb : ∀ i, size (grafts (ts.take i)) ≤ 300 ∧ hgt (grafts (ts.take i)) ≤ 300) (hs : ∀ t ∈ ts, size t ≤ 100 ∧ hgt t ≤ 100) :
    c__law_joined_words [.lst (ts.map fun t => .lst ((words t).map wd))] S = some (.lst ((words (grafts ts)).map wd), S) := by
  have key : Wp (c__law_joined_words [.lst (ts.map fun t => .lst ((words t).map wd))] S) fun r S' => r = .lst ((words (grafts ts)).map wd) ∧ S' = S := by
    refine w_run ?_
    unfold g__law_joined_words
    repeat' (walk_at "wp")
    refine for_by ts (fun t => D.lst ((words t).map wd)) (fun L : List Row => [some (.lst (ts.map fun t => .lst ((words t).map wd))), some (.lst (L.map wd)), none, none, none, none]) (fun _ => S) (fun i L => L = joinW (ts.take i)) [[]] (by simp [joinW]) (fun _ _ _ => gv_lst) ?_ ?_
    · rintro i t L rfl ht
      obtain ⟨b1, b2⟩ := hb i
      obtain ⟨b3, b4⟩ := hs t (List.mem_of_getElem? ht)
      have hLn : (joinW (ts.take i)).length ≤ 300 := by rw [joinW_words, Tr.words_len]; exact b1
      have hL : ∀ a ∈ joinW (ts.take i), a.length ≤ 300 := fun a ha => by
        rw [joinW_words] at ha
        exact Nat.le_trans (len_hgt ha) b2
      have hw : ∀ w ∈ words t, w.length ≤ 100 := fun w hw => Nat.le_trans (len_hgt hw) b4
      have hwn : (words t).length ≤ 100 := by rw [Tr.words_len]; exact b3
      repeat' (walk_at "wp")
      refine for_by (joinW (ts.take i)) wd (fun V : List Row => [some (.lst (ts.map fun t => .lst ((words t).map wd))), some (.lst ((joinW (ts.take i)).map wd)), some (.lst ((words t).map wd)), some (.lst (V.map wd)), none, none]) (fun _ => S) (fun j V => V = ((joinW (ts.take i)).take j).flatMap fun a => (words t).map (a ++ ·)) [] rfl (fun _ _ _ => gv_lst) ?_ ?_
      · rintro j a V rfl ha
        have hal := hL a (List.mem_of_getElem? ha)
        repeat' (walk_at "wp")
        refine lcm_by (words t) wd (fun w => wd (a ++ w)) gv_lst (by omega) (fun w hww => ?_) ?_
        · have := hw w hww
          repeat' (walk_at "wp")
          all_goals first | rfl | exact ⟨rfl, rfl⟩
        · repeat' (walk_at "wp")
          refine ⟨_, add_lst ?_, ((joinW (ts.take i)).take (j + 1)).flatMap fun a => (words t).map (a ++ ·), ?_, rfl, rfl⟩
          · have h1 := flat_len (fun a => (words t).map (a ++ ·)) 100 (fun a => by rw [List.length_map]; exact hwn) ((joinW (ts.take i)).take j)
            rw [List.length_take] at h1
            rw [List.length_map, List.length_map]
            omega
          · rw [List.take_add_one, ha]
            simp [wOut, wipeE, Function.comp_def]
      · rintro V rfl
        rw [List.take_length]
        repeat' (walk_at "wp")
        refine ⟨joinW (ts.take (i + 1)), ?_, rfl, rfl⟩
        rw [List.take_add_one, ht, Option.toList_some, joinW_snoc]
        rfl
    · rintro L rfl
      rw [List.take_length, joinW_words]
      repeat' (walk_at "wp")
      all_goals first | rfl | exact ⟨rfl, rfl⟩
  obtain ⟨r, S', e, rfl, rfl⟩ := key
  exact e
/-! facts -/
theorem mirW_tree (t : Tr) : codeW (mirW (words t)) = codeW (words (mir t)) := codeW_ext fun r => by rw [mem_mirW, mem_mir]
theorem fill_size : ∀ t : Tr, size t ≤ size (fill t) ∧ (size (fill t) = size t → full t)
  | no => ⟨by simp [size, Tr.fill], fun h => by simp [size, Tr.fill] at h⟩
  | lf => ⟨Nat.le_refl _, fun _ => trivial⟩
  | nd a b => by
    obtain ⟨h1, h2⟩ := fill_size a
    obtain ⟨h3, h4⟩ := fill_size b
    simp only [Tr.fill, size, full]
    exact ⟨by omega, fun h => ⟨h2 (by omega), h4 (by omega)⟩⟩
theorem size_pos {t : Tr} (hk : ok t) (hn : t ≠ no) : 0 < size t := by
  obtain ⟨w, hw⟩ := live_word hk hn
  rw [← Tr.words_len]
  exact List.length_pos_of_mem hw
theorem fill_bound : ∀ {t : Tr}, ok t → size (fill t) ≤ size t * hgt t + 1
  | no, _ => by simp [size, Tr.fill]
  | lf, _ => by simp [size, Tr.fill]
  | nd a b, ⟨h1, h2, h3⟩ => by
    have i1 := fill_bound h1
    have i2 := fill_bound h2
    have p : 0 < size a + size b := by
      by_cases ha : a = no
      · have := size_pos h2 fun e => h3 ⟨ha, e⟩
        omega
      · have := size_pos h1 ha
        omega
    have m1 : size a * hgt a ≤ size a * max (hgt a) (hgt b) := Nat.mul_le_mul_left _ (Nat.le_max_left _ _)
    have m2 : size b * hgt b ≤ size b * max (hgt a) (hgt b) := Nat.mul_le_mul_left _ (Nat.le_max_right _ _)
    simp only [Tr.fill, size, hgt, Nat.mul_add, Nat.add_mul, Nat.mul_one]
    omega
theorem full_iff_fill {t : Tr} (hk : ok t) (hn : t ≠ no) : (ordR (words (fill t)) = ordR (words t)) ↔ full t := by
  rw [ordR_eq]
  constructor
  · intro h
    have p : (words (fill t)).Perm (words t) := (List.perm_ext_iff_of_nodup (nodup_words _) (nodup_words _)).mpr h
    have := p.length_eq
    rw [Tr.words_len, Tr.words_len] at this
    exact (fill_size t).2 this
  · intro h r
    rw [fill_id h]
theorem headsW_mir {W : List Row} {r : Row} : r ∈ headsW (mirW W) ↔ neg r ∈ headsW W := by
  rw [mem_headsW, mem_headsW]
  constructor
  · rintro ⟨w, hw, i, hi, rfl⟩
    exact ⟨neg w, mem_mirW.mp hw, i, by rw [neg_len]; exact hi, neg_take _ _⟩
  · rintro ⟨w, hw, i, hi, e⟩
    refine ⟨neg w, mem_mirW.mpr (by rw [neg_neg]; exact hw), i, by rw [neg_len]; exact hi, ?_⟩
    rw [← neg_take, ← e, neg_neg]
theorem nextW_mir (W : List Row) (s : Row) (b : Bool) : nextW (mirW W) (neg s) (!b) = (nextW W s b).map neg := by
  have e : neg s ++ [!b] = neg (s ++ [b]) := by rw [neg_app]; rfl
  unfold nextW
  simp only [e, mem_mirW, headsW_mir, neg_neg]
  by_cases h1 : s ++ [b] ∈ W
  · simp [h1, neg]
  · by_cases h2 : s ++ [b] ∈ headsW W <;> simp [h1, h2]
theorem after_mir (W : List Row) : ∀ (row s : Row), afterW (mirW W) (neg s) (neg row) = (afterW W s row).map fun p => (neg p.1, p.2.map neg)
  | [], s => rfl
  | b :: r, s => by
    show afterW (mirW W) (neg s) ((!b) :: neg r) = _
    have h := nextW_mir W s b
    cases hn : nextW W s b with
    | none =>
      rw [hn] at h
      rw [after_none _ h, after_none _ hn]
      rfl
    | some n =>
      rw [hn] at h
      rw [after_some _ h, after_some _ hn, after_mir W r n, Option.map_map, Option.map_map]
      congr 1
      funext p
      have e : (neg n = []) ↔ n = [] := by
        constructor
        · intro h
          have := congrArg List.length h
          rw [neg_len] at this
          exact List.length_eq_zero_iff.mp this
        · rintro rfl
          rfl
      have e2 : neg s ++ [!b] = neg (s ++ [b]) := by rw [neg_app]; rfl
      simp only [Function.comp, e, e2, List.map_append]
      by_cases h : n = [] <;> simp [h]
theorem next_fill {t : Tr} (hk : ok t) {s n : Row} {b : Bool} (h : nextW (words t) s b = some n) : nextW (words (fill t)) s b = some n := by
  have hf := full_ok' t
  unfold nextW at h ⊢
  by_cases h1 : s ++ [b] ∈ words t
  · rw [if_pos h1] at h
    rw [if_pos (words_fill h1)]
    exact h
  · rw [if_neg h1] at h
    by_cases h2 : s ++ [b] ∈ headsW (words t)
    · rw [if_pos h2] at h
      have h3 : s ++ [b] ∈ heads (fill t) := by rw [fill_heads]; exact (headsW_words hk _).mp h2
      rw [if_neg fun h4 => word_no_head h4 h3, if_pos ((headsW_words hf _).mpr h3)]
      exact h
    · rw [if_neg h2] at h
      cases h
where
  full_ok' (t : Tr) : ok (fill t) := Tr.full_ok (fill_full t)
theorem after_fill {t : Tr} (hk : ok t) : ∀ (row s : Row) {p : Row × List Row}, afterW (words t) s row = some p → afterW (words (fill t)) s row = some p
  | [], s, p, h => h
  | b :: r, s, p, h => by
    cases hn : nextW (words t) s b with
    | none =>
      rw [after_none _ hn] at h
      cases h
    | some n =>
      rw [after_some _ hn] at h
      obtain ⟨q, h1, rfl⟩ := Option.map_eq_some_iff.mp h
      rw [after_some _ (next_fill hk hn), after_fill hk r n h1]
      rfl
theorem grafts_full : ∀ (ts : List Tr) (u : Tr), u ≠ no → ok u → (∀ t ∈ ts, t ≠ no ∧ ok t) → (full (ts.foldl graft u) ↔ full u ∧ ∀ t ∈ ts, full t) ∧ ok (ts.foldl graft u) ∧ ts.foldl graft u ≠ no
  | [], u, hn, hk, _ => ⟨by simp, hk, hn⟩
  | t :: ts, u, hn, hk, h => by
    obtain ⟨h1, h2⟩ := h t (List.mem_cons_self ..)
    obtain ⟨i1, i2, i3⟩ := grafts_full ts (graft u t) (fun e => hn ((graft_no h1).mp e)) (graft_ok h1 hk h2) fun x hx => h x (List.mem_cons_of_mem _ hx)
    refine ⟨?_, i2, i3⟩
    rw [List.foldl_cons, i1, graft_full hn hk]
    simp only [List.mem_cons, forall_eq_or_imp, and_assoc]
end
end DL


set_option Elab.async false
set_option linter.all false
set_option maxRecDepth 100000
set_option maxHeartbeats 16000000
/-! K06m: what more than one law leans on. -/
namespace DL
open PySem PySem.Spec PyProof.Rows L2
noncomputable section
open Tr
theorem full_all {t : Tr} (hk : ok t) (hn : t ≠ no) (h : (heads t).length < 1000000) : ∃ b, (b = true ↔ full t) ∧ ∀ S, P_full [codeW (words t)] S = some (.bl b, S) := by
  obtain ⟨b, _, e, hb⟩ := is_full_tree (S := []) hk hn h
  refine ⟨b, hb, fun S => ?_⟩
  obtain ⟨b2, _, e2, hb2⟩ := is_full_tree (S := S) hk hn h
  rw [e2, show b2 = b by rw [Bool.eq_iff_iff, hb, hb2]]
theorem ne_bl {S : List Ob} (a b : Bool) : opNe S (.bl a) (.bl b) = some (.bl (!decide (a = b))) := by cases a <;> cases b <;> rfl
theorem own_eq {S : List Ob} {W V : List Row} {Q : D → List Ob → Prop} (h : ∀ r, r ∈ W ↔ r ∈ V) (q : Q (.bl true) S) : (∃ t, tgOf S (codeW V) = some t ∧ okT t = true) ∧ Wp (Q_0 [codeW W, codeW V] S) Q := by
  refine ⟨⟨_, tg_code _, rfl⟩, .of (eq_codeW _ _) ?_⟩
  rw [decide_eq_true (ordR_eq.mpr h)]
  exact q
theorem heads_few {t : Tr} (hk : ok t) {n m : Nat} (h1 : size t ≤ n) (h2 : hgt t ≤ m) : (headsW (words t)).length ≤ n * m := by
  have e : ∀ X : List Row, (∀ w ∈ X, w.length ≤ m) → (headsW X).length ≤ X.length * m := by
    intro X
    induction X with
    | nil => simp [headsW]
    | cons w X ih =>
      intro h
      rw [headsW, List.flatMap_cons, List.length_append, begs_len, List.length_cons, Nat.succ_mul]
      have h1 := ih fun v hv => h v (List.mem_cons_of_mem _ hv)
      have h5 := h w (List.mem_cons_self ..)
      rw [headsW] at h1
      omega
  have := e (words t) fun w hw => Nat.le_trans (len_hgt hw) h2
  rw [Tr.words_len] at this
  exact Nat.le_trans this (Nat.mul_le_mul_right _ h1)
theorem heads_few' {t : Tr} (hk : ok t) {n m : Nat} (h1 : size t ≤ n) (h2 : hgt t ≤ m) : (heads t).length ≤ n * m := by
  rw [← (heads_perm hk).length_eq]
  have h3 : (ordR (headsW (words t))).length = (ded (headsW (words t))).length := ((List.perm_ext_iff_of_nodup (nodup_ordR _) (nodup_ded _)).mpr fun r => by rw [mem_ordR, mem_ded]).length_eq
  have := ded_len (headsW (words t))
  have := heads_few hk h1 h2
  omega
theorem no_size {t : Tr} (h : 2 ≤ size t) : t ≠ no := fun e => by
  rw [e] at h
  simp [size] at h
theorem codeOk_tree2 {t : Tr} (hk : ok t) (h2 : 2 ≤ size t) (h3 : size t ≤ 100) (h4 : hgt t ≤ 40) : CodeOk (words t) := by
  have hl := Tr.words_len t
  refine ⟨⟨by omega, by omega, fun w hw => by have := len_hgt hw; omega, fun w hw e => ?_, nodup_words t, fun w hw i hi => no_pre i hw hi⟩, Nat.le_trans (heads_few hk h3 h4) (by decide)⟩
  subst e
  cases t with
  | no => simp [size] at h2
  | lf => simp [size] at h2
  | nd a b =>
    obtain ⟨x, v, e, _⟩ := mem_words_nd.mp hw
    cases e
theorem grafts_bound : ∀ (ts : List Tr) (u : Tr), (∀ t ∈ ts, size t ≤ 8 ∧ hgt t ≤ 7) → size (ts.foldl graft u) ≤ size u * 8 ^ ts.length ∧ hgt (ts.foldl graft u) ≤ hgt u + 7 * ts.length
  | [], u, _ => by simp
  | t :: ts, u, h => by
    obtain ⟨h1, h2⟩ := h t (List.mem_cons_self ..)
    obtain ⟨i1, i2⟩ := grafts_bound ts (graft u t) fun x hx => h x (List.mem_cons_of_mem _ hx)
    have g1 := graft_hgt u t
    rw [graft_size] at i1
    rw [List.foldl_cons, List.length_cons, Nat.pow_succ]
    refine ⟨Nat.le_trans i1 ?_, by omega⟩
    rw [Nat.mul_comm (8 ^ ts.length) 8, ← Nat.mul_assoc]
    exact Nat.mul_le_mul_right _ (Nat.mul_le_mul_left _ h1)
end
end DL


set_option Elab.async false
set_option linter.all false
set_option maxRecDepth 100000
set_option maxHeartbeats 2000000
/-! DL: a text many times. -/
namespace DL
open PySem PySem.Spec PyProof.Rows L2
section
variable {X : Cx} {C : Ctx} {a b : Expr} {fa fb : DF D} {pos : Pos}
def repS (z : Str) (n : Nat) : Str := ⟨(List.replicate n z.cps).foldl (· ++ ·) #[]⟩
theorem rep_fold (z : Array CodePoint) : ∀ (n : Nat) (acc : Array CodePoint), (List.replicate n z).foldl (· ++ ·) acc = acc ++ (List.replicate n z).foldl (· ++ ·) #[]
  | 0, acc => by simp
  | n + 1, acc => by
    rw [List.replicate_succ, List.foldl_cons, List.foldl_cons, rep_fold z n, rep_fold z n (#[] ++ z)]
    simp [Array.append_assoc]
theorem repS_len (z : Str) : ∀ n : Nat, (repS z n).length = z.length * n
  | 0 => by simp [repS, Str.length]
  | n + 1 => by
    have h := repS_len z n
    simp only [repS, Str.length, List.replicate_succ, List.foldl_cons] at h ⊢
    rw [rep_fold, Array.size_append, h]
    simp [Nat.mul_succ, Nat.add_comm]
def rRepS : R2 := fun x y H Q => ∃ z k, x = .str z ∧ y = .int k ∧ 2 ≤ k ∧ k ≤ 1000 ∧ 0 < z.length ∧ z.length * k.toNat ≤ sizeLine ∧ Q (.str (repS z k.toNat)) H
theorem op_repS : OpR X (binaryOp .Mult) rRepS := by
  intro pins s σ H x y v u Q I rx ry h
  obtain ⟨z, k, rfl, rfl, k2, k3, hz0, hz, q⟩ := h
  obtain ⟨t, rfl⟩ := rx
  obtain ⟨t', rfl⟩ := ry
  have n1 : ¬ k < 1 := by omega
  have n2 : (k == 1 || z.length == 0) = false := by
    simp only [Bool.or_eq_false_iff, beq_eq_false_iff_ne, ne_eq]
    omega
  have hl : z.length ≤ sizeLine := Nat.le_trans (Nat.le_mul_of_pos_right _ (by omega)) hz
  refine P.mul_str ?_ (fun _ _ => ?_) (fun _ _ => ?_) ?_
  · rw [decide_eq_false (by omega), decide_eq_false (by omega)]; rfl
  · intro hgt
    have h1 : (2 ^ 63 - 1 : Int) / k ≥ (2 ^ 63 - 1) / 1000 := by
      apply Int.le_ediv_of_mul_le (by omega)
      have : ((2 ^ 63 - 1 : Int) / 1000) * k ≤ ((2 ^ 63 - 1) / 1000) * 1000 := Int.mul_le_mul_of_nonneg_left k3 (by decide)
      exact Int.le_trans this (by decide)
    have : (sizeLine : Int) ≤ (2 ^ 63 - 1) / 1000 := by decide
    omega
  · have : sizeLine = 2 ^ 24 := by decide
    refine decide_eq_false ?_
    omega
  · rw [if_neg n1, if_neg (by rw [n2]; decide)]
    exact ⟨by rw [← repS] ; rw [repS_len]; exact hz, .str _, H, I.tok _, ⟨_, rfl⟩, q⟩
def opMulS (S : List Ob) : D → D → Option D
  | .str z, .int k => if 2 ≤ k ∧ k ≤ 1000 ∧ 0 < z.length ∧ z.length * k.toNat ≤ sizeLine then some (.str (repS z k.toNat)) else none
  | _, _ => none
theorem o2_mulS {K : PySem.W.Frag} : Op2 K C (fun x y H Q => rRepS x y H Q) opMulS := by
  intro Λ F π S H dx dy x y d h w rx ry Q p
  unfold opMulS at h
  split at h
  · split at h
    · rename_i hz
      cases h
      exact ⟨_, _, rx, ry, hz.1, hz.2.1, hz.2.2.1, hz.2.2.2, p.val w rfl⟩
    · cases h
  · cases h
theorem de_mulS (ha : DE X C a fa) (hb : DE X C b fb) : DE X C (.BinOp a .Mult b pos) (dBin opMulS fa fb) := de_op op_repS o2_mulS ha hb
end
end DL

set_option Elab.async false
set_option linter.all false
set_option maxRecDepth 100000
set_option maxHeartbeats 2000000
/-! DL: a field's text made longer. -/
namespace DL
open PySem PySem.Spec PyProof.Rows L2
section
variable {X : Cx} {C : Ctx} {o e : Expr} {fo fv : DF D} {pos tpos : Pos}
def rCatS2 : R2 := fun x y H Q => ∃ i j, x = .str i ∧ y = .str j ∧ i.length + j.length ≤ sizeLine ∧ Q (.str (i ++ j)) H
theorem in_addS : InOp X .Add rCatS2 := by
  intro pins s σ H x y u v Q I rx ry h
  exact iop_add_str pins s σ H x y u v Q I rx ry h
def opAddS (S : List Ob) : D → D → Option D
  | .str i, .str j => if i.length + j.length ≤ sizeLine then some (.str (i ++ j)) else none
  | _, _ => none
/-- o.x += a text -/
def sFldAugS (x : Str) (fo fv : DF D) : DFS := fun E S => (fo E S).bind fun p => match p.1 with
  | .ptr k => match p.2[k]? with
    | some (.ins c0 fs0) => match fldOf p.2 (.ptr k) x with
      | some (.str i) => (fv E p.2).bind fun v => match v.1 with
        | .str j => match v.2[k]? with
          | some (.ins c fs) => if c = c0 ∧ fs.length < 1000 ∧ i.length + j.length ≤ sizeLine then some (.nx E, v.2.set k (.ins c (putFD x (.str (i ++ j)) fs))) else none
          | _ => none
        | _ => none
      | _ => none
    | _ => none
  | _ => none
theorem ds_fldAug {x : Str} {value : Expr} (hC : ClOk X.K C) (hn : ∀ c, NoAttr X.K (C.cls c) x) (ho : DE X C o fo) (hv : DE X C value fv) : DSt X C (.AugAssign (.Attribute o x tpos) .Add value pos) (sFldAugS x fo fv) := by
  obtain ⟨t, a1, a2⟩ := ho
  obtain ⟨tv, c1, c2⟩ := hv
  refine ⟨_, ps_fldaug a1 c1 in_addS, fun E S o S' q Λ F π H σ w Dn p => ?_⟩
  obtain ⟨⟨y, S1⟩, q1, q⟩ := Option.bind_eq_some_iff.mp q
  cases y with
  | ptr k =>
    simp only at q
    cases hk1 : S1[k]? with
    | none => simp only [hk1] at q; cases q
    | some ob =>
      cases ob with
      | ins c0 fs0 =>
        simp only [hk1] at q
        cases hy : fldOf S1 (.ptr k) x with
        | none => simp only [hy] at q; cases q
        | some y0 =>
          cases y0 with
          | str i =>
            simp only [hy] at q
            obtain ⟨⟨z, S2⟩, q2, q3⟩ := Option.bind_eq_some_iff.mp q
            clear q
            cases z with
            | str j =>
              simp only at q3
              cases hk : S2[k]? with
              | none => exact absurd q3 (by simp [hk])
              | some ob2 =>
                cases ob2 with
                | ins c fs =>
                  simp only [hk] at q3
                  split at q3
                  · rename_i hz
                    obtain ⟨rfl, hz, hl⟩ := hz
                    cases q3
                    refine a2 E S _ S1 q1 Λ F π H σ w _ fun v F1 π1 H1 e1 w1 r1 => ?_
                    obtain ⟨b, rfl, hp⟩ := r1
                    obtain ⟨ob, o1, o2⟩ := w1.obj hp
                    rw [hk1] at o1
                    cases o1
                    obtain ⟨dx, l, l1, l2⟩ := o2
                    have hy2 : fldOf S1 (.ptr k) x = fs0.lookup x := by simp only [fldOf, hk1]
                    rw [hy2] at hy
                    obtain ⟨u, u1, u2⟩ := RepF.look l2 hy
                    cases (show u = V.str i from u2)
                    refine ⟨b, C.cls c, dx, l, .str i, rfl, l1, hC.cl c, hn c, u1, c2 E S1 _ S2 q2 Λ F1 π1 H1 σ (w.step e1 w1) _ fun u2 F2 π2 H2 e2 w2 r2 => ?_⟩
                    cases (show u2 = V.str j from r2)
                    refine ⟨i, j, rfl, rfl, hl, ?_⟩
                    obtain ⟨ρ, hρ⟩ := e2.p
                    have hp2 : π2[k]? = some b := by
                      rw [← hρ, List.getElem?_append_left (List.getElem?_eq_some_iff.mp hp).1]
                      exact hp
                    obtain ⟨ob, o1, o2⟩ := w2.obj hp2
                    rw [hk] at o1
                    cases o1
                    obtain ⟨dx2, l3, l4, l5⟩ := o2
                    have e3 := e1.trans e2
                    exact ⟨dx2, l3, l4, by rw [l5.length]; exact hz, p σ F2 π2 _ (e3.trans (Ext.put hp2)) (w2.put hp2 ⟨dx2, _, upd_same, RepF.put (show Rep X.K C F2 π2 (.str (i ++ j)) (.str (i ++ j)) from rfl) l5⟩) (w.r.mono e3.f e3.p)⟩
                  · cases q3
                | _ => exact absurd q3 (by simp [hk])
            | _ => exact absurd q3 (by simp)
          | _ => exact absurd q (by simp [hy])
      | _ => exact absurd q (by simp [hk1])
  | _ => cases q
end
end DL

set_option Elab.async false
set_option linter.all false
set_option maxRecDepth 100000
set_option maxHeartbeats 4000000
/-! P22: readers who don't know their state: plain. -/
namespace DL
open PySem PySem.Spec PyProof.Rows L2
noncomputable section
def nxt (W : List Row) (b : Bool) (s : Row) : Row := (nextW W s b).getD []
/-- the states that a lot comes to by a bit -/
def stepL (W : List Row) (lot : List Row) (b : Bool) : List Row := ordR (lot.map (nxt W b))
/-- the word that comes out where the state is known -/
def outL (W : List Row) (lot : List Row) (b : Bool) : List Row := match lot with
  | [s] => if nextW W s b = some [] then [s ++ [b]] else []
  | _ => []
def toldW (W : List Row) : List Row → Row → List Row × List Row
  | lot, [] => (lot, [])
  | lot, b :: r => ((toldW W (stepL W lot b) r).1, outL W lot b ++ (toldW W (stepL W lot b) r).2)
theorem told_app (W : List Row) : ∀ (a : Row) (lot : List Row) (b : Row), toldW W lot (a ++ b) = ((toldW W (toldW W lot a).1 b).1, (toldW W lot a).2 ++ (toldW W (toldW W lot a).1 b).2)
  | [], lot, b => rfl
  | x :: a, lot, b => by
    have h := told_app W a (stepL W lot x) b
    show ((toldW W (stepL W lot x) (a ++ b)).1, outL W lot x ++ (toldW W (stepL W lot x) (a ++ b)).2) = _
    rw [h]
    simp only [toldW, List.append_assoc]
theorem told_snoc (W : List Row) (a : Row) (lot : List Row) (b : Bool) : toldW W lot (a ++ [b]) = (stepL W (toldW W lot a).1 b, (toldW W lot a).2 ++ outL W (toldW W lot a).1 b) := by
  rw [told_app]
  simp only [toldW, List.append_nil]
theorem ordR_le (X : List Row) : (ordR X).length ≤ X.length := by
  have h3 : (ordR X).length = (ded X).length := ((List.perm_ext_iff_of_nodup (nodup_ordR _) (nodup_ded _)).mpr fun r => by rw [mem_ordR, mem_ded]).length_eq
  have := ded_len X
  omega
theorem ordR_one (s : Row) : ordR [s] = [s] := (ordR_uniq (List.pairwise_singleton _ _) fun r => Iff.rfl).symm
theorem nxt_head {W : List Row} (h0 : [] ∈ headsW W) (b : Bool) (s : Row) : nxt W b s ∈ headsW W := by
  unfold nxt
  cases h : nextW W s b with
  | none => exact h0
  | some n => exact next_head h h0
theorem told_mem {W : List Row} (h0 : [] ∈ headsW W) : ∀ (r : Row) (lot : List Row), (∀ s ∈ lot, s ∈ headsW W) → ∀ s ∈ (toldW W lot r).1, s ∈ headsW W
  | [], lot, h => h
  | b :: r, lot, h => told_mem h0 r _ fun s hs => by
    obtain ⟨q, _, rfl⟩ := List.mem_map.mp (mem_ordR.mp hs)
    exact nxt_head h0 b q
theorem told_len (W : List Row) : ∀ (r : Row) (lot : List Row), (toldW W lot r).1.length ≤ lot.length
  | [], lot => Nat.le_refl _
  | b :: r, lot => by
    have h1 := told_len W r (stepL W lot b)
    have h2 := ordR_le (lot.map (nxt W b))
    rw [List.length_map] at h2
    exact Nat.le_trans h1 h2
theorem told_count (W : List Row) : ∀ (r : Row) (lot : List Row), (toldW W lot r).2.length ≤ r.length
  | [], lot => Nat.le_refl _
  | b :: r, lot => by
    have h1 := told_count W r (stepL W lot b)
    have h2 : (outL W lot b).length ≤ 1 := by
      unfold outL
      split
      · split <;> simp
      · simp
    show (outL W lot b ++ _).length ≤ _
    rw [List.length_append, List.length_cons]
    omega
theorem told_words {W : List Row} : ∀ (r : Row) (lot : List Row), ∀ w ∈ (toldW W lot r).2, w ∈ W
  | [], lot, w, h => nomatch h
  | b :: r, lot, w, h => by
    rcases List.mem_append.mp (show w ∈ outL W lot b ++ (toldW W (stepL W lot b) r).2 from h) with h | h
    · unfold outL at h
      split at h
      · split at h
        · rename_i s hn
          rw [List.mem_singleton.mp h]
          unfold nextW at hn
          split at hn
          · assumption
          · split at hn
            · exact absurd (Option.some.inj hn) (by simp)
            · cases hn
        · cases h
      · cases h
    · exact told_words r _ w h
theorem told_one {W : List Row} : ∀ (r : Row) (s : Row) {p : Row × List Row}, afterW W s r = some p → toldW W [s] r = ([p.1], p.2)
  | [], s, p, h => by cases h; rfl
  | b :: r, s, p, h => by
    cases hn : nextW W s b with
    | none => rw [after_none _ hn] at h; cases h
    | some n =>
      rw [after_some _ hn] at h
      obtain ⟨q, h1, rfl⟩ := Option.map_eq_some_iff.mp h
      have e : stepL W [s] b = [n] := by
        unfold stepL nxt
        simp only [List.map_cons, List.map_nil, hn, Option.getD_some]
        exact ordR_one n
      have h2 := told_one r n h1
      show ((toldW W (stepL W [s] b) r).1, outL W [s] b ++ (toldW W (stepL W [s] b) r).2) = _
      rw [e, h2]
      unfold outL
      simp only [hn, Option.some.injEq]
theorem told_right {W : List Row} : ∀ (r : Row) (lot : List Row) (s : Row) {p : Row × List Row}, s ∈ lot → afterW W s r = some p → p.1 ∈ (toldW W lot r).1 ∧ ∃ o, p.2 = o ++ (toldW W lot r).2
  | [], lot, s, p, hs, h => by
    cases h
    exact ⟨hs, [], rfl⟩
  | b :: r, lot, s, p, hs, h => by
    by_cases hl : lot = [s]
    · subst hl
      rw [told_one (b :: r) s h]
      exact ⟨List.mem_singleton.mpr rfl, [], rfl⟩
    cases hn : nextW W s b with
    | none => rw [after_none _ hn] at h; cases h
    | some n =>
      rw [after_some _ hn] at h
      obtain ⟨q, h1, rfl⟩ := Option.map_eq_some_iff.mp h
      have e : n ∈ stepL W lot b := mem_ordR.mpr (List.mem_map.mpr ⟨s, hs, by unfold nxt; rw [hn]; rfl⟩)
      obtain ⟨h2, o, h3⟩ := told_right r _ n e h1
      have eo : outL W lot b = [] := by
        unfold outL
        split
        · rename_i s' _
          exact absurd (by rw [List.mem_singleton.mp hs]) hl
        · rfl
      refine ⟨h2, (if n = [] then [s ++ [b]] else []) ++ o, ?_⟩
      show _ = _ ++ (outL W lot b ++ (toldW W (stepL W lot b) r).2)
      rw [eo, List.nil_append, List.append_assoc, ← h3]
end
end DL


set_option Elab.async false
set_option linter.all false
set_option maxRecDepth 100000
set_option maxHeartbeats 4000000
/-! P23: readers who don't know their state: what they do. -/
namespace DL
open PySem PySem.Spec PyProof.Rows L2
noncomputable section
local macro_rules | `(tactic| walk_at "wp") => `(tactic| first
  | (with_reducible first | apply w_seq | apply w_sV | apply w_sW | apply w_if | apply w_asg | apply w_ret | apply w_drop | apply w_sNil | apply w_test | apply w_not | apply w_bin | apply w_c0 | apply w_c1 | apply w_cn | apply w_c | apply w_nil | apply w_cons | apply w_few | apply w_tree | apply w_new | apply w_tup | apply w_cb | apply w_call | apply w_isi | apply w_fld | apply w_nopart | apply w_part | apply w_slL | apply w_slS | apply w_dget | apply w_newK | apply w_newT | apply w_app | apply w_lst0 | apply w_prop | apply w_ownE | apply w_ownN | apply w_catN | apply w_get1 | apply w_get2 | apply w_and | apply w_or | apply w_andV | apply w_orV | apply w_notV | apply w_dif | apply w_retN | apply w_par | apply w_gN | apply w_gsNil | apply w_gsCons | apply w_gSetL | apply w_asgG | apply w_sFld | apply w_sDP | apply w_iLst | apply w_iTu | apply w_iSt | apply w_iRg1 | apply w_iRg2 | apply w_for | apply w_lc | apply w_lock | apply w_iDk | apply w_join | apply w_meth | apply nxt_nx | apply nxt_rt)
  | (with_reducible refine w_var (by with_unfolding_all rfl) ?_) | (with_reducible refine w_gTu (by with_unfolding_all rfl) (by with_unfolding_all rfl) ?_) | (with_reducible refine w_aug (by with_unfolding_all rfl) ?_)
  | ((fail_if_success (with_reducible apply wp_id)); first
  | (refine ⟨lenOk (Nat.le_of_ble_eq_true rfl), ?_⟩) | (refine ⟨show _ ≤ 1000000 by omega, ?_⟩) | (refine ⟨(Nat.le_of_ble_eq_true rfl : _ ≤ 1000000), ?_⟩) | (refine ⟨rfl, ?_⟩)
  | (refine br_t ?_) | (refine br_f ?_) | (with_reducible refine br_n ?_) | (refine br_yes (by first | assumption | exact rfl | omega) ?_) | (refine br_no (by first | assumption | omega) ?_)
  | (with_reducible refine ⟨_, eq_int _ _, ?_⟩) | (with_reducible refine ⟨_, ne_int _ _, ?_⟩) | (with_reducible refine ⟨_, eq_wd _ _, ?_⟩) | (with_reducible refine ⟨_, ne_wd _ _, ?_⟩) | (with_reducible refine ⟨_, eq_str _ _, ?_⟩) | (with_reducible refine ⟨_, ne_str _ _, ?_⟩) | (with_reducible refine ⟨_, in_tup _, ?_⟩) | (with_reducible refine ⟨_, in_lst _, ?_⟩) | (with_reducible refine ⟨_, len_lst', ?_⟩) | (with_reducible refine ⟨_, add_wd (by first | omega | (simp; omega)), ?_⟩)
  | (with_reducible refine ⟨_, opMul_ev (.inr (by omega)), ?_⟩) | (with_reducible refine ⟨_, opMul_ev (.inl (by omega)), ?_⟩) | (with_reducible refine ⟨_, opMod_ev (by first | assumption | omega), ?_⟩) | (with_reducible refine ⟨_, opDiv_ev (by first | assumption | omega), ?_⟩)
  | (with_reducible refine ⟨_, add_int _ _, ?_⟩) | (with_reducible refine ⟨_, sub_int _ _, ?_⟩) | (with_reducible refine ⟨_, cmp_int _ _, ?_⟩) | (with_reducible refine ⟨_, lst_lst _, ?_⟩) | (with_reducible refine ⟨_, tup_tup _, ?_⟩) | (with_reducible refine ⟨_, isi_str _, ?_⟩) | (with_reducible refine ⟨_, isi_lst _, ?_⟩) | (with_reducible refine ⟨_, isi_code _, ?_⟩) | (with_reducible refine ⟨_, int_int _, ?_⟩) | (with_reducible refine ⟨_, str_str _, ?_⟩) | (with_reducible refine ⟨_, is_tup _, ?_⟩) | (with_reducible refine ⟨_, is_non, ?_⟩) | (with_reducible refine ⟨_, isn_tup _, ?_⟩) | (with_reducible refine ⟨_, isn_non, ?_⟩) | (with_reducible refine ⟨_, isn_bl _ _, ?_⟩) | (with_reducible refine ⟨_, is_bl _ _, ?_⟩) | (with_reducible refine ⟨_, list_lst _, ?_⟩) | (with_reducible refine ⟨_, fld_waysW _, ?_⟩) | (with_reducible refine ⟨_, fld_headsW _, ?_⟩) | (with_reducible refine ⟨_, fld_rowsW _, ?_⟩) | (with_reducible refine ⟨_, lstOf_end _, ?_⟩) | (with_reducible apply ex_bl) | (with_reducible apply ex_int) | (with_reducible apply ex_str) | (with_reducible apply ex_two) | (with_reducible apply ex_rg) | (with_reducible refine ex_rgi (by with_unfolding_all rfl) ?_))
  | fail)
open Tr
theorem w_make {c n : Nat} {sem : List D → List Ob → Option (D × List Ob)} {fs : DF (List D)} {E : SE} {S : List Ob} {Q : D → List Ob → Prop}
    (h : Wp (fs E S) fun xs S1 => xs.length + 1 = n ∧ Wp (sem (.ptr S1.length :: xs) (S1 ++ [.ins c []])) fun d S2 => d = .non ∧ Q (.ptr S1.length) S2) : Wp (dMake c n sem fs E S) Q := by
  obtain ⟨xs, S1, e, hl, d, S2, e2, rfl, q⟩ := h
  refine .of ?_ q
  unfold dMake
  rw [e, Option.bind_some]
  simp only
  rw [if_pos hl, e2]
  rfl
theorem w_fldAug {x : Str} {fo fv : DF D} {E : SE} {S : List Ob} {Qo : Out → List Ob → Prop}
    (h : Wp (fo E S) fun o S1 => ∃ k c0 fs0 i, o = .ptr k ∧ S1[k]? = some (.ins c0 fs0) ∧ fldOf S1 (.ptr k) x = some (.str i) ∧ Wp (fv E S1) fun v S2 => ∃ j fs, v = .str j ∧ S2[k]? = some (.ins c0 fs) ∧ fs.length < 1000 ∧ i.length + j.length ≤ sizeLine ∧ Qo (.nx E) (S2.set k (.ins c0 (putFD x (.str (i ++ j)) fs)))) : Wp (sFldAugS x fo fv E S) Qo := by
  obtain ⟨o, S1, e, k, c0, fs0, i, rfl, h1, h2, v, S2, e2, j, fs, rfl, h3, h4, h5, q⟩ := h
  refine .of ?_ q
  unfold sFldAugS
  rw [e, Option.bind_some]
  simp only [h1, h2, e2, Option.bind_some, h3]
  rw [if_pos ⟨trivial, h4, h5⟩]
local macro_rules | `(tactic| walk_at "wp") => `(tactic| (with_reducible first | apply w_make | apply w_fldAug))
def g_step_of : DFS := (sRet (dGet1 (dFld "ways" (dVar 0)) (dTup (dCons (dVar 1) (dCons (dVar 2) dNil)))))
def c_step_of := runB 3 g_step_of
theorem stepof_ok {S : List Ob} {W : List Row} {s n : Row} {b : Bool} (hs : s ∈ headsW W) (h : nextW W s b = some n) : c_step_of [codeW W, wd s, wd [b]] S = some (wd n, S) := by
  have key : Wp (c_step_of [codeW W, wd s, wd [b]] S) fun r S' => r = wd n ∧ S' = S := by
    refine w_run ?_
    unfold g_step_of
    repeat' (walk_at "wp")
    refine ⟨_, get_ways hs h, ?_⟩
    exact ⟨rfl, rfl⟩
  obtain ⟨r, S', e, rfl, rfl⟩ := key
  exact e
def g_check_full : DFS := (sIf (dOr (dNot (dTest (dIsi (isiO 0) (dVar 0)))) (dNot (dTest (dCall 1 c_is_full (dCons (dVar 0) dNil))))) sNever sNil)
def c_check_full := runB 1 g_check_full
theorem check_full_ok {S : List Ob} {t : Tr} (hf : full t) (hn : t ≠ no) (h : (heads t).length < 1000000) : c_check_full [codeW (words t)] S = some (.non, S) := by
  obtain ⟨b, e1, _, hb⟩ := is_full_tree (S := S) (Tr.full_ok hf) hn h
  have eb : b = true := hb.mpr hf
  subst eb
  have key : Wp (c_check_full [codeW (words t)] S) fun r S' => r = .non ∧ S' = S := by
    refine w_run ?_
    unfold g_check_full
    repeat' (walk_at "wp")
    refine .of e1 ?_
    repeat' (walk_at "wp")
    all_goals first | rfl | exact ⟨rfl, rfl⟩
  obtain ⟨r, S', e, rfl, rfl⟩ := key
  exact e
def rdr (W lot : List Row) (bits : Row) : Ob := .ins 1 [("code", codeW W), ("lot", .tup (lot.map wd)), ("bits", wd bits)]
theorem rdr_code {S : List Ob} {k : Nat} {W lot : List Row} {bits : Row} (h : S[k]? = some (rdr W lot bits)) : fldOf S (.ptr k) "code" = some (codeW W) := by
  simp only [fldOf, h, rdr]
  rfl
theorem rdr_lot {S : List Ob} {k : Nat} {W lot : List Row} {bits : Row} (h : S[k]? = some (rdr W lot bits)) : fldOf S (.ptr k) "lot" = some (.tup (lot.map wd)) := by
  simp only [fldOf, h, rdr]
  rfl
theorem rdr_bits {S : List Ob} {k : Nat} {W lot : List Row} {bits : Row} (h : S[k]? = some (rdr W lot bits)) : fldOf S (.ptr k) "bits" = some (wd bits) := by
  simp only [fldOf, h, rdr]
  rfl
theorem len_tup {S : List Ob} {l : List Row} : fLen S [.tup (l.map wd)] = some (.int (l.length : Nat)) := by
  rw [← List.length_map (f := wd)]
  rfl
def g_Reader_init : DFS := (sSeq (sDrop (dCall 1 c_check_full (dCons (dVar 1) dNil)))
    (sSeq (sFldD "code" (dVar 0) (dVar 1))
    (sSeq (sFldD "lot" (dVar 0) (dFld "heads" (dVar 1)))
    (sFldD "bits" (dVar 0) (dC (.str ""))))))
def i_Reader := runB 2 g_Reader_init
theorem reader_init {S : List Ob} {k : Nat} {t : Tr} (hf : full t) (hn : t ≠ no) (h : (heads t).length < 1000000) (hk : S[k]? = some (.ins 1 [])) : i_Reader [.ptr k, codeW (words t)] S = some (.non, S.set k (rdr (words t) (ordR (headsW (words t))) [])) := by
  have hl := (List.getElem?_eq_some_iff.mp hk).1
  have key : Wp (i_Reader [.ptr k, codeW (words t)] S) fun r S' => r = .non ∧ S' = S.set k (rdr (words t) (ordR (headsW (words t))) []) := by
    refine w_run ?_
    unfold g_Reader_init
    repeat' (walk_at "wp")
    refine .of (check_full_ok hf hn h) ?_
    repeat' (walk_at "wp")
    refine ⟨k, 1, [], rfl, hk, by decide, ?_⟩
    repeat' (walk_at "wp")
    refine ⟨k, 1, _, rfl, List.getElem?_set_self hl, (by show 1 < 1000; decide), ?_⟩
    rw [List.set_set]
    repeat' (walk_at "wp")
    refine ⟨k, 1, _, rfl, List.getElem?_set_self hl, (by show 2 < 1000; decide), ?_⟩
    rw [List.set_set]
    exact ⟨rfl, rfl⟩
  obtain ⟨r, S', e, rfl, rfl⟩ := key
  exact e
def g_Reader_possible : DFS := (sRet (dTree (dCB fList (dCons (dFld "lot" (dVar 0)) dNil))))
def P_possible := runB 1 g_Reader_possible
theorem possible_ok {S : List Ob} {k : Nat} {W lot : List Row} {bits : Row} (h : S[k]? = some (rdr W lot bits)) : P_possible [.ptr k] S = some (.lst (lot.map wd), S) := by
  have key : Wp (P_possible [.ptr k] S) fun r S' => r = .lst (lot.map wd) ∧ S' = S := by
    refine w_run ?_
    unfold g_Reader_possible
    repeat' (walk_at "wp")
    refine ⟨_, rdr_lot h, ?_⟩
    repeat' (walk_at "wp")
    refine ⟨_, rfl, rfl, rfl⟩
  obtain ⟨r, S', e, rfl, rfl⟩ := key
  exact e
def g_Reader_possibleN : DFS := (sRet (dNew (dCB fList (dCons (dFld "lot" (dVar 0)) dNil))))
def PN_possible := runB 1 g_Reader_possibleN
theorem possibleN_ok {S : List Ob} {k : Nat} {W lot : List Row} {bits : Row} (h : S[k]? = some (rdr W lot bits)) : PN_possible [.ptr k] S = some (.ptr S.length, S ++ [.lst (lot.map wd)]) := by
  have key : Wp (PN_possible [.ptr k] S) fun r S' => r = .ptr S.length ∧ S' = S ++ [.lst (lot.map wd)] := by
    refine w_run ?_
    unfold g_Reader_possibleN
    repeat' (walk_at "wp")
    refine ⟨_, rdr_lot h, ?_⟩
    repeat' (walk_at "wp")
    refine ⟨_, rfl, rfl, rfl⟩
  obtain ⟨r, S', e, rfl, rfl⟩ := key
  exact e
def g_Reader_settled : DFS := (sRet (dBin opEq (dCB fLen (dCons (dFld "lot" (dVar 0)) dNil)) (dC (.int 1))))
def P_settled := runB 1 g_Reader_settled
theorem settled_ok {S : List Ob} {k : Nat} {W lot : List Row} {bits : Row} (h : S[k]? = some (rdr W lot bits)) (hl : lot.length ≤ 100000) : P_settled [.ptr k] S = some (.bl (decide (lot.length = 1)), S) := by
  have key : Wp (P_settled [.ptr k] S) fun r S' => r = .bl (decide (lot.length = 1)) ∧ S' = S := by
    refine w_run ?_
    unfold g_Reader_settled
    repeat' (walk_at "wp")
    refine ⟨_, rdr_lot h, ?_⟩
    repeat' (walk_at "wp")
    refine ⟨_, len_tup, ?_⟩
    repeat' (walk_at "wp")
    refine ⟨?_, rfl⟩
    congr 1
    rw [Bool.eq_iff_iff, decide_eq_true_iff, decide_eq_true_iff]
    omega
  obtain ⟨r, S', e, rfl, rfl⟩ := key
  exact e
def g_Reader_eq : DFS := (sRet (dAndV (dIsi (isiO 1) (dVar 1)) (dAndV (dOwn 0 Q_0 false (dFld "code" (dVar 0)) (dFld "code" (dVar 1))) (dBin opEq (dFld "bits" (dVar 0)) (dFld "bits" (dVar 1))))))
def Q_1 := runB 2 g_Reader_eq
theorem eq_reader {S : List Ob} {k j : Nat} {W l1 l2 : List Row} {b1 b2 : Row} (h : S[k]? = some (rdr W l1 b1)) (h2 : S[j]? = some (rdr W l2 b2)) : Q_1 [.ptr k, .ptr j] S = some (.bl (decide (b1 = b2)), S) := by
  have key : Wp (Q_1 [.ptr k, .ptr j] S) fun r S' => r = .bl (decide (b1 = b2)) ∧ S' = S := by
    refine w_run ?_
    unfold g_Reader_eq
    repeat' (walk_at "wp")
    have e1 : (tgOf S (.ptr j)).bind (isiO 1) = some true := by simp only [tgOf, h2, rdr]; rfl
    refine ⟨_, e1, ?_⟩
    repeat' (walk_at "wp")
    refine ⟨_, rdr_code h, ?_⟩
    repeat' (walk_at "wp")
    refine ⟨_, rdr_code h2, ?_⟩
    repeat' (walk_at "wp")
    refine own_eq (fun r => Iff.rfl) ?_
    repeat' (walk_at "wp")
    refine ⟨_, rdr_bits h, ?_⟩
    repeat' (walk_at "wp")
    refine ⟨_, rdr_bits h2, ?_⟩
    refine ⟨_, eq_wd _ _, ?_⟩
    repeat' (walk_at "wp")
    all_goals first | rfl | exact ⟨rfl, rfl⟩
  obtain ⟨r, S', e, rfl, rfl⟩ := key
  exact e
theorem eq_rd_other {S : List Ob} {k : Nat} {d : D} (h : (tgOf S d).bind (isiO 1) = some false) : Q_1 [.ptr k, d] S = some (.bl false, S) := by
  have key : Wp (Q_1 [.ptr k, d] S) fun r S' => r = .bl false ∧ S' = S := by
    refine w_run ?_
    unfold g_Reader_eq
    repeat' (walk_at "wp")
    refine ⟨_, h, ?_⟩
    repeat' (walk_at "wp")
    all_goals first | rfl | exact ⟨rfl, rfl⟩
  obtain ⟨r, S', e, rfl, rfl⟩ := key
  exact e
theorem fTuple_lst {S : List Ob} {l : List D} : fTuple S [.lst l] = some (.tup l) := rfl
theorem set_same {l : List Ob} {k : Nat} {a : Ob} (h : l[k]? = some a) : l.set k a = l := by
  refine List.ext_getElem? fun i => ?_
  by_cases e : k = i
  · subst e
    rw [List.getElem?_set_self (List.getElem?_eq_some_iff.mp h).1, h]
  · rw [List.getElem?_set_ne e]
def g_Reader_read : DFS := (sSeq (sDrop (dCall 1 c_check_row (dCons (dVar 1) dNil)))
    (sSeq (sAsg 2 (dNew (few dNil)))
    (sSeq (sV [3] (sFor (iSt (dVar 1)) (gN 3) (sW [3] (sSeq (sIf (dAnd (dTest (dBin opEq (dCB fLen (dCons (dFld "lot" (dVar 0)) dNil)) (dC (.int 1)))) (dTest (dBin opEq (dCall 3 c_step_of (dCons (dFld "code" (dVar 0)) (dCons (dBin atD (dFld "lot" (dVar 0)) (dC (.int 0))) (dCons (dVar 3) dNil)))) (dC (.str ""))))) (sDrop (dApp (dVar 2) (dBin opAdd (dBin atD (dFld "lot" (dVar 0)) (dC (.int 0))) (dVar 3)))) sNil)
    (sFldD "lot" (dVar 0) (dCB fTuple (dCons (dCall 1 c_in_order (dCons (dTree (dLc [4] (iTu (dFld "lot" (dVar 0))) (gN 4) dYes (dCall 3 c_step_of (dCons (dFld "code" (dVar 0)) (dCons (dVar 4) (dCons (dVar 3) dNil)))))) dNil)) dNil)))))))
    (sSeq (sFldAugS "bits" (dVar 0) (dVar 1))
    (sRet (dVar 2))))))
def W_read := runB 5 g_Reader_read
def stR (S : List Ob) (k : Nat) (W lot : List Row) (bits : Row) (out : List Row) : List Ob := (S ++ [Ob.lst (out.map wd)]).set k (rdr W lot bits)
theorem stR_k {S : List Ob} {k : Nat} {W lot : List Row} {bits : Row} {out : List Row} (h : k < S.length) : (stR S k W lot bits out)[k]? = some (rdr W lot bits) := List.getElem?_set_self (by rw [List.length_append]; omega)
theorem stR_out {S : List Ob} {k : Nat} {W lot : List Row} {bits : Row} {out : List Row} (h : k < S.length) : (stR S k W lot bits out)[S.length]? = some (Ob.lst (out.map wd)) := by
  unfold stR
  rw [List.getElem?_set_ne (by omega)]
  exact end_at
theorem stR_app {S : List Ob} {k : Nat} {W lot : List Row} {bits : Row} {out out' : List Row} (h : k < S.length) : (stR S k W lot bits out).set S.length (Ob.lst (out'.map wd)) = stR S k W lot bits out' := by
  unfold stR
  rw [List.set_comm _ _ (by omega), end_set]
theorem stR_lot {S : List Ob} {k : Nat} {W lot lot' : List Row} {bits bits' : Row} {out : List Row} : (stR S k W lot bits out).set k (rdr W lot' bits') = stR S k W lot' bits' out := by
  unfold stR
  rw [List.set_set]
theorem read_run {S : List Ob} {k : Nat} {W lot : List Row} {bits row : Row} (G : CodeOk W) (hf : ∀ s ∈ headsW W, ∀ b, nextW W s b ≠ none) (hk : S[k]? = some (rdr W lot bits)) (hl : ∀ s ∈ lot, s ∈ headsW W) (ll : lot.length ≤ 400) (hr : row.length ≤ 1000) (hb : bits.length ≤ 100000) :
    Wp (W_read [.ptr k, wd row] S) fun d S' => d = .ptr S.length ∧ S' = stR S k W (toldW W lot row).1 (bits ++ row) (toldW W lot row).2 := by
  have hks := (List.getElem?_eq_some_iff.mp hk).1
  have h0 := nil_head G.g
  refine w_run ?_
  unfold g_Reader_read
  repeat' (walk_at "wp")
  refine .of (check_row_ok (by omega)) ?_
  repeat' (walk_at "wp")
  rw [signs_ws]
  refine for_by row (fun b => wd [b]) (fun _ : Nat => [some (.ptr k), some (wd row), some (.ptr S.length), none, none]) (fun i => stR S k W (toldW W lot (row.take i)).1 bits (toldW W lot (row.take i)).2) (fun i j => j = i) 0 rfl (fun _ _ _ => gv_fix) ?_ ?_ rfl ?_
  · rintro i b j rfl hb
    have hkb : k < (S ++ [Ob.lst (List.map wd (toldW W lot (List.take j row)).2)]).length := by rw [List.length_append]; omega
    have ot : ∀ s ∈ (toldW W lot (row.take j)).1, s ∈ headsW W := told_mem h0 _ _ hl
    have ol : (toldW W lot (row.take j)).1.length ≤ 400 := Nat.le_trans (told_len W _ _) ll
    have oc := told_count W (row.take j) lot
    have ot2 := told_snoc W (row.take j) lot b
    have et : row.take (j + 1) = row.take j ++ [b] := by rw [List.take_add_one, hb]; rfl
    rw [← et] at ot2
    generalize hp : toldW W lot (row.take j) = p at *
    obtain ⟨L, O⟩ := p
    simp only at *
    refine w_gN ?_
    refine w_sW ?_
    refine seq_mid (fun o S1 => o = .nx [some (.ptr k), some (wd row), some (.ptr S.length), some (wd [b]), none] ∧ S1 = stR S k W L bits (O ++ outL W L b)) ?_ ?_
    · repeat' (walk_at "wp")
      refine ⟨_, rdr_lot (stR_k hks), ?_⟩
      repeat' (walk_at "wp")
      refine ⟨_, len_tup, ?_⟩
      repeat' (walk_at "wp")
      refine br (fun h1 => ?_) (fun h1 => ?_)
      · obtain ⟨s, rfl⟩ : ∃ s, L = [s] := List.length_eq_one_iff.mp (by omega)
        have hs := ot s (List.mem_singleton.mpr rfl)
        obtain ⟨n, hn⟩ : ∃ n, nextW W s b = some n := by
          cases h : nextW W s b with
          | none => exact absurd h (hf s hs b)
          | some n => exact ⟨n, rfl⟩
        have sl := head_len G.g hs
        have a0 : ∀ T, atD T (.tup ([s].map wd)) (.int 0) = some (wd s) := fun T => rfl
        repeat' (walk_at "wp")
        refine ⟨_, rdr_code (stR_k hks), ?_⟩
        repeat' (walk_at "wp")
        refine ⟨_, rdr_lot (stR_k hks), ?_⟩
        repeat' (walk_at "wp")
        refine ⟨_, a0 _, ?_⟩
        repeat' (walk_at "wp")
        refine .of (stepof_ok hs hn) ?_
        repeat' (walk_at "wp")
        refine br (fun h2 => ?_) (fun h2 => ?_)
        · repeat' (walk_at "wp")
          refine ⟨_, rdr_lot (stR_k hks), ?_⟩
          repeat' (walk_at "wp")
          refine ⟨_, a0 _, ?_⟩
          repeat' (walk_at "wp")
          have : sizeLine = 16777216 := by decide
          refine ⟨_, _, rfl, stR_out hks, by rw [List.length_map]; rw [List.length_take] at oc; omega, ⟨_, stR_out hks⟩, ?_⟩
          have e2 : outL W [s] b = [s ++ [b]] := by simp only [outL, hn, h2, if_true]
          rw [e2]
          rw [show List.map wd O ++ [wd (s ++ [b])] = List.map wd (O ++ [s ++ [b]]) by rw [List.map_append]; rfl, stR_app hks]
          exact ⟨rfl, rfl⟩
        · repeat' (walk_at "wp")
          have e2 : outL W [s] b = [] := by
            simp only [outL, hn, Option.some.injEq]
            rw [if_neg h2]
          rw [e2, List.append_nil]
          all_goals exact ⟨rfl, rfl⟩
      · repeat' (walk_at "wp")
        have e2 : outL W L b = [] := by
          unfold outL
          split
          · simp at h1
          · rfl
        rw [e2, List.append_nil]
        all_goals exact ⟨rfl, rfl⟩
    · rintro _ _ ⟨rfl, rfl⟩
      repeat' (walk_at "wp")
      refine ⟨_, rdr_lot (stR_k hks), ?_⟩
      refine ⟨_, tup_tup _, ?_⟩
      refine lcm_by L wd (fun s => wd (nxt W b s)) gv_fix (by omega) (fun s hs => ?_) ?_
      · obtain ⟨n, hn⟩ : ∃ n, nextW W s b = some n := by
          cases h : nextW W s b with
          | none => exact absurd h (hf s (ot s hs) b)
          | some n => exact ⟨n, rfl⟩
        repeat' (walk_at "wp")
        refine ⟨_, rdr_code (stR_k hks), ?_⟩
        repeat' (walk_at "wp")
        refine .of (stepof_ok (ot s hs) hn) ⟨rfl, ?_⟩
        unfold nxt
        rw [hn]
        rfl
      repeat' (walk_at "wp")
      refine .of (in_order_ok (W := L.map (nxt W b)) (by rw [lst_lst, List.map_map]; rfl) (by rw [List.length_map]; omega) (fun w hw => ?_)) ?_
      · obtain ⟨s, hs, rfl⟩ := List.mem_map.mp hw
        have := head_len G.g (nxt_head h0 b s)
        omega
      repeat' (walk_at "wp")
      refine ⟨.tup ((stepL W L b).map wd), by unfold stepL; exact fTuple_lst, ?_⟩
      repeat' (walk_at "wp")
      refine ⟨k, 1, _, rfl, stR_k hks, by show 3 < 1000; decide, j + 1, rfl, ?_, rfl⟩
      rw [ot2]
      exact stR_lot
  · rintro _ rfl
    rw [List.take_length]
    repeat' (walk_at "wp")
    have : sizeLine = 16777216 := by decide
    refine ⟨k, 1, _, ws bits, rfl, stR_k hks, rdr_bits (stR_k hks), ?_⟩
    repeat' (walk_at "wp")
    refine ⟨ws row, _, rfl, stR_k hks, by show 3 < 1000; decide, by rw [ws_len, ws_len]; omega, ?_⟩
    repeat' (walk_at "wp")
    rw [ws_app]
    exact stR_lot
  · unfold stR
    have e := set_same (l := S ++ [Ob.lst (([] : List Row).map wd)]) (k := k) (a := rdr W lot bits) (by rw [List.getElem?_append_left hks]; exact hk)
    exact e.symm
end
end DL


set_option Elab.async false
set_option linter.all false
set_option maxRecDepth 100000
set_option maxHeartbeats 4000000
/-! P24: what the law finds of readers. -/
namespace DL
open PySem PySem.Spec PyProof.Rows L2
noncomputable section
local macro_rules | `(tactic| walk_at "wp") => `(tactic| first
  | (with_reducible first | apply w_seq | apply w_sV | apply w_sW | apply w_if | apply w_asg | apply w_ret | apply w_drop | apply w_sNil | apply w_test | apply w_not | apply w_bin | apply w_c0 | apply w_c1 | apply w_cn | apply w_c | apply w_nil | apply w_cons | apply w_few | apply w_tree | apply w_new | apply w_tup | apply w_cb | apply w_call | apply w_isi | apply w_fld | apply w_nopart | apply w_part | apply w_slL | apply w_slS | apply w_dget | apply w_newK | apply w_newT | apply w_app | apply w_lst0 | apply w_prop | apply w_ownE | apply w_ownN | apply w_catN | apply w_get1 | apply w_get2 | apply w_and | apply w_or | apply w_andV | apply w_orV | apply w_notV | apply w_dif | apply w_retN | apply w_par | apply w_gN | apply w_gsNil | apply w_gsCons | apply w_gSetL | apply w_asgG | apply w_sFld | apply w_sDP | apply w_iLst | apply w_iTu | apply w_iSt | apply w_iRg1 | apply w_iRg2 | apply w_for | apply w_lc | apply w_lock | apply w_iDk | apply w_join | apply w_meth | apply nxt_nx | apply nxt_rt)
  | (with_reducible refine w_var (by with_unfolding_all rfl) ?_) | (with_reducible refine w_gTu (by with_unfolding_all rfl) (by with_unfolding_all rfl) ?_) | (with_reducible refine w_aug (by with_unfolding_all rfl) ?_)
  | ((fail_if_success (with_reducible apply wp_id)); first
  | (refine ⟨lenOk (Nat.le_of_ble_eq_true rfl), ?_⟩) | (refine ⟨show _ ≤ 1000000 by omega, ?_⟩) | (refine ⟨(Nat.le_of_ble_eq_true rfl : _ ≤ 1000000), ?_⟩) | (refine ⟨rfl, ?_⟩)
  | (refine br_t ?_) | (refine br_f ?_) | (with_reducible refine br_n ?_) | (refine br_yes (by first | assumption | exact rfl | omega) ?_) | (refine br_no (by first | assumption | omega) ?_)
  | (with_reducible refine ⟨_, eq_int _ _, ?_⟩) | (with_reducible refine ⟨_, ne_int _ _, ?_⟩) | (with_reducible refine ⟨_, eq_wd _ _, ?_⟩) | (with_reducible refine ⟨_, ne_wd _ _, ?_⟩) | (with_reducible refine ⟨_, eq_str _ _, ?_⟩) | (with_reducible refine ⟨_, ne_str _ _, ?_⟩) | (with_reducible refine ⟨_, in_tup _, ?_⟩) | (with_reducible refine ⟨_, in_lst _, ?_⟩) | (with_reducible refine ⟨_, len_lst', ?_⟩) | (with_reducible refine ⟨_, add_wd (by first | omega | (simp; omega)), ?_⟩)
  | (with_reducible refine ⟨_, opMul_ev (.inr (by omega)), ?_⟩) | (with_reducible refine ⟨_, opMul_ev (.inl (by omega)), ?_⟩) | (with_reducible refine ⟨_, opMod_ev (by first | assumption | omega), ?_⟩) | (with_reducible refine ⟨_, opDiv_ev (by first | assumption | omega), ?_⟩)
  | (with_reducible refine ⟨_, add_int _ _, ?_⟩) | (with_reducible refine ⟨_, sub_int _ _, ?_⟩) | (with_reducible refine ⟨_, cmp_int _ _, ?_⟩) | (with_reducible refine ⟨_, lst_lst _, ?_⟩) | (with_reducible refine ⟨_, tup_tup _, ?_⟩) | (with_reducible refine ⟨_, isi_str _, ?_⟩) | (with_reducible refine ⟨_, isi_lst _, ?_⟩) | (with_reducible refine ⟨_, isi_code _, ?_⟩) | (with_reducible refine ⟨_, int_int _, ?_⟩) | (with_reducible refine ⟨_, str_str _, ?_⟩) | (with_reducible refine ⟨_, is_tup _, ?_⟩) | (with_reducible refine ⟨_, is_non, ?_⟩) | (with_reducible refine ⟨_, isn_tup _, ?_⟩) | (with_reducible refine ⟨_, isn_non, ?_⟩) | (with_reducible refine ⟨_, isn_bl _ _, ?_⟩) | (with_reducible refine ⟨_, is_bl _ _, ?_⟩) | (with_reducible refine ⟨_, list_lst _, ?_⟩) | (with_reducible refine ⟨_, fld_waysW _, ?_⟩) | (with_reducible refine ⟨_, fld_headsW _, ?_⟩) | (with_reducible refine ⟨_, fld_rowsW _, ?_⟩) | (with_reducible refine ⟨_, lstOf_end _, ?_⟩) | (with_reducible apply ex_bl) | (with_reducible apply ex_int) | (with_reducible apply ex_str) | (with_reducible apply ex_two) | (with_reducible apply ex_rg) | (with_reducible refine ex_rgi (by with_unfolding_all rfl) ?_))
  | fail)
open Tr
def g__law_told : DFS := (sSeq (sPar 2 3 (dCons (dCall 1 c__law_states (dCons (dVar 0) dNil)) (dCons (dNew (few dNil)) dNil)))
    (sSeq (sV [4, 5, 6] (sFor (iSt (dVar 1)) (gN 4) (sW [4, 5, 6] (sSeq (sIf (dAnd (dTest (dBin opEq (dCB fLen (dCons (dVar 2) dNil)) (dC (.int 1)))) (dTest (dBin opIn (dBin opAdd (dBin atD (dVar 2) (dC (.int 0))) (dVar 4)) (dVar 0)))) (sDrop (dApp (dVar 3) (dBin opAdd (dBin atD (dVar 2) (dC (.int 0))) (dVar 4)))) sNil)
    (sSeq (sAsg 5 dNewK)
    (sSeq (sV [6] (sFor (iLst (dVar 2)) (gN 6) (sW [6] (sDP (dVar 5) (dBin atD (dCall 3 c__law_after (dCons (dVar 0) (dCons (dVar 6) (dCons (dVar 4) dNil)))) (dC (.int 0))) (dC (.bl true))))))
    (sAsg 2 (dCall 1 c__law_in_order (dCons (dTree (lockAt (dVar 5) (dLc [6] (iDk .keys (dVar 5)) (gN 6) dYes (dVar 6)))) dNil)))))))))
    (sRet (dTup (dCons (dVar 2) (dCons (dVar 3) dNil))))))
def NoGap (W : List Row) : Prop := ∀ s ∈ headsW W, ∀ b, nextW W s b ≠ none
def RTold (ds : List D) (d : D) : Prop := ∃ W rows, ds = [.lst (W.map wd), wd rows] ∧ CodeOk W ∧ SmallS W ∧ NoGap W ∧ rows.length ≤ 1000 ∧ d = .tup [.lst ((toldW W (ordR (headsW W)) rows).1.map wd), .lst ((toldW W (ordR (headsW W)) rows).2.map wd)]
theorem told_run {S : List Ob} {W : List Row} {rows : Row} (G : CodeOk W) (sS : SmallS W) (hf : NoGap W) (hr : rows.length ≤ 1000) :
    Wp (runB 7 g__law_told [.lst (W.map wd), wd rows] S) fun d S' => ∃ T, d = .tup [.lst ((toldW W (ordR (headsW W)) rows).1.map wd), .ptr S.length] ∧ S' = S ++ .lst ((toldW W (ordR (headsW W)) rows).2.map wd) :: T := by
  have h0 := nil_head G.g
  refine w_run ?_
  unfold g__law_told
  repeat' (walk_at "wp")
  refine .of (cW_ok (P := SmallS) (v := fun W => .lst ((ordR (headsW W)).map wd)) rfl sS) ?_
  repeat' (walk_at "wp")
  rw [signs_ws]
  have hh : ∀ s ∈ ordR (headsW W), s ∈ headsW W := fun s hs => mem_ordR.mp hs
  have hl4 : (ordR (headsW W)).length ≤ 400 := Nat.le_trans (ordR_le _) sS.2
  refine for_by rows (fun b => wd [b]) (fun st : Nat × List Ob => [some (.lst (W.map wd)), some (wd rows), some (.lst ((toldW W (ordR (headsW W)) (rows.take st.1)).1.map wd)), some (.ptr S.length), none, none, none]) (fun st => S ++ .lst ((toldW W (ordR (headsW W)) (rows.take st.1)).2.map wd) :: st.2) (fun i st => st.1 = i) (0, []) rfl (fun _ _ _ => gv_fix) ?_ ?_ rfl rfl
  · rintro i b ⟨j, T⟩ hj hb
    have hj : i = j := hj.symm
    subst hj
    simp only
    have ot : ∀ s ∈ (toldW W (ordR (headsW W)) (rows.take i)).1, s ∈ headsW W := told_mem h0 _ _ hh
    have ol : (toldW W (ordR (headsW W)) (rows.take i)).1.length ≤ 400 := Nat.le_trans (told_len W _ _) hl4
    have oc := told_count W (rows.take i) (ordR (headsW W))
    have ot2 := told_snoc W (rows.take i) (ordR (headsW W)) b
    have et : rows.take (i + 1) = rows.take i ++ [b] := by rw [List.take_add_one, hb]; rfl
    rw [← et] at ot2
    generalize hp : toldW W (ordR (headsW W)) (rows.take i) = p at *
    obtain ⟨L, O⟩ := p
    simp only at *
    have two : ∀ s ∈ L, ∀ n, nextW W s b = some n → ((s ++ [b] ∈ W) ↔ n = []) := fun s hs n hn => by
      unfold nextW at hn
      by_cases hw : s ++ [b] ∈ W
      · rw [if_pos hw] at hn
        exact ⟨fun _ => (Option.some.inj hn).symm, fun _ => hw⟩
      · rw [if_neg hw] at hn
        by_cases hh : s ++ [b] ∈ headsW W
        · rw [if_pos hh] at hn
          exact ⟨fun h => absurd h hw, fun h => by rw [← Option.some.inj hn] at h; simp at h⟩
        · rw [if_neg hh] at hn
          cases hn
    refine w_gN ?_
    refine w_sW ?_
    refine seq_mid (fun o S1 => o = .nx [some (.lst (W.map wd)), some (wd rows), some (.lst (L.map wd)), some (.ptr S.length), some (wd [b]), none, none] ∧ S1 = S ++ .lst ((O ++ outL W L b).map wd) :: T) ?_ ?_
    · repeat' (walk_at "wp")
      refine br (fun h1 => ?_) (fun h1 => ?_)
      · obtain ⟨s, rfl⟩ : ∃ s, L = [s] := List.length_eq_one_iff.mp (by rw [List.length_map] at h1; omega)
        have hs := ot s (List.mem_singleton.mpr rfl)
        obtain ⟨n, hn⟩ : ∃ n, nextW W s b = some n := by
          cases h : nextW W s b with
          | none => exact absurd h (hf s hs b)
          | some n => exact ⟨n, rfl⟩
        have hw := two s (List.mem_singleton.mpr rfl) n hn
        have sl := head_len G.g hs
        have a0 : ∀ T, atD T (.lst ([s].map wd)) (.int 0) = some (wd s) := fun T => rfl
        repeat' (walk_at "wp")
        refine ⟨_, a0 _, ?_⟩
        repeat' (walk_at "wp")
        refine br (fun h2 => ?_) (fun h2 => ?_)
        · repeat' (walk_at "wp")
          refine ⟨_, a0 _, ?_⟩
          repeat' (walk_at "wp")
          have : sizeLine = 16777216 := by decide
          refine ⟨_, _, rfl, end_at, by rw [List.length_map]; rw [List.length_take] at oc; omega, ⟨_, end_at⟩, ?_⟩
          have e2 : outL W [s] b = [s ++ [b]] := by simp only [outL, hn, hw.mp h2, if_true]
          rw [e2, end_set, List.map_append]
          exact ⟨rfl, rfl⟩
        · repeat' (walk_at "wp")
          have e2 : outL W [s] b = [] := by
            simp only [outL, hn, Option.some.injEq]
            rw [if_neg fun e => h2 (hw.mpr e)]
          rw [e2, List.append_nil]
          all_goals exact ⟨rfl, rfl⟩
      · repeat' (walk_at "wp")
        have e2 : outL W L b = [] := by
          unfold outL
          split
          · simp at h1
          · rfl
        rw [e2, List.append_nil]
        all_goals exact ⟨rfl, rfl⟩
    · rintro _ _ ⟨rfl, rfl⟩
      have eB : S ++ Ob.lst ((O ++ outL W L b).map wd) :: T = S ++ Ob.lst ((O ++ outL W L b).map wd) :: T := rfl
      generalize hB : S ++ Ob.lst ((O ++ outL W L b).map wd) :: T = B at eB ⊢
      repeat' (walk_at "wp")
      refine for_by L wd (fun st : Nat × List Ob => [some (.lst (W.map wd)), some (wd rows), some (.lst (L.map wd)), some (.ptr S.length), some (wd [b]), some (.ptr B.length), none]) (fun st => B ++ .dK (setK (ded (((L.take st.1).map (nxt W b)).map keyR))) :: st.2) (fun i st => st.1 = i) (0, []) rfl (fun _ _ _ => gv_lst) ?_ ?_ rfl rfl
      · rintro m s ⟨q, U⟩ hq hs
        have hq : m = q := hq.symm
        subst hq
        simp only
        have hsL := List.mem_of_getElem? hs
        have hm := (List.getElem?_eq_some_iff.mp hs).1
        obtain ⟨n, hn⟩ : ∃ n, nextW W s b = some n := by
          cases h : nextW W s b with
          | none => exact absurd h (hf s (ot s hsL) b)
          | some n => exact ⟨n, rfl⟩
        have aw : afterW W s [b] = some (n, if n = [] then [s ++ [b]] else []) := by
          rw [after_some _ hn]
          simp [afterW]
        have la := law_after_ok (S := B ++ .dK (setK (ded (((L.take m).map (nxt W b)).map keyR))) :: U) G sS (ot s hsL) (row := [b]) (by simp)
        rw [aw] at la
        repeat' (walk_at "wp")
        refine la.imp ?_
        rintro _ _ ⟨rfl, rfl⟩
        repeat' (walk_at "wp")
        refine ⟨wd n, rfl, ?_⟩
        have sz : (setK (ded (((L.take m).map (nxt W b)).map keyR))).length < sizeLine := by
          unfold setK
          rw [List.length_map]
          have a1 := ded_len (((L.take m).map (nxt W b)).map keyR)
          rw [List.length_map, List.length_map, List.length_take] at a1
          have a3 : 1000 ≤ sizeLine := by decide
          omega
        have en : nxt W b s = n := by unfold nxt; rw [hn]; rfl
        have e5 : addTo (ded (((L.take m).map (nxt W b)).map keyR)) (keyR n) = ded (((L.take (m + 1)).map (nxt W b)).map keyR) := by
          rw [List.take_add_one, hs, List.map_append, List.map_append]
          show _ = ded (_ ++ [keyR (nxt W b s)])
          rw [en]
          exact (ded_snoc _ _).symm
        rw [List.append_assoc, List.cons_append]
        refine ⟨B ++ .dK (setK (ded (((L.take (m + 1)).map (nxt W b)).map keyR))) :: (U ++ [.lst ((if n = [] then [s ++ [b]] else []).map wd)]), ?_, (m + 1, _), rfl, rfl, rfl⟩
        simp only [putO, end_at, keyOf, sz, if_true]
        rw [end_set, putD_set]
        exact congrArg (fun z => some (B ++ Ob.dK (setK z) :: _)) e5
      · rintro ⟨_, U⟩ rfl
        simp only [List.take_length]
        repeat' (walk_at "wp")
        refine ⟨_, _, rfl, lockO_K end_at, ?_⟩
        rw [end_set]
        repeat' (walk_at "wp")
        refine ⟨_, _, rfl, .inl end_at, ?_⟩
        have ek : ((setK (ded ((L.map (nxt W b)).map keyR))).map fun p => keyD p.1) = (ded (L.map (nxt W b))).map wd := by
          rw [ded_inj keyR_inj]
          simp [setK, List.map_map, Function.comp_def]
          intro a _
          rfl
        have nd : (ded (L.map (nxt W b))).length ≤ 400 := by
          have := ded_len (L.map (nxt W b))
          rw [List.length_map] at this
          omega
        refine lcm_by (ded (L.map (nxt W b))) wd wd (by rw [← ek]; exact gv_keys end_at) (by omega) (fun x hx => ?_) ?_
        · repeat' (walk_at "wp")
          all_goals rfl
        · refine ⟨_, freeO_K end_at, ?_⟩
          rw [end_set]
          repeat' (walk_at "wp")
          have sw : SmallW (ded (L.map (nxt W b))) := ⟨nd, fun w hw => by
            obtain ⟨s, hs, rfl⟩ := List.mem_map.mp (mem_ded.mp hw)
            obtain ⟨w, hw, j, hj, e⟩ := mem_headsW.mp (nxt_head h0 b s)
            rw [e, List.length_take]
            have := sS.1.l w hw
            omega⟩
          refine .of (law_in_order_ok (W := ded (L.map (nxt W b))) rfl (nodup_ded _) sw) ?_
          have eL : ordR (ded (L.map (nxt W b))) = stepL W L b := ordR_ext fun r => mem_ded
          rw [eL]
          refine ⟨(i + 1, T ++ .dK (setK (ded ((L.map (nxt W b)).map keyR))) :: U), ?_, ?_, rfl⟩
          · simp only
            rw [ot2]
            rfl
          · simp only
            rw [ot2, ← hB]
            simp
  · rintro ⟨_, T⟩ rfl
    simp only [List.take_length]
    repeat' (walk_at "wp")
    exact ⟨T, rfl, rfl⟩
theorem told_det (ds : List D) (d e : D) (h1 : RTold ds d) (h2 : RTold ds e) : d = e := by
  obtain ⟨W, r, rfl, _, _, _, _, rfl⟩ := h1
  obtain ⟨V, q, e1, _, _, _, _, rfl⟩ := h2
  obtain ⟨e2, e3⟩ := List.cons.inj e1
  have e4 : W.map wd = V.map wd := D.lst.inj e2
  have e5 : W = V := List.map_inj_right (fun a b h => wd_inj h) |>.mp e4
  have e6 : r = q := wd_inj (List.cons.inj e3).1
  rw [e5, e6]
def c__law_told := cR RTold
theorem told_frz : ∀ (ds : List D) (S : List Ob) (r : D × List Ob), ds.length = 2 → c__law_told ds S = some r → ∃ r', runB 7 g__law_told ds S = some r' ∧ RzR S r' r := by
  intro ds S r _ h
  obtain ⟨d, ⟨W, rows, rfl, G, sS, hf, hr, rfl⟩, rfl⟩ := cR_some h
  obtain ⟨r, S', e, T, rfl, rfl⟩ := told_run (S := S) G sS hf hr
  exact ⟨_, e, RzR.same ⟨_, rfl, _, _, rfl, rz_bnd _ (rows_bnd _ _), _, _, rfl, rz_lstW (Nat.le_refl _) end_at, rfl⟩⟩
theorem told_ok {S : List Ob} {W : List Row} {rows : Row} (G : CodeOk W) (sS : SmallS W) (hf : NoGap W) (hr : rows.length ≤ 1000) : c__law_told [.lst (W.map wd), wd rows] S = some (.tup [.lst ((toldW W (ordR (headsW W)) rows).1.map wd), .lst ((toldW W (ordR (headsW W)) rows).2.map wd)], S) :=
  cR_ok told_det ⟨W, rows, rfl, G, sS, hf, hr, rfl⟩
end
end DL


set_option Elab.async false
set_option linter.all false
set_option maxRecDepth 100000
set_option maxHeartbeats 4000000
/-! P25: the last right words. -/
namespace DL
open PySem PySem.Spec PyProof.Rows L2
noncomputable section
local macro_rules | `(tactic| walk_at "wp") => `(tactic| first
  | (with_reducible first | apply w_seq | apply w_sV | apply w_sW | apply w_if | apply w_asg | apply w_ret | apply w_drop | apply w_sNil | apply w_test | apply w_not | apply w_bin | apply w_c0 | apply w_c1 | apply w_cn | apply w_c | apply w_nil | apply w_cons | apply w_few | apply w_tree | apply w_new | apply w_tup | apply w_cb | apply w_call | apply w_isi | apply w_fld | apply w_nopart | apply w_part | apply w_slL | apply w_slS | apply w_dget | apply w_newK | apply w_newT | apply w_app | apply w_lst0 | apply w_prop | apply w_ownE | apply w_ownN | apply w_catN | apply w_get1 | apply w_get2 | apply w_and | apply w_or | apply w_andV | apply w_orV | apply w_notV | apply w_dif | apply w_retN | apply w_par | apply w_gN | apply w_gsNil | apply w_gsCons | apply w_gSetL | apply w_asgG | apply w_sFld | apply w_sDP | apply w_iLst | apply w_iTu | apply w_iSt | apply w_iRg1 | apply w_iRg2 | apply w_for | apply w_lc | apply w_lock | apply w_iDk | apply w_join | apply w_meth | apply nxt_nx | apply nxt_rt)
  | (with_reducible refine w_var (by with_unfolding_all rfl) ?_) | (with_reducible refine w_gTu (by with_unfolding_all rfl) (by with_unfolding_all rfl) ?_) | (with_reducible refine w_aug (by with_unfolding_all rfl) ?_)
  | ((fail_if_success (with_reducible apply wp_id)); first
  | (refine ⟨lenOk (Nat.le_of_ble_eq_true rfl), ?_⟩) | (refine ⟨show _ ≤ 1000000 by omega, ?_⟩) | (refine ⟨(Nat.le_of_ble_eq_true rfl : _ ≤ 1000000), ?_⟩) | (refine ⟨rfl, ?_⟩)
  | (refine br_t ?_) | (refine br_f ?_) | (with_reducible refine br_n ?_) | (refine br_yes (by first | assumption | exact rfl | omega) ?_) | (refine br_no (by first | assumption | omega) ?_)
  | (with_reducible refine ⟨_, eq_int _ _, ?_⟩) | (with_reducible refine ⟨_, ne_int _ _, ?_⟩) | (with_reducible refine ⟨_, eq_wd _ _, ?_⟩) | (with_reducible refine ⟨_, ne_wd _ _, ?_⟩) | (with_reducible refine ⟨_, eq_str _ _, ?_⟩) | (with_reducible refine ⟨_, ne_str _ _, ?_⟩) | (with_reducible refine ⟨_, in_tup _, ?_⟩) | (with_reducible refine ⟨_, in_lst _, ?_⟩) | (with_reducible refine ⟨_, len_lst', ?_⟩) | (with_reducible refine ⟨_, add_wd (by first | omega | (simp; omega)), ?_⟩)
  | (with_reducible refine ⟨_, opMul_ev (.inr (by omega)), ?_⟩) | (with_reducible refine ⟨_, opMul_ev (.inl (by omega)), ?_⟩) | (with_reducible refine ⟨_, opMod_ev (by first | assumption | omega), ?_⟩) | (with_reducible refine ⟨_, opDiv_ev (by first | assumption | omega), ?_⟩)
  | (with_reducible refine ⟨_, add_int _ _, ?_⟩) | (with_reducible refine ⟨_, sub_int _ _, ?_⟩) | (with_reducible refine ⟨_, cmp_int _ _, ?_⟩) | (with_reducible refine ⟨_, lst_lst _, ?_⟩) | (with_reducible refine ⟨_, tup_tup _, ?_⟩) | (with_reducible refine ⟨_, isi_str _, ?_⟩) | (with_reducible refine ⟨_, isi_lst _, ?_⟩) | (with_reducible refine ⟨_, isi_code _, ?_⟩) | (with_reducible refine ⟨_, int_int _, ?_⟩) | (with_reducible refine ⟨_, str_str _, ?_⟩) | (with_reducible refine ⟨_, is_tup _, ?_⟩) | (with_reducible refine ⟨_, is_non, ?_⟩) | (with_reducible refine ⟨_, isn_tup _, ?_⟩) | (with_reducible refine ⟨_, isn_non, ?_⟩) | (with_reducible refine ⟨_, isn_bl _ _, ?_⟩) | (with_reducible refine ⟨_, is_bl _ _, ?_⟩) | (with_reducible refine ⟨_, list_lst _, ?_⟩) | (with_reducible refine ⟨_, fld_waysW _, ?_⟩) | (with_reducible refine ⟨_, fld_headsW _, ?_⟩) | (with_reducible refine ⟨_, fld_rowsW _, ?_⟩) | (with_reducible refine ⟨_, lstOf_end _, ?_⟩) | (with_reducible apply ex_bl) | (with_reducible apply ex_int) | (with_reducible apply ex_str) | (with_reducible apply ex_two) | (with_reducible apply ex_rg) | (with_reducible refine ex_rgi (by with_unfolding_all rfl) ?_))
  | fail)
open Tr
def g__law_last_right : DFS := (sSeq (sAsg 3 (dCall 1 c__law_made (dCons (dVar 0) dNil)))
    (sSeq (sV [4, 5] (sFor (iLst (dProp 0 P_states (dVar 3))) (gN 4) (sW [4, 5] (sSeq (sAsg 5 (dBin atD (dMeth 0 3 "after" W_after (dVar 3) (dCons (dVar 4) (dCons (dVar 1) dNil))) (dC (.int 1))))
    (sIf (dOr (dTest (dBin opLt (dCB fLen (dCons (dVar 5) dNil)) (dCB fLen (dCons (dVar 2) dNil)))) (dAnd (dTest (dBin opNe (dVar 2) (dTree (few dNil)))) (dTest (dBin opNe (dTree (dSlL (dVar 5) (dPart (dBin opSub (dCB fLen (dCons (dVar 5) dNil)) (dCB fLen (dCons (dVar 2) dNil)))) dNoPart)) (dVar 2))))) (sRet (dC (.bl false))) sNil)))))
    (sRet (dC (.bl true)))))
def c__law_last_right := runB 6 g__law_last_right
theorem last_right_ok {S : List Ob} {W out : List Row} {rows : Row} (G : CodeOk W) (sS : SmallS W) (hr : rows.length ≤ 1000) (h : ∀ s ∈ headsW W, ∃ p o, afterW W s rows = some p ∧ p.2 = o ++ out) :
    Wp (c__law_last_right [.lst (W.map wd), wd rows, .lst (out.map wd)] S) fun d S' => d = .bl true ∧ S' = S := by
  refine w_run ?_
  unfold g__law_last_right
  repeat' (walk_at "wp")
  refine .of (code_ok rfl G) ?_
  repeat' (walk_at "wp")
  refine .of (states_codeW _) ?_
  repeat' (walk_at "wp")
  refine for_by (ordR (headsW W)) wd (fun _ : Unit => [some (.lst (W.map wd)), some (wd rows), some (.lst (out.map wd)), some (codeW W), none, none]) (fun _ => S) (fun _ _ => True) () trivial (fun _ _ _ => gv_lst) ?_ ?_
  · rintro i s - - hs
    have hs2 := mem_ordR.mp (List.mem_of_getElem? hs)
    obtain ⟨p, o, h1, h2⟩ := h s hs2
    repeat' (walk_at "wp")
    refine .of (after_ok G hs2 (by omega)) ?_
    rw [h1]
    repeat' (walk_at "wp")
    refine ⟨_, aft_1 p, ?_⟩
    repeat' (walk_at "wp")
    have hl : p.2.length = o.length + out.length := by rw [h2, List.length_append]
    refine br_no (by rw [List.length_map, List.length_map]; omega) ?_
    repeat' (walk_at "wp")
    refine ⟨_, ne_lists (A := out) (B := []) rfl rfl, ?_⟩
    by_cases he : out = []
    · rw [decide_eq_true he]
      repeat' (walk_at "wp")
      all_goals exact ⟨(), rfl, rfl, trivial⟩
    · rw [decide_eq_false he]
      repeat' (walk_at "wp")
      rw [show ((List.map wd p.2).length : Int) - ((List.map wd out).length : Nat) = ((o.length : Nat) : Int) by rw [List.length_map, List.length_map]; omega, cutL_drop]
      have ed : (List.map wd p.2).drop o.length = out.map wd := by rw [← List.map_drop, h2, List.drop_left']; rfl
      rw [ed]
      refine ⟨_, ne_lists (A := out) (B := out) rfl rfl, ?_⟩
      rw [decide_eq_true rfl]
      repeat' (walk_at "wp")
      all_goals exact ⟨(), rfl, rfl, trivial⟩
  · rintro _ -
    repeat' (walk_at "wp")
    all_goals first | rfl | exact ⟨rfl, rfl⟩
theorem tg_rdr {S : List Ob} {k : Nat} {W l : List Row} {b : Row} (h : S[k]? = some (rdr W l b)) : tgOf S (.ptr k) = some (.o 1) := by simp only [tgOf, h, rdr]
theorem own_rd {S : List Ob} {k j : Nat} {W l1 l2 : List Row} {b1 b2 : Row} {Q : D → List Ob → Prop} (h : S[k]? = some (rdr W l1 b1)) (h2 : S[j]? = some (rdr W l2 b2)) (q : Q (.bl (decide (b1 = b2))) S) :
    tgOf S (.ptr k) = some (.o 1) ∧ (∃ t, tgOf S (.ptr j) = some t ∧ okT t = true) ∧ Wp (Q_1 [.ptr k, .ptr j] S) Q := ⟨tg_rdr h, ⟨_, tg_rdr h2, rfl⟩, .of (eq_reader h h2) q⟩
end
end DL


set_option Elab.async false
set_option linter.all false
set_option maxRecDepth 100000
set_option maxHeartbeats 16000000
/-! K05l: the law. -/
namespace DL
open PySem PySem.Spec PyProof.Rows L2
noncomputable section
local macro_rules | `(tactic| walk_at "wp") => `(tactic| first
  | (with_reducible first | apply w_seq | apply w_sV | apply w_sW | apply w_if | apply w_asg | apply w_ret | apply w_drop | apply w_sNil | apply w_test | apply w_not | apply w_bin | apply w_c0 | apply w_c1 | apply w_cn | apply w_c | apply w_nil | apply w_cons | apply w_few | apply w_tree | apply w_new | apply w_tup | apply w_cb | apply w_call | apply w_isi | apply w_fld | apply w_nopart | apply w_part | apply w_slL | apply w_slS | apply w_dget | apply w_newK | apply w_newT | apply w_app | apply w_lst0 | apply w_prop | apply w_ownE | apply w_ownN | apply w_catN | apply w_get1 | apply w_get2 | apply w_and | apply w_or | apply w_andV | apply w_orV | apply w_notV | apply w_dif | apply w_retN | apply w_par | apply w_gN | apply w_gsNil | apply w_gsCons | apply w_gSetL | apply w_asgG | apply w_sFld | apply w_sDP | apply w_iLst | apply w_iTu | apply w_iSt | apply w_iRg1 | apply w_iRg2 | apply w_for | apply w_lc | apply w_lock | apply w_iDk | apply w_join | apply w_meth | apply nxt_nx | apply nxt_rt)
  | (with_reducible refine w_var (by with_unfolding_all rfl) ?_) | (with_reducible refine w_gTu (by with_unfolding_all rfl) (by with_unfolding_all rfl) ?_) | (with_reducible refine w_aug (by with_unfolding_all rfl) ?_)
  | ((fail_if_success (with_reducible apply wp_id)); first
  | (refine ⟨lenOk (Nat.le_of_ble_eq_true rfl), ?_⟩) | (refine ⟨show _ ≤ 1000000 by omega, ?_⟩) | (refine ⟨(Nat.le_of_ble_eq_true rfl : _ ≤ 1000000), ?_⟩) | (refine ⟨rfl, ?_⟩)
  | (refine br_t ?_) | (refine br_f ?_) | (with_reducible refine br_n ?_) | (refine br_yes (by first | assumption | exact rfl | omega) ?_) | (refine br_no (by first | assumption | omega) ?_)
  | (with_reducible refine ⟨_, eq_int _ _, ?_⟩) | (with_reducible refine ⟨_, ne_int _ _, ?_⟩) | (with_reducible refine ⟨_, eq_wd _ _, ?_⟩) | (with_reducible refine ⟨_, ne_wd _ _, ?_⟩) | (with_reducible refine ⟨_, eq_str _ _, ?_⟩) | (with_reducible refine ⟨_, ne_str _ _, ?_⟩) | (with_reducible refine ⟨_, in_tup _, ?_⟩) | (with_reducible refine ⟨_, in_lst _, ?_⟩) | (with_reducible refine ⟨_, len_lst', ?_⟩) | (with_reducible refine ⟨_, add_wd (by first | omega | (simp; omega)), ?_⟩)
  | (with_reducible refine ⟨_, opMul_ev (.inr (by omega)), ?_⟩) | (with_reducible refine ⟨_, opMul_ev (.inl (by omega)), ?_⟩) | (with_reducible refine ⟨_, opMod_ev (by first | assumption | omega), ?_⟩) | (with_reducible refine ⟨_, opDiv_ev (by first | assumption | omega), ?_⟩)
  | (with_reducible refine ⟨_, add_int _ _, ?_⟩) | (with_reducible refine ⟨_, sub_int _ _, ?_⟩) | (with_reducible refine ⟨_, cmp_int _ _, ?_⟩) | (with_reducible refine ⟨_, lst_lst _, ?_⟩) | (with_reducible refine ⟨_, tup_tup _, ?_⟩) | (with_reducible refine ⟨_, isi_str _, ?_⟩) | (with_reducible refine ⟨_, isi_lst _, ?_⟩) | (with_reducible refine ⟨_, isi_code _, ?_⟩) | (with_reducible refine ⟨_, int_int _, ?_⟩) | (with_reducible refine ⟨_, str_str _, ?_⟩) | (with_reducible refine ⟨_, is_tup _, ?_⟩) | (with_reducible refine ⟨_, is_non, ?_⟩) | (with_reducible refine ⟨_, isn_tup _, ?_⟩) | (with_reducible refine ⟨_, isn_non, ?_⟩) | (with_reducible refine ⟨_, isn_bl _ _, ?_⟩) | (with_reducible refine ⟨_, is_bl _ _, ?_⟩) | (with_reducible refine ⟨_, list_lst _, ?_⟩) | (with_reducible refine ⟨_, fld_waysW _, ?_⟩) | (with_reducible refine ⟨_, fld_headsW _, ?_⟩) | (with_reducible refine ⟨_, fld_rowsW _, ?_⟩) | (with_reducible refine ⟨_, lstOf_end _, ?_⟩) | (with_reducible apply ex_bl) | (with_reducible apply ex_int) | (with_reducible apply ex_str) | (with_reducible apply ex_two) | (with_reducible apply ex_rg) | (with_reducible refine ex_rgi (by with_unfolding_all rfl) ?_))
  | fail)
open Tr
local macro_rules | `(tactic| walk_at "wp") => `(tactic| (with_reducible first | apply w_make | apply w_fldAug))
def g_law (C : Ctx) : DFS := (sSeq (sV [1, 2, 3, 4, 5, 6, 7, 8, 9, 10, 11] (sFor (iRg1 (dCons (dC (.int 5)) dNil)) (gN 1) (sW [1, 2, 3, 4, 5, 6, 7, 8, 9, 10, 11] (sSeq (sAsg 2 (dCall 2 (c__law_purse C) (dCons (dVar 0) (dCons (dVar 1) dNil))))
    (sSeq (sAsg 3 (dCall 2 c__law_full_words (dCons (dVar 2) (dCons (dC (.int 10)) dNil))))
    (sSeq (sPar 4 5 (dCons (dMake 1 2 i_Reader (dCons (dCall 1 c__law_made (dCons (dVar 3) dNil)) dNil)) (dCons (dMake 1 2 i_Reader (dCons (dCall 1 c__law_made (dCons (dVar 3) dNil)) dNil)) dNil)))
    (sSeq (sPar 6 7 (dCons (dC (.str "")) (dCons (dTree (few dNil)) dNil)))
    (sSeq (sIf (dOr (dTest (dOwn 1 Q_1 true (dVar 4) (dVar 5))) (dTest (dBin opNe (dCB fRepr (dCons (dProp 1 P_possible (dVar 4)) dNil)) (dCB fRepr (dCons (dCall 1 c__law_states (dCons (dVar 3) dNil)) dNil))))) (sRet (dC (.bl false))) sNil)
    (sSeq (sIf (dTest (dBin opNe (dProp 1 P_settled (dVar 4)) (dBin opEq (dCB fLen (dCons (dVar 3) dNil)) (dC (.int 2))))) (sRet (dC (.bl false))) sNil)
    (sSeq (sV [8, 9, 10, 11] (sFor (iRg1 (dCons (dC (.int 6)) dNil)) (gN 8) (sW [8, 9, 10, 11] (sSeq (sAsg 9 (dCall 2 c__law_pick (dCons (dVar 2) (dCons (dTree (few (dCons (dCall 2 c__law_bits (dCons (dVar 2) (dCons (dC (.int 9)) dNil))) (dCons (dCall 2 c__law_pick (dCons (dVar 2) (dCons (dVar 3) dNil))) (dCons (dC (.str "")) dNil))))) dNil))))
    (sSeq (sAsg 10 (dMeth 1 2 "read" W_read (dVar 4) (dCons (dVar 9) dNil)))
    (sSeq (sPar 6 7 (dCons (dBin opAdd (dVar 6) (dVar 9)) (dCons (dBin opAdd (dVar 7) (dVar 10)) dNil)))
    (sSeq (sAsgG (dCall 2 c__law_told (dCons (dVar 3) (dCons (dVar 6) dNil))) (gTu 2 (gsCons (gN 11) (gsCons (gN 12) gsNil))))
    (sSeq (sIf (dOr (dNot (dTest (dIsi (isiB "list") (dVar 10)))) (dTest (dBin opNe (dCB fRepr (dCons (dVar 7) dNil)) (dCB fRepr (dCons (dVar 12) dNil))))) (sRet (dC (.bl false))) sNil)
    (sSeq (sIf (dTest (dBin opNe (dCB fRepr (dCons (dProp 1 P_possible (dVar 4)) dNil)) (dCB fRepr (dCons (dVar 11) dNil)))) (sRet (dC (.bl false))) sNil)
    (sSeq (sIf (dTest (dBin opNe (dCB fRepr (dCons (dProp 1 P_settled (dVar 4)) dNil)) (dCB fRepr (dCons (dBin opEq (dCB fLen (dCons (dVar 11) dNil)) (dC (.int 1))) dNil)))) (sRet (dC (.bl false))) sNil)
    (sSeq (sDrop (dApp (dVar 10) (dC (.str "more"))))
    (sSeq (sDrop (dApp (dProp 1 PN_possible (dVar 4)) (dC (.str "more"))))
    (sIf (dTest (dBin opNe (dCB fRepr (dCons (dProp 1 P_possible (dVar 4)) dNil)) (dCB fRepr (dCons (dVar 11) dNil)))) (sRet (dC (.bl false))) sNil)))))))))))))
    (sSeq (sIf (dNot (dTest (dCall 3 c__law_last_right (dCons (dVar 3) (dCons (dVar 6) (dCons (dVar 7) dNil)))))) (sRet (dC (.bl false))) sNil)
    (sSeq (sIf (dOr (dTest (dBin opNe (dCB fRepr (dCons (dProp 1 P_possible (dVar 5)) dNil)) (dCB fRepr (dCons (dCall 1 c__law_states (dCons (dVar 3) dNil)) dNil)))) (dTest (dBin opNe (dOwn 1 Q_1 false (dVar 4) (dVar 5)) (dBin opEq (dVar 6) (dC (.str "")))))) (sRet (dC (.bl false))) sNil)
    (sSeq (sIf (dOr (dTest (dBin opNe (dMeth 1 2 "read" W_read (dVar 5) (dCons (dVar 6) dNil)) (dVar 12))) (dOr (dTest (dOwn 1 Q_1 true (dVar 4) (dVar 5))) (dTest (dBin opIsNot (dOwn 1 Q_1 true (dVar 4) (dVar 5)) (dC (.bl false)))))) (sRet (dC (.bl false))) sNil)
    (sSeq (sDrop (dMeth 1 2 "read" W_read (dVar 5) (dCons (dC (.str "0")) dNil)))
    (sSeq (sIf (dOr (dTest (dOwn 1 Q_1 false (dVar 4) (dVar 5))) (dOr (dTest (dOwn 1 Q_1 false (dVar 4) (dVar 6))) (dTest (dOwn 1 Q_1 false (dVar 4) (dC .non))))) (sRet (dC (.bl false))) sNil)
    (sIf (dAnd (dTest (dOwn 1 Q_1 false (dMake 1 2 i_Reader (dCons (dCall 1 c__law_made (dCons (dBin opAdd (dVar 3) (dTree (few dNil))) dNil)) dNil)) (dVar 4))) (dTest (dBin opNe (dVar 6) (dC (.str ""))))) (sRet (dC (.bl false))) sNil))))))))))))))))
    (sRet (dC (.bl true))))
theorem repr_rowsL {S : List Ob} {d : D} {A : List Row} (h : lstOf S d = some (A.map wd)) (h1 : A.length ≤ 1000) (h2 : ∀ a ∈ A, a.length ≤ 100) : fRepr S [d] = some (.str (rowsP A).shown) :=
  repr_ok (toP_rows (n := 58) h) (nice_rows h2) (by have : A.length * (100 + 2) ≤ 1000 * 102 := Nat.mul_le_mul_right _ h1; omega)
theorem repr_bl {S : List Ob} (b : Bool) : fRepr S [.bl b] = some (.str (PyData.bool b).shown) := repr_ok (p := .bool b) (w := 2) rfl (nice_bool b).1 (by omega)
theorem full_heads : ∀ {t : Tr}, full t → (heads t).length + 1 = size t
  | no, h => h.elim
  | lf, _ => rfl
  | nd a b, ⟨h1, h2⟩ => by
    have := full_heads h1
    have := full_heads h2
    simp only [heads, List.length_cons, List.length_append, List.length_map, size]
    omega
theorem noGap_full {t : Tr} (hf : full t) : NoGap (words t) := fun s hs b e => by
  have hk := Tr.full_ok hf
  have h1 := nextW_some hk ((headsW_words hk s).mp hs) b
  rw [full_step hf ((headsW_words hk s).mp hs) b, e] at h1
  cases h1
/-- the law's state: both readers stand, the purse is there -/
structure St5 (k0 k4 k5 n : Nat) (W : List Row) (rows : Row) (S : List Ob) : Prop where
  p : Pu S k0 n
  a : S[k4]? = some (rdr W (toldW W (ordR (headsW W)) rows).1 rows)
  b : S[k5]? = some (rdr W (ordR (headsW W)) [])
theorem St5.but {k0 k4 k5 n m : Nat} {W : List Row} {rows : Row} {S S' : List Ob} (h : St5 k0 k4 k5 n W rows S) (e : But k0 S S') (p : Pu S' k0 m) (h4 : k4 ≠ k0) (h5 : k5 ≠ k0) : St5 k0 k4 k5 m W rows S' := ⟨p, (e.ne _ h4).trans h.a, (e.ne _ h5).trans h.b⟩
theorem St5.app {k0 k4 k5 n : Nat} {W : List Row} {rows : Row} {S T : List Ob} (h : St5 k0 k4 k5 n W rows S) : St5 k0 k4 k5 n W rows (S ++ T) := by
  have h1 := (List.getElem?_eq_some_iff.mp h.a).1
  have h2 := (List.getElem?_eq_some_iff.mp h.b).1
  exact ⟨h.p.app, by rw [List.getElem?_append_left h1]; exact h.a, by rw [List.getElem?_append_left h2]; exact h.b⟩
theorem St5.read {k0 k4 k5 n : Nat} {W out : List Row} {rows row : Row} {S : List Ob} (h : St5 k0 k4 k5 n W rows S) (h4 : k0 < k4) (h5 : k4 ≠ k5) : St5 k0 k4 k5 n W (rows ++ row) (stR S k4 W (toldW W (toldW W (ordR (headsW W)) rows).1 row).1 (rows ++ row) out) := by
  have h1 := (List.getElem?_eq_some_iff.mp h.a).1
  have h2 := (List.getElem?_eq_some_iff.mp h.b).1
  refine ⟨h.p.app.put h4, ?_, ?_⟩
  · rw [told_app]
    exact stR_k h1
  · unfold stR
    rw [List.getElem?_set_ne h5, List.getElem?_append_left h2]
    exact h.b
theorem St5.set {k0 k4 k5 n j : Nat} {W : List Row} {rows : Row} {S : List Ob} {ob : Ob} (h : St5 k0 k4 k5 n W rows S) (hj : k0 < j) (h4 : k4 ≠ j) (h5 : k5 ≠ j) : St5 k0 k4 k5 n W rows (S.set j ob) :=
  ⟨h.p.put hj, by rw [List.getElem?_set_ne (Ne.symm h4)]; exact h.a, by rw [List.getElem?_set_ne (Ne.symm h5)]; exact h.b⟩
theorem rdr_read {S : List Ob} {k : Nat} {W lot : List Row} {bits : Row} (h : S[k]? = some (rdr W lot bits)) : fldOf S (.ptr k) "read" = none := by
  simp only [fldOf, h, rdr]
  rfl
theorem lstOf_at {S : List Ob} {k : Nat} {l : List D} (h : S[k]? = some (.lst l)) : lstOf S (.ptr k) = some l := by simp only [lstOf, h]
theorem isi_ptr {S : List Ob} {k : Nat} {l : List D} (h : S[k]? = some (.lst l)) : (tgOf S (.ptr k)).bind (isiB "list") = some true := by simp only [tgOf, h]; rfl
theorem add_lists {S : List Ob} {d e : D} {A B : List Row} (hd : lstOf S d = some (A.map wd)) (he : lstOf S e = some (B.map wd)) (hz : A.length + B.length ≤ sizeLine) : opAdd S d e = some (.lst ((A ++ B).map wd)) := by
  have q : (if (A.map wd).length + (B.map wd).length ≤ sizeLine then some (D.lst (A.map wd ++ B.map wd)) else none) = some (.lst ((A ++ B).map wd)) := by
    rw [List.length_map, List.length_map, if_pos hz, List.map_append]
  cases d <;> first | (cases hd; done) | (unfold opAdd; simp only [hd, he]; exact q)
theorem law05 (C : Ctx) : ∃ S', runB 13 (g_law C) [.scr] [] = some (.bl true, S') := by
  have key : Wp (runB 13 (g_law C) [.scr] []) fun d _ => d = .bl true := by
    refine w_run ?_
    unfold g_law
    repeat' (walk_at "wp")
    refine for_by (List.range 5) (fun i : Nat => D.int (i : Nat)) (fun st : List Ob × Option D => [some .scr, none, none, none, none, none, none, none, none, none, none, none, st.2]) (fun st => st.1) (fun _ _ => True) ([], none) trivial (fun _ _ _ => gv_fix) ?_ ?_ rfl rfl
    · rintro i x ⟨S, dd⟩ - hx
      have hx6 : x < 5 := by
        obtain ⟨h1, h2⟩ := List.getElem?_eq_some_iff.mp hx
        rw [List.length_range] at h1
        rw [List.getElem_range] at h2
        omega
      simp only
      repeat' (walk_at "wp")
      refine w_purse (by omega) (by omega) fun S0 P0 => ?_
      repeat' (walk_at "wp")
      refine (full_words_ok (m := 10) P0 (by omega) (by omega) (by omega)).imp ?_
      rintro _ S1 ⟨t, rfl, kf, k2, k3, P1, B1⟩
      have k1 := Tr.full_ok kf
      have kh := Tr.hgt_size kf
      have nt := no_size k2
      have okt := codeOk_tree k1 k2 (by omega) (by omega)
      have ng := noGap_full kf
      have hfew : (heads t).length ≤ 110 := heads_few' (n := 11) (m := 10) k1 k3 (by omega)
      have fh := full_heads kf
      have sS : SmallS (words t) := ⟨⟨by rw [Tr.words_len]; omega, fun w hw => by have := len_hgt hw; omega⟩, Nat.le_trans (heads_few (n := 11) (m := 10) k1 k3 (by omega)) (by decide)⟩
      have hol : (ordR (headsW (words t))).length = (heads t).length := (heads_perm k1).length_eq
      have h0 := nil_head okt.g
      repeat' (walk_at "wp")
      refine .of (code_ok rfl okt) ?_
      repeat' (walk_at "wp")
      refine .of (reader_init kf nt (by omega) end_at) ?_
      rw [end_set]
      repeat' (walk_at "wp")
      refine .of (code_ok rfl okt) ?_
      repeat' (walk_at "wp")
      refine .of (reader_init kf nt (by omega) end_at) ?_
      rw [end_set]
      have q4 : (S1 ++ [rdr (words t) (ordR (headsW (words t))) []] ++ [rdr (words t) (ordR (headsW (words t))) []])[S1.length]? = some (rdr (words t) (ordR (headsW (words t))) []) := by
        rw [List.append_assoc]
        exact end_at
      have q5 : (S1 ++ [rdr (words t) (ordR (headsW (words t))) []] ++ [rdr (words t) (ordR (headsW (words t))) []])[(S1 ++ [rdr (words t) (ordR (headsW (words t))) []]).length]? = some (rdr (words t) (ordR (headsW (words t))) []) := end_at
      have P2 : Pu (S1 ++ [rdr (words t) (ordR (headsW (words t))) []] ++ [rdr (words t) (ordR (headsW (words t))) []]) S.length (0 + 1 + 2 * 10) := P1.app.app
      have hpk := P1.lt
      have k45 : S1.length ≠ (S1 ++ [rdr (words t) (ordR (headsW (words t))) []]).length := by rw [List.length_append]; simp
      have hpk5 : S.length < (S1 ++ [rdr (words t) (ordR (headsW (words t))) []]).length := by rw [List.length_append]; omega
      have hw11 : ∀ s ∈ headsW (words t), s.length ≤ 100 := fun s hs => by
        obtain ⟨w, hw, j, hj, rfl⟩ := mem_headsW.mp hs
        have := len_hgt hw
        rw [List.length_take]
        omega
      have hrh : ∀ {T : List Ob} {d : D} {L : List Row}, lstOf T d = some (L.map wd) → L.length ≤ 110 → (∀ s ∈ L, s ∈ headsW (words t)) → fRepr T [d] = some (.str (rowsP L).shown) := fun h1 h2 h3 => repr_rowsL h1 (by omega) fun s hs => hw11 s (h3 s hs)
      have allh : ∀ s ∈ ordR (headsW (words t)), s ∈ headsW (words t) := fun s hs => mem_ordR.mp hs
      generalize hB : S1 ++ [rdr (words t) (ordR (headsW (words t))) []] ++ [rdr (words t) (ordR (headsW (words t))) []] = B at q4 q5 P2 ⊢
      generalize hk5 : (S1 ++ [rdr (words t) (ordR (headsW (words t))) []]).length = k5 at q5 k45 hpk5 ⊢
      generalize hk4 : S1.length = k4 at q4 k45 hpk ⊢
      repeat' (walk_at "wp")
      refine own_rd q4 q5 ?_
      rw [decide_eq_true rfl]
      repeat' (walk_at "wp")
      refine ⟨tg_rdr q4, ?_⟩
      refine .of (possible_ok q4) ?_
      repeat' (walk_at "wp")
      refine ⟨_, hrh (lst_lst _) (by omega) allh, ?_⟩
      repeat' (walk_at "wp")
      refine .of (cW_ok (P := SmallS) (v := fun W => .lst ((ordR (headsW W)).map wd)) rfl sS) ?_
      repeat' (walk_at "wp")
      refine ⟨_, hrh (lst_lst _) (by omega) allh, ?_⟩
      repeat' (walk_at "wp")
      refine ⟨tg_rdr q4, ?_⟩
      refine .of (settled_ok q4 (by omega)) ?_
      repeat' (walk_at "wp")
      refine ⟨_, ne_bl _ _, ?_⟩
      rw [decide_eq_true (show decide ((ordR (headsW (words t))).length = 1) = decide (((List.map wd (words t)).length : Int) = 2) by
        rw [Bool.eq_iff_iff, decide_eq_true_iff, decide_eq_true_iff, List.length_map, Tr.words_len]; omega)]
      repeat' (walk_at "wp")
      refine for_by (List.range 6) (fun i : Nat => D.int (i : Nat)) (fun st : Row × Option D × List Ob => [some .scr, some (.int (x : Nat)), some (.ptr S.length), some (.lst ((words t).map wd)), some (.ptr k4), some (.ptr k5), some (wd st.1), some (.lst ((toldW (words t) (ordR (headsW (words t))) st.1).2.map wd)), none, none, none, none, st.2.1]) (fun st => st.2.2)
        (fun i st => St5 S.length k4 k5 (100 + 100 * i) (words t) st.1 st.2.2 ∧ st.1.length ≤ 20 * i ∧ (0 < i → st.2.1 = some (.lst ((toldW (words t) (ordR (headsW (words t))) st.1).2.map wd)))) ([], dd, B) ⟨⟨P2.up (by omega), q4, q5⟩, by simp, fun h => absurd h (by omega)⟩ (fun _ _ _ => gv_fix) ?_ ?_ rfl rfl
      · rintro i z ⟨rows, o12, T⟩ ⟨st, hrl, -⟩ hz
        have hi6 : i < 6 := by
          have := (List.getElem?_eq_some_iff.mp hz).1
          rwa [List.length_range] at this
        simp only at st hrl ⊢
        repeat' (walk_at "wp")
        refine (bits_drawn (m := 9) st.p (by omega) (by omega)).imp ?_
        rintro _ T1 ⟨r1, rfl, hr1, Q1, B1⟩
        have st1 := st.but B1 Q1 (by omega) (by omega)
        repeat' (walk_at "wp")
        refine w_pick Q1 (by omega) (by rw [List.length_map, Tr.words_len]; omega) (by rw [List.length_map, Tr.words_len]; omega) fun z1 T2 hz1 Q2 B2 => ?_
        have st2 := st1.but B2 Q2 (by omega) (by omega)
        obtain ⟨w1, hw1, rfl⟩ := List.mem_map.mp hz1
        have hw1l := len_hgt hw1
        repeat' (walk_at "wp")
        refine w_pick Q2 (by omega) (by simp) (by simp) fun z2 T3 hz2 Q3 B3 => ?_
        have st3 := st2.but B3 Q3 (by omega) (by omega)
        obtain ⟨row, rfl, hrow⟩ : ∃ row : Row, z2 = wd row ∧ row.length ≤ 20 := by
          simp only [List.mem_cons, List.not_mem_nil, or_false] at hz2
          rcases hz2 with rfl | rfl | rfl
          · exact ⟨r1, rfl, by omega⟩
          · exact ⟨w1, rfl, by omega⟩
          · exact ⟨[], rfl, by simp⟩
        have tm : ∀ r, ∀ s ∈ (toldW (words t) (ordR (headsW (words t))) r).1, s ∈ headsW (words t) := fun r => told_mem h0 _ _ allh
        have tl : ∀ r, (toldW (words t) (ordR (headsW (words t))) r).1.length ≤ 110 := fun r => Nat.le_trans (told_len (words t) r _) (by omega)
        have tc := told_count (words t) (rows ++ row) (ordR (headsW (words t)))
        have tw := told_words (W := words t) (rows ++ row) (ordR (headsW (words t)))
        have tcr := told_count (words t) row (toldW (words t) (ordR (headsW (words t))) rows).1
        have tcs := told_count (words t) rows (ordR (headsW (words t)))
        rw [List.length_append] at tc
        repeat' (walk_at "wp")
        refine ⟨tg_rdr st3.a, rdr_read st3.a, ?_⟩
        repeat' (walk_at "wp")
        refine (read_run okt ng st3.a (tm rows) (Nat.le_trans (tl rows) (by omega)) (by omega) (by omega)).imp ?_
        rintro _ _ ⟨rfl, rfl⟩
        have st4 := st3.read (row := row) (out := (toldW (words t) (toldW (words t) (ordR (headsW (words t))) rows).1 row).2) hpk k45
        have ht3 := (List.getElem?_eq_some_iff.mp st3.a).1
        have hk5T := (List.getElem?_eq_some_iff.mp st3.b).1
        have hout := stR_out (S := T3) (k := k4) (W := words t) (lot := (toldW (words t) (toldW (words t) (ordR (headsW (words t))) rows).1 row).1) (bits := rows ++ row) (out := (toldW (words t) (toldW (words t) (ordR (headsW (words t))) rows).1 row).2) ht3
        have hlen : (stR T3 k4 (words t) (toldW (words t) (toldW (words t) (ordR (headsW (words t))) rows).1 row).1 (rows ++ row) (toldW (words t) (toldW (words t) (ordR (headsW (words t))) rows).1 row).2).length = T3.length + 1 := by unfold stR; rw [List.length_set, List.length_append]; rfl
        generalize hR : stR T3 k4 (words t) (toldW (words t) (toldW (words t) (ordR (headsW (words t))) rows).1 row).1 (rows ++ row) (toldW (words t) (toldW (words t) (ordR (headsW (words t))) rows).1 row).2 = R at st4 hout hlen ⊢
        have hsl : sizeLine = 16777216 := by decide
        have toldA : (toldW (words t) (ordR (headsW (words t))) (rows ++ row)).2 = (toldW (words t) (ordR (headsW (words t))) rows).2 ++ (toldW (words t) (toldW (words t) (ordR (headsW (words t))) rows).1 row).2 := by rw [told_app]
        repeat' (walk_at "wp")
        refine ⟨_, add_lists (lst_lst _) (lstOf_at hout) (by rw [hsl]; omega), ?_⟩
        rw [← toldA]
        repeat' (walk_at "wp")
        refine .of (told_ok okt sS ng (by rw [List.length_append]; omega)) ?_
        repeat' (walk_at "wp")
        refine ⟨_, isi_ptr hout, ?_⟩
        repeat' (walk_at "wp")
        have hro : ∀ {T : List Ob}, fRepr T [.lst ((toldW (words t) (ordR (headsW (words t))) (rows ++ row)).2.map wd)] = some (.str (rowsP (toldW (words t) (ordR (headsW (words t))) (rows ++ row)).2).shown) := fun {T} => repr_rowsL (lst_lst _) (by omega) fun w hw => by have := len_hgt (tw w hw); omega
        refine ⟨_, hro, ?_⟩
        repeat' (walk_at "wp")
        refine ⟨_, hro, ?_⟩
        repeat' (walk_at "wp")
        refine ⟨tg_rdr st4.a, ?_⟩
        refine .of (possible_ok st4.a) ?_
        repeat' (walk_at "wp")
        refine ⟨_, hrh (lst_lst _) (tl _) (tm _), ?_⟩
        repeat' (walk_at "wp")
        refine ⟨_, hrh (lst_lst _) (tl _) (tm _), ?_⟩
        repeat' (walk_at "wp")
        refine ⟨tg_rdr st4.a, ?_⟩
        refine .of (settled_ok st4.a (Nat.le_trans (tl _) (by omega))) ?_
        repeat' (walk_at "wp")
        refine ⟨_, repr_bl _, ?_⟩
        repeat' (walk_at "wp")
        refine ⟨_, repr_bl _, ?_⟩
        rw [show decide ((List.map wd (toldW (words t) (ordR (headsW (words t))) (rows ++ row)).1).length = (1 : Int)) = decide ((toldW (words t) (ordR (headsW (words t))) (rows ++ row)).1.length = 1) by
          rw [Bool.eq_iff_iff, decide_eq_true_iff, decide_eq_true_iff, List.length_map]; omega]
        repeat' (walk_at "wp")
        refine ⟨_, _, rfl, hout, by rw [hsl, List.length_map]; omega, ⟨_, hout⟩, ?_⟩
        have st5 := st4.set (ob := .lst ((toldW (words t) (toldW (words t) (ordR (headsW (words t))) rows).1 row).2.map wd ++ [D.str "more"])) (j := T3.length) (by omega) (by omega) (by omega)
        repeat' (walk_at "wp")
        refine ⟨tg_rdr st5.a, ?_⟩
        refine .of (possibleN_ok st5.a) ?_
        repeat' (walk_at "wp")
        refine ⟨_, _, rfl, end_at, by rw [hsl, List.length_map]; have := tl (rows ++ row); omega, ⟨_, end_at⟩, ?_⟩
        rw [end_set]
        have st6 := st5.app (T := [.lst ((toldW (words t) (ordR (headsW (words t))) (rows ++ row)).1.map wd ++ [D.str "more"])])
        repeat' (walk_at "wp")
        refine ⟨tg_rdr st6.a, ?_⟩
        refine .of (possible_ok st6.a) ?_
        repeat' (walk_at "wp")
        refine ⟨_, hrh (lst_lst _) (tl _) (tm _), ?_⟩
        repeat' (walk_at "wp")
        refine ⟨_, hrh (lst_lst _) (tl _) (tm _), ?_⟩
        repeat' (walk_at "wp")
        refine ⟨(rows ++ row, some _, _), rfl, rfl, ⟨st6.p.up (by omega), st6.a, st6.b⟩, by simp only [List.length_append]; omega, fun _ => rfl⟩
      · rintro ⟨rows, o12, T⟩ ⟨st, hrl, hd⟩
        simp only [List.length_range] at st hrl hd ⊢
        have hd := hd (by omega)
        subst hd
        have tcs := told_count (words t) rows (ordR (headsW (words t)))
        have tw := told_words (W := words t) rows (ordR (headsW (words t)))
        repeat' (walk_at "wp")
        refine (last_right_ok okt sS (by omega) fun s hs => ?_).imp ?_
        · cases ha : afterW (words t) s rows with
          | none => exact absurd ha (full_after kf h0 rows s hs)
          | some p => exact ⟨p, (told_right rows _ s (mem_ordR.mpr hs) ha).2.choose, rfl, (told_right rows _ s (mem_ordR.mpr hs) ha).2.choose_spec⟩
        rintro _ T2 ⟨rfl, hT2⟩
        rw [hT2]
        repeat' (walk_at "wp")
        refine ⟨tg_rdr st.b, ?_⟩
        refine .of (possible_ok st.b) ?_
        repeat' (walk_at "wp")
        refine ⟨_, hrh (lst_lst _) (by omega) allh, ?_⟩
        repeat' (walk_at "wp")
        refine .of (cW_ok (P := SmallS) (v := fun W => .lst ((ordR (headsW W)).map wd)) rfl sS) ?_
        repeat' (walk_at "wp")
        refine ⟨_, hrh (lst_lst _) (by omega) allh, ?_⟩
        repeat' (walk_at "wp")
        refine own_rd st.a st.b ?_
        repeat' (walk_at "wp")
        refine ⟨_, ne_bl _ _, ?_⟩
        rw [decide_eq_true rfl]
        repeat' (walk_at "wp")
        refine ⟨tg_rdr st.b, rdr_read st.b, ?_⟩
        repeat' (walk_at "wp")
        refine (read_run okt ng st.b allh (by omega) (by omega) (by simp)).imp ?_
        rintro _ _ ⟨rfl, rfl⟩
        have hT5 := (List.getElem?_eq_some_iff.mp st.b).1
        have hT4 := (List.getElem?_eq_some_iff.mp st.a).1
        have c5 := stR_k (S := T) (k := k5) (W := words t) (lot := (toldW (words t) (ordR (headsW (words t))) rows).1) (bits := [] ++ rows) (out := (toldW (words t) (ordR (headsW (words t))) rows).2) hT5
        have co := stR_out (S := T) (k := k5) (W := words t) (lot := (toldW (words t) (ordR (headsW (words t))) rows).1) (bits := [] ++ rows) (out := (toldW (words t) (ordR (headsW (words t))) rows).2) hT5
        have c4 : (stR T k5 (words t) (toldW (words t) (ordR (headsW (words t))) rows).1 ([] ++ rows) (toldW (words t) (ordR (headsW (words t))) rows).2)[k4]? = some (rdr (words t) (toldW (words t) (ordR (headsW (words t))) rows).1 rows) := by
          unfold stR
          rw [List.getElem?_set_ne (Ne.symm k45), List.getElem?_append_left hT4]
          exact st.a
        generalize stR T k5 (words t) (toldW (words t) (ordR (headsW (words t))) rows).1 ([] ++ rows) (toldW (words t) (ordR (headsW (words t))) rows).2 = R at c5 co c4 ⊢
        repeat' (walk_at "wp")
        refine ⟨_, ne_lists (lstOf_at co) (lst_lst _), ?_⟩
        rw [decide_eq_true rfl]
        repeat' (walk_at "wp")
        refine own_rd c4 c5 ?_
        rw [decide_eq_true (show rows = [] ++ rows from rfl)]
        repeat' (walk_at "wp")
        refine own_rd c4 c5 ?_
        rw [decide_eq_true (show rows = [] ++ rows from rfl)]
        repeat' (walk_at "wp")
        refine ⟨tg_rdr c5, rdr_read c5, ?_⟩
        repeat' (walk_at "wp")
        refine (read_run okt ng c5 (told_mem h0 _ _ allh) (Nat.le_trans (told_len (words t) rows _) (by omega)) (by simp) (by rw [List.nil_append]; omega)).imp ?_
        rintro _ _ ⟨rfl, rfl⟩
        have hR5 := (List.getElem?_eq_some_iff.mp c5).1
        have hR4 := (List.getElem?_eq_some_iff.mp c4).1
        have d5 := stR_k (S := R) (k := k5) (W := words t) (lot := (toldW (words t) (toldW (words t) (ordR (headsW (words t))) rows).1 [false]).1) (bits := [] ++ rows ++ [false]) (out := (toldW (words t) (toldW (words t) (ordR (headsW (words t))) rows).1 [false]).2) hR5
        have d4 : (stR R k5 (words t) (toldW (words t) (toldW (words t) (ordR (headsW (words t))) rows).1 [false]).1 ([] ++ rows ++ [false]) (toldW (words t) (toldW (words t) (ordR (headsW (words t))) rows).1 [false]).2)[k4]? = some (rdr (words t) (toldW (words t) (ordR (headsW (words t))) rows).1 rows) := by
          unfold stR
          rw [List.getElem?_set_ne (Ne.symm k45), List.getElem?_append_left hR4]
          exact c4
        generalize stR R k5 (words t) (toldW (words t) (toldW (words t) (ordR (headsW (words t))) rows).1 [false]).1 ([] ++ rows ++ [false]) (toldW (words t) (toldW (words t) (ordR (headsW (words t))) rows).1 [false]).2 = R2 at d5 d4 ⊢
        repeat' (walk_at "wp")
        refine own_rd d4 d5 ?_
        rw [decide_eq_false (show rows ≠ [] ++ rows ++ [false] by simp)]
        repeat' (walk_at "wp")
        refine ⟨tg_rdr d4, ⟨_, rfl, rfl⟩, .of (eq_rd_other rfl) ?_⟩
        repeat' (walk_at "wp")
        refine ⟨tg_rdr d4, ⟨_, rfl, rfl⟩, .of (eq_rd_other rfl) ?_⟩
        repeat' (walk_at "wp")
        have hsl : sizeLine = 16777216 := by decide
        have hadd := add_lists (S := R2) (d := .lst ((words t).map wd)) (e := .lst []) (A := words t) (B := []) rfl rfl (by rw [hsl, Tr.words_len]; simp; omega)
        refine ⟨_, hadd, ?_⟩
        rw [List.append_nil]
        repeat' (walk_at "wp")
        refine .of (code_ok rfl okt) ?_
        repeat' (walk_at "wp")
        refine .of (reader_init kf nt (by omega) end_at) ?_
        rw [end_set]
        have e6 : (R2 ++ [rdr (words t) (ordR (headsW (words t))) []])[R2.length]? = some (rdr (words t) (ordR (headsW (words t))) []) := end_at
        have e4 : (R2 ++ [rdr (words t) (ordR (headsW (words t))) []])[k4]? = some (rdr (words t) (toldW (words t) (ordR (headsW (words t))) rows).1 rows) := by
          rw [List.getElem?_append_left (List.getElem?_eq_some_iff.mp d4).1]
          exact d4
        repeat' (walk_at "wp")
        refine own_rd e6 e4 ?_
        by_cases hnil : rows = []
        · subst hnil
          rw [decide_eq_true rfl]
          repeat' (walk_at "wp")
          all_goals exact ⟨(_, _), rfl, rfl, trivial⟩
        · rw [decide_eq_false (Ne.symm hnil)]
          repeat' (walk_at "wp")
          all_goals exact ⟨(_, _), rfl, rfl, trivial⟩
    · rintro ⟨S, dd⟩ -
      repeat' (walk_at "wp")
      all_goals rfl
  obtain ⟨d, S', e, rfl⟩ := key
  exact ⟨S', e⟩
end
end DL


set_option Elab.async false
set_option linter.all false
set_option maxRecDepth 100000
set_option maxHeartbeats 8000000
/-! The end: the defs where they stand, and what they compute. -/
namespace DL
open PySem PySem.Spec PyProof.Rows L2
noncomputable section
def topS (i : Nat) : Stmt := PySem.Challenge.pw_instepagain_k05_readers.main.body.getD i (.Pass ⟨0, 0, 0, 0⟩)
structure Txt (P : Program) (w : World) (K : PySem.W.Frag) (mg : Str → Option Value) (base : Heap) (C : Ctx) : Prop where
  b : Bt mg
  cl : ClOk K C
  is : IsOk K C
  n_rows : ∀ c, NoAttr K (C.cls c) "rows"
  n_heads : ∀ c, NoAttr K (C.cls c) "heads"
  n_ways : ∀ c, NoAttr K (C.cls c) "ways"
  n_code : ∀ c, NoAttr K (C.cls c) "code"
  n_lot : ∀ c, NoAttr K (C.cls c) "lot"
  n_bits : ∀ c, NoAttr K (C.cls c) "bits"
  c_Code : mg "Code" = some (.ref (C.cls 0))
  c_Reader : mg "Reader" = some (.ref (C.cls 1))
section
variable {P : Program} {w : World} {K : PySem.W.Frag} {mg : Str → Option Value} {base : Heap} {C : Ctx} {f : Addr} {fd : FuncData}
/-! is_row -/
abbrev s_is_row : Stmt := topS 2
theorem sc_is_row : FnScope ["value", "sign"] ["value"] (defScope s_is_row) := ⟨rfl, rfl, rfl, by decide +kernel, rfl, by decide +kernel, by decide +kernel⟩
theorem ok_is_row (F : Fun K "is_row" "is_row" s_is_row f fd) (T : Txt P w K mg base C) : FnOk P w K mg base CX0 1 f fd ["value"] (spD K C 1 (runB 2 (g_is_row))) :=
  fn_ok F sc_is_row fun cdv A outer s H E hr => (db_one (ds_ret (de_and (de_isB "str" T.b T.cl T.is (de_var 0) T.b.str) (de_one (de_eq hr.units (de_tree (dn_lc [("sign", 1)] sc_is_row.nd (di_str (de_var 0)) (fun _ => (dg_name 1 sc_is_row.nd)) (fun _ => (dts_one (dt_notIn (u1 hr) (de_var 1) de_str))) (fun _ => (de_var 1)))) (de_tree (dn_lst da_nil)))))))
/-! in_order -/
abbrev s_in_order : Stmt := topS 3
theorem sc_in_order : FnScope ["rows", "found", "row", "ordered", "length", "one"] ["rows"] (defScope s_in_order) := ⟨rfl, rfl, rfl, by decide +kernel, rfl, by decide +kernel, by decide +kernel⟩
theorem ok_in_order (F : Fun K "in_order" "in_order" s_in_order f fd) (T : Txt P w K mg base C) : FnOk P w K mg base CX0 1 f fd ["rows"] (spD K C 1 (runB 6 (g_in_order))) :=
  fn_ok F sc_in_order fun cdv A outer s H E hr => (db_cons (ds_set 1 sc_in_order.nd de_newK)
    (db_cons (ds_for (di_lst (de_var 0)) (dg_name 2 sc_in_order.nd) (db_one (ds_dput (u1 hr) (de_setd (de_var 1) (de_len T.b (da_cons (de_var 2) da_nil)) de_newK) (de_var 2) de_bl)))
    (db_cons (ds_set 3 sc_in_order.nd (de_new (dn_lst da_nil)))
    (db_cons (ds_for (di_lst (de_tree (dn_sortI T.b (da_cons (de_tree (dn_lock (dVar 1) (dn_lc [("one", 5)] sc_in_order.nd (di_keys (de_var 1)) (fun _ => (dg_name 5 sc_in_order.nd)) (fun _ => dts_nil) (fun _ => (de_intC T.b (da_cons (de_var 5) da_nil)))))) da_nil)))) (dg_name 4 sc_in_order.nd) (db_one (ds_expr (de_extend (de_var 3) (de_tree (dn_sortS T.b hr (da_cons (de_tree (dn_lock (dDGet (dVar 1) (dVar 4)) (dn_lc [("row", 2)] sc_in_order.nd (di_keys (de_dget (u1 hr) (de_var 1) (de_var 4))) (fun _ => (dg_name 2 sc_in_order.nd)) (fun _ => dts_nil) (fun _ => (de_strC T.b (da_cons (de_var 2) da_nil)))))) da_nil)))))))
    (db_one (ds_ret (de_var 3)))))))
/-! beginnings -/
abbrev s_beginnings : Stmt := topS 4
theorem sc_beginnings : FnScope ["row", "length"] ["row"] (defScope s_beginnings) := ⟨rfl, rfl, rfl, by decide +kernel, rfl, by decide +kernel, by decide +kernel⟩
theorem ok_beginnings (F : Fun K "beginnings" "beginnings" s_beginnings f fd) (T : Txt P w K mg base C) : FnOk P w K mg base CX0 1 f fd ["row"] (spD K C 1 (runB 2 (g_beginnings))) :=
  fn_ok F sc_beginnings fun cdv A outer s H E hr => (db_one (ds_ret (de_tree (dn_lc [("length", 1)] sc_beginnings.nd (di_range1 T.b.range (da_cons (de_len T.b (da_cons (de_var 0) da_nil)) da_nil)) (fun _ => (dg_name 1 sc_beginnings.nd)) (fun _ => dts_nil) (fun _ => (de_slice (de_var 0) do_none (do_some (de_var 1))))))))
/-! are_words -/
abbrev s_are_words : Stmt := topS 11
theorem sc_are_words : FnScope ["value", "words", "word", "one"] ["value"] (defScope s_are_words) := ⟨rfl, rfl, rfl, by decide +kernel, rfl, by decide +kernel, by decide +kernel⟩
theorem ok_are_words (F : Fun K "are_words" "are_words" s_are_words f fd) (T : Txt P w K mg base C) (h_beginnings : Fn P w K mg base C 1 "beginnings" 1 c_beginnings) (h_is_row : Fn P w K mg base C 1 "is_row" 1 c_is_row) : FnOk P w K mg base CX0 2 f fd ["value"] (spD K C 1 (runB 4 (g_are_words))) :=
  fn_ok F sc_are_words fun cdv A outer s H E hr => (db_cons (ds_if (DW.dt (dw_or (dt_not (dt_val (de_isB "list" T.b T.cl T.is (de_var 0) T.b.list))) (dw_or1 (dt_lt (de_len T.b (da_cons (de_var 0) da_nil)) de_int)))) (db_one (ds_ret de_bl)) db_nil)
    (db_cons (ds_if (dt_ne hr.units (de_tree (dn_lc [("word", 2)] sc_are_words.nd (di_lst (de_var 0)) (fun _ => (dg_name 2 sc_are_words.nd)) (fun _ => (dts_one (DW.dt (dw_or (dt_not (dt_val (de_call h_is_row (hr.mono (by decide)) (da_cons (de_var 2) da_nil)))) (dw_or1 (dt_eq hr.units (de_var 2) de_str)))))) (fun _ => (de_var 2)))) (de_tree (dn_lst da_nil))) (db_one (ds_ret de_bl)) db_nil)
    (db_cons (ds_set 1 sc_are_words.nd (de_dc [("word", 2)] false sc_are_words.nd (di_lst (de_var 0)) (fun _ => (dg_name 2 sc_are_words.nd)) (fun _ => dts_nil) (fun _ => (de_var 2)) (fun _ => de_bl)))
    (db_cons (ds_if (dt_ne hr.units (de_len T.b (da_cons (de_var 1) da_nil)) (de_len T.b (da_cons (de_var 0) da_nil))) (db_one (ds_ret de_bl)) db_nil)
    (db_one (ds_ret (de_eq hr.units (de_tree (dn_lc2 [("word", 2), ("one", 3)] [3] sc_are_words.nd (di_lst (de_var 0)) (fun _ => (dg_name 2 sc_are_words.nd)) (fun _ => dts_nil) (fun _ => (di_lst (de_call h_beginnings (hr.mono (by decide)) (da_cons (de_var 2) da_nil)))) (fun _ => (dg_name 3 sc_are_words.nd)) (fun _ => (dts_one (dt_in (u1 hr) (de_var 3) (de_var 1)))) (fun _ => (de_var 3)))) (de_tree (dn_lst da_nil)))))))))
/-! Code.__init__ -/
abbrev s_Code_init : Stmt := inClass (topS 12) 0
theorem sc_Code_init : FnScope ["self", "words", "state", "bit", "word", "one"] ["self", "words"] (defScope s_Code_init) := ⟨rfl, rfl, rfl, by decide +kernel, rfl, by decide +kernel, by decide +kernel⟩
theorem ok_Code_init (F : Fun K "__init__" "Code.__init__" s_Code_init f fd) (T : Txt P w K mg base C) (h_are_words : Fn P w K mg base C 2 "are_words" 1 c_are_words) (h_beginnings : Fn P w K mg base C 1 "beginnings" 1 c_beginnings) (h_in_order : Fn P w K mg base C 1 "in_order" 1 c_in_order) : FnOk P w K mg base CX0 3 f fd ["self", "words"] (spD K C 2 (runB 6 (g_Code_init))) :=
  fn_ok F sc_Code_init fun cdv A outer s H E hr => (db_cons (ds_if (dt_not (dt_val (de_call h_are_words (hr.mono (by decide)) (da_cons (de_var 1) da_nil)))) (db_one ds_never) db_nil)
    (db_cons (ds_fld T.cl T.n_rows (de_var 0) (de_tupleC T.b (da_cons (de_call h_in_order (hr.mono (by decide)) (da_cons (de_var 1) da_nil)) da_nil)))
    (db_cons (ds_fld T.cl T.n_heads (de_var 0) (de_tupleC T.b (da_cons (de_call h_in_order (hr.mono (by decide)) (da_cons (de_tree (dn_lc2 [("word", 4), ("one", 5)] [5] sc_Code_init.nd (di_lst (de_var 1)) (fun _ => (dg_name 4 sc_Code_init.nd)) (fun _ => dts_nil) (fun _ => (di_lst (de_call h_beginnings (hr.mono (by decide)) (da_cons (de_var 4) da_nil)))) (fun _ => (dg_name 5 sc_Code_init.nd)) (fun _ => dts_nil) (fun _ => (de_var 5)))) da_nil)) da_nil)))
    (db_cons (ds_fld T.cl T.n_ways (de_var 0) de_newT)
    (db_one (ds_wipe [2, 3] (ds_for (di_tup (de_fld T.cl T.n_heads (de_var 0))) (dg_name 2 sc_Code_init.nd) (db_wipe [2, 3] (db_one (ds_wipe [3] (ds_for (di_str de_str) (dg_name 3 sc_Code_init.nd) (db_wipe [3] (db_one (ds_if (dt_in (u1 hr) (de_add (de_var 2) (de_var 3)) (de_fld T.cl T.n_rows (de_var 0))) (db_one (ds_dput (u1 hr) (de_fld T.cl T.n_ways (de_var 0)) (de_tup (da_cons (de_var 2) (da_cons (de_var 3) da_nil))) de_str)) (db_one (ds_if (dt_in (u1 hr) (de_add (de_var 2) (de_var 3)) (de_fld T.cl T.n_heads (de_var 0))) (db_one (ds_dput (u1 hr) (de_fld T.cl T.n_ways (de_var 0)) (de_tup (da_cons (de_var 2) (da_cons (de_var 3) da_nil))) (de_add (de_var 2) (de_var 3)))) db_nil))))))))))))))))
/-! Code.states -/
abbrev s_Code_states : Stmt := inClass (topS 12) 3
theorem sc_Code_states : FnScope ["self"] ["self"] (defScope s_Code_states) := ⟨rfl, rfl, rfl, by decide +kernel, rfl, by decide +kernel, by decide +kernel⟩
theorem ok_Code_states (F : Fun K "states" "Code.states" s_Code_states f fd) (T : Txt P w K mg base C) : FnOk P w K mg base CX0 1 f fd ["self"] (spD K C 1 (runB 1 (g_Code_states))) :=
  fn_ok F sc_Code_states fun cdv A outer s H E hr => (db_one (ds_ret (de_tree (dn_listC T.b (da_cons (de_fld T.cl T.n_heads (de_var 0)) da_nil)))))
/-! is_full -/
abbrev s_is_full : Stmt := topS 13
theorem sc_is_full : FnScope ["code"] ["code"] (defScope s_is_full) := ⟨rfl, rfl, rfl, by decide +kernel, rfl, by decide +kernel, by decide +kernel⟩
theorem ok_is_full (F : Fun K "is_full" "is_full" s_is_full f fd) (T : Txt P w K mg base C) : FnOk P w K mg base CX0 1 f fd ["code"] (spD K C 1 (runB 1 (g_is_full))) :=
  fn_ok F sc_is_full fun cdv A outer s H E hr => (db_one (ds_ret (de_eq hr.units (de_len T.b (da_cons (de_fld T.cl T.n_ways (de_var 0)) da_nil)) (de_mul de_int (de_len T.b (da_cons (de_fld T.cl T.n_heads (de_var 0)) da_nil))))))
/-! Code.__eq__ -/
abbrev s_Code_eq : Stmt := inClass (topS 12) 4
theorem sc_Code_eq : FnScope ["self", "other"] ["self", "other"] (defScope s_Code_eq) := ⟨rfl, rfl, rfl, by decide +kernel, rfl, by decide +kernel, by decide +kernel⟩
theorem ok_Code_eq (F : Fun K "__eq__" "Code.__eq__" s_Code_eq f fd) (T : Txt P w K mg base C) : FnOk P w K mg base CX0 1 f fd ["self", "other"] (spD K C 2 (runB 2 (g_Code_eq))) :=
  fn_ok F sc_Code_eq fun cdv A outer s H E hr => (db_one (ds_ret (de_and (de_isO 0 T.b T.cl T.is (de_var 1) T.c_Code) (de_one (de_eq hr.units (de_fld T.cl T.n_rows (de_var 0)) (de_fld T.cl T.n_rows (de_var 1)))))))
/-! gone -/
abbrev s_gone : Stmt := topS 14
theorem sc_gone : FnScope ["code", "state", "row", "words", "bit", "there"] ["code", "state", "row"] (defScope s_gone) := ⟨rfl, rfl, rfl, by decide +kernel, rfl, by decide +kernel, by decide +kernel⟩
theorem ok_gone (F : Fun K "gone" "gone" s_gone f fd) (T : Txt P w K mg base C) : FnOk P w K mg base CX0 1 f fd ["code", "state", "row"] (spD K C 3 (runB 6 (g_gone))) :=
  fn_ok F sc_gone fun cdv A outer s H E hr => (db_cons (ds_set 3 sc_gone.nd (de_new (dn_lst da_nil)))
    (db_cons (ds_wipe [4, 5] (ds_for (di_str (de_var 2)) (dg_name 4 sc_gone.nd) (db_wipe [4, 5] (db_cons (ds_if (dt_notIn (u1 hr) (de_tup (da_cons (de_var 1) (da_cons (de_var 4) da_nil))) (de_fld T.cl T.n_ways (de_var 0))) (db_one (ds_ret de_non)) db_nil)
    (db_cons (ds_set 5 sc_gone.nd (de_dget (u1 hr) (de_fld T.cl T.n_ways (de_var 0)) (de_tup (da_cons (de_var 1) (da_cons (de_var 4) da_nil)))))
    (db_cons (ds_if (dt_eq hr.units (de_var 5) de_str) (db_one (ds_expr (de_append (de_var 3) (de_add (de_var 1) (de_var 4))))) db_nil)
    (db_one (ds_set 1 sc_gone.nd (de_var 5)))))))))
    (db_one (ds_ret (de_tup (da_cons (de_var 1) (da_cons (de_var 3) da_nil)))))))
/-! step_of -/
abbrev s_step_of : Stmt := topS 15
theorem sc_step_of : FnScope ["code", "state", "bit"] ["code", "state", "bit"] (defScope s_step_of) := ⟨rfl, rfl, rfl, by decide +kernel, rfl, by decide +kernel, by decide +kernel⟩
theorem ok_step_of (F : Fun K "step_of" "step_of" s_step_of f fd) (T : Txt P w K mg base C) : FnOk P w K mg base CX0 1 f fd ["code", "state", "bit"] (spD K C 3 (runB 3 (g_step_of))) :=
  fn_ok F sc_step_of fun cdv A outer s H E hr => (db_one (ds_ret (de_get1 (u1 hr) (de_fld T.cl T.n_ways (de_var 0)) (de_tup (da_cons (de_var 1) (da_cons (de_var 2) da_nil))))))
/-! check_full -/
abbrev s_check_full : Stmt := topS 16
theorem sc_check_full : FnScope ["value"] ["value"] (defScope s_check_full) := ⟨rfl, rfl, rfl, by decide +kernel, rfl, by decide +kernel, by decide +kernel⟩
theorem ok_check_full (F : Fun K "check_full" "check_full" s_check_full f fd) (T : Txt P w K mg base C) (h_is_full : Fn P w K mg base C 1 "is_full" 1 c_is_full) : FnOk P w K mg base CX0 2 f fd ["value"] (spD K C 1 (runB 1 (g_check_full))) :=
  fn_ok F sc_check_full fun cdv A outer s H E hr => (db_one (ds_if (DW.dt (dw_or (dt_not (dt_val (de_isO 0 T.b T.cl T.is (de_var 0) T.c_Code))) (dw_or1 (dt_not (dt_val (de_call h_is_full (hr.mono (by decide)) (da_cons (de_var 0) da_nil))))))) (db_one ds_never) db_nil))
/-! check_state -/
abbrev s_check_state : Stmt := topS 17
theorem sc_check_state : FnScope ["code", "value"] ["code", "value"] (defScope s_check_state) := ⟨rfl, rfl, rfl, by decide +kernel, rfl, by decide +kernel, by decide +kernel⟩
theorem ok_check_state (F : Fun K "check_state" "check_state" s_check_state f fd) (T : Txt P w K mg base C) : FnOk P w K mg base CX0 1 f fd ["code", "value"] (spD K C 2 (runB 2 (g_check_state))) :=
  fn_ok F sc_check_state fun cdv A outer s H E hr => (db_one (ds_if (DW.dt (dw_or (dt_not (dt_val (de_isB "str" T.b T.cl T.is (de_var 1) T.b.str))) (dw_or1 (dt_notIn (u1 hr) (de_var 1) (de_fld T.cl T.n_heads (de_var 0)))))) (db_one ds_never) db_nil))
/-! check_row -/
abbrev s_check_row : Stmt := topS 18
theorem sc_check_row : FnScope ["value"] ["value"] (defScope s_check_row) := ⟨rfl, rfl, rfl, by decide +kernel, rfl, by decide +kernel, by decide +kernel⟩
theorem ok_check_row (F : Fun K "check_row" "check_row" s_check_row f fd) (T : Txt P w K mg base C) (h_is_row : Fn P w K mg base C 1 "is_row" 1 c_is_row) : FnOk P w K mg base CX0 2 f fd ["value"] (spD K C 1 (runB 1 (g_check_row))) :=
  fn_ok F sc_check_row fun cdv A outer s H E hr => (db_one (ds_if (dt_not (dt_val (de_call h_is_row (hr.mono (by decide)) (da_cons (de_var 0) da_nil)))) (db_one ds_never) db_nil))
/-! Code.after -/
abbrev s_Code_after : Stmt := inClass (topS 12) 5
theorem sc_Code_after : FnScope ["self", "state", "row"] ["self", "state", "row"] (defScope s_Code_after) := ⟨rfl, rfl, rfl, by decide +kernel, rfl, by decide +kernel, by decide +kernel⟩
theorem ok_Code_after (F : Fun K "after" "Code.after" s_Code_after f fd) (T : Txt P w K mg base C) (h_check_row : Fn P w K mg base C 2 "check_row" 1 c_check_row) (h_check_state : Fn P w K mg base C 1 "check_state" 2 c_check_state) (h_gone : Fn P w K mg base C 1 "gone" 3 c_gone) : FnOk P w K mg base CX0 3 f fd ["self", "state", "row"] (spD K C 3 (runB 3 (g_Code_after))) :=
  fn_ok F sc_Code_after fun cdv A outer s H E hr => (db_cons (ds_expr (de_call h_check_state (hr.mono (by decide)) (da_cons (de_var 0) (da_cons (de_var 1) da_nil))))
    (db_cons (ds_expr (de_call h_check_row (hr.mono (by decide)) (da_cons (de_var 2) da_nil)))
    (db_one (ds_ret (de_call h_gone (hr.mono (by decide)) (da_cons (de_var 0) (da_cons (de_var 1) (da_cons (de_var 2) da_nil))))))))
/-! Reader.__init__ -/
abbrev s_Reader_init : Stmt := inClass (topS 20) 0
theorem sc_Reader_init : FnScope ["self", "code"] ["self", "code"] (defScope s_Reader_init) := ⟨rfl, rfl, rfl, by decide +kernel, rfl, by decide +kernel, by decide +kernel⟩
theorem ok_Reader_init (F : Fun K "__init__" "Reader.__init__" s_Reader_init f fd) (T : Txt P w K mg base C) (h_check_full : Fn P w K mg base C 2 "check_full" 1 c_check_full) : FnOk P w K mg base CX0 3 f fd ["self", "code"] (spD K C 2 (runB 2 (g_Reader_init))) :=
  fn_ok F sc_Reader_init fun cdv A outer s H E hr => (db_cons (ds_expr (de_call h_check_full (hr.mono (by decide)) (da_cons (de_var 1) da_nil)))
    (db_cons (ds_fld T.cl T.n_code (de_var 0) (de_var 1))
    (db_cons (ds_fld T.cl T.n_lot (de_var 0) (de_fld T.cl T.n_heads (de_var 1)))
    (db_one (ds_fld T.cl T.n_bits (de_var 0) de_str)))))
/-! Reader.possible -/
abbrev s_Reader_possible : Stmt := inClass (topS 20) 1
theorem sc_Reader_possible : FnScope ["self"] ["self"] (defScope s_Reader_possible) := ⟨rfl, rfl, rfl, by decide +kernel, rfl, by decide +kernel, by decide +kernel⟩
theorem ok_Reader_possible (F : Fun K "possible" "Reader.possible" s_Reader_possible f fd) (T : Txt P w K mg base C) : FnOk P w K mg base CX0 1 f fd ["self"] (spD K C 1 (runB 1 (g_Reader_possible))) :=
  fn_ok F sc_Reader_possible fun cdv A outer s H E hr => (db_one (ds_ret (de_tree (dn_listC T.b (da_cons (de_fld T.cl T.n_lot (de_var 0)) da_nil)))))
/-! Reader.possible -/
abbrev s_Reader_possibleN : Stmt := inClass (topS 20) 1
theorem sc_Reader_possibleN : FnScope ["self"] ["self"] (defScope s_Reader_possibleN) := ⟨rfl, rfl, rfl, by decide +kernel, rfl, by decide +kernel, by decide +kernel⟩
theorem ok_Reader_possibleN (F : Fun K "possible" "Reader.possible" s_Reader_possibleN f fd) (T : Txt P w K mg base C) : FnOk P w K mg base CX0 1 f fd ["self"] (spD K C 1 (runB 1 (g_Reader_possibleN))) :=
  fn_ok F sc_Reader_possibleN fun cdv A outer s H E hr => (db_one (ds_ret (de_new (dn_listC T.b (da_cons (de_fld T.cl T.n_lot (de_var 0)) da_nil)))))
/-! Reader.settled -/
abbrev s_Reader_settled : Stmt := inClass (topS 20) 2
theorem sc_Reader_settled : FnScope ["self"] ["self"] (defScope s_Reader_settled) := ⟨rfl, rfl, rfl, by decide +kernel, rfl, by decide +kernel, by decide +kernel⟩
theorem ok_Reader_settled (F : Fun K "settled" "Reader.settled" s_Reader_settled f fd) (T : Txt P w K mg base C) : FnOk P w K mg base CX0 1 f fd ["self"] (spD K C 1 (runB 1 (g_Reader_settled))) :=
  fn_ok F sc_Reader_settled fun cdv A outer s H E hr => (db_one (ds_ret (de_eq hr.units (de_len T.b (da_cons (de_fld T.cl T.n_lot (de_var 0)) da_nil)) de_int)))
/-! Reader.__eq__ -/
abbrev s_Reader_eq : Stmt := inClass (topS 20) 3
theorem sc_Reader_eq : FnScope ["self", "other"] ["self", "other"] (defScope s_Reader_eq) := ⟨rfl, rfl, rfl, by decide +kernel, rfl, by decide +kernel, by decide +kernel⟩
theorem ok_Reader_eq (F : Fun K "__eq__" "Reader.__eq__" s_Reader_eq f fd) (T : Txt P w K mg base C) (he_0 : EqFn P w K mg base C 1 0 Q_0) : FnOk P w K mg base CX0 2 f fd ["self", "other"] (spD K C 2 (runB 2 (g_Reader_eq))) :=
  fn_ok F sc_Reader_eq fun cdv A outer s H E hr => (db_one (ds_ret (de_and (de_isO 1 T.b T.cl T.is (de_var 1) T.c_Reader) (de_and (de_ownEq T.cl he_0 (hr.mono (by decide)) (de_fld T.cl T.n_code (de_var 0)) (de_fld T.cl T.n_code (de_var 1))) (de_one (de_eq hr.units (de_fld T.cl T.n_bits (de_var 0)) (de_fld T.cl T.n_bits (de_var 1))))))))
/-! Reader.read -/
abbrev s_Reader_read : Stmt := inClass (topS 20) 4
theorem sc_Reader_read : FnScope ["self", "row", "words", "bit", "state"] ["self", "row"] (defScope s_Reader_read) := ⟨rfl, rfl, rfl, by decide +kernel, rfl, by decide +kernel, by decide +kernel⟩
theorem ok_Reader_read (F : Fun K "read" "Reader.read" s_Reader_read f fd) (T : Txt P w K mg base C) (h_check_row : Fn P w K mg base C 2 "check_row" 1 c_check_row) (h_in_order : Fn P w K mg base C 1 "in_order" 1 c_in_order) (h_step_of : Fn P w K mg base C 1 "step_of" 3 c_step_of) : FnOk P w K mg base CX0 3 f fd ["self", "row"] (spD K C 2 (runB 5 (g_Reader_read))) :=
  fn_ok F sc_Reader_read fun cdv A outer s H E hr => (db_cons (ds_expr (de_call h_check_row (hr.mono (by decide)) (da_cons (de_var 1) da_nil)))
    (db_cons (ds_set 2 sc_Reader_read.nd (de_new (dn_lst da_nil)))
    (db_cons (ds_wipe [3] (ds_for (di_str (de_var 1)) (dg_name 3 sc_Reader_read.nd) (db_wipe [3] (db_cons (ds_if (DW.dt (dw_and (dt_eq hr.units (de_len T.b (da_cons (de_fld T.cl T.n_lot (de_var 0)) da_nil)) de_int) (dw_and1 (dt_eq hr.units (de_call h_step_of (hr.mono (by decide)) (da_cons (de_fld T.cl T.n_code (de_var 0)) (da_cons (de_ix (de_fld T.cl T.n_lot (de_var 0)) de_int) (da_cons (de_var 3) da_nil)))) de_str)))) (db_one (ds_expr (de_append (de_var 2) (de_add (de_ix (de_fld T.cl T.n_lot (de_var 0)) de_int) (de_var 3))))) db_nil)
    (db_one (ds_fld T.cl T.n_lot (de_var 0) (de_tupleC T.b (da_cons (de_call h_in_order (hr.mono (by decide)) (da_cons (de_tree (dn_lc [("state", 4)] sc_Reader_read.nd (di_tup (de_fld T.cl T.n_lot (de_var 0))) (fun _ => (dg_name 4 sc_Reader_read.nd)) (fun _ => dts_nil) (fun _ => (de_call h_step_of (hr.mono (by decide)) (da_cons (de_fld T.cl T.n_code (de_var 0)) (da_cons (de_var 4) (da_cons (de_var 3) da_nil))))))) da_nil)) da_nil))))))))
    (db_cons (ds_fldAug T.cl T.n_bits (de_var 0) (de_var 1))
    (db_one (ds_ret (de_var 2)))))))
/-! _law_purse -/
abbrev s__law_purse : Stmt := topS 22
theorem sc__law_purse : FnScope ["_law_script", "_law_at", "_law_cell"] ["_law_script", "_law_at"] (defScope s__law_purse) := ⟨rfl, rfl, rfl, by decide +kernel, rfl, by decide +kernel, by decide +kernel⟩
theorem ok__law_purse (F : Fun K "_law_purse" "_law_purse" s__law_purse f fd) (T : Txt P w K mg base C) : FnOk P w K mg base CX0 1 f fd ["_law_script", "_law_at"] (spD K C 2 (runB 3 (g__law_purse C))) :=
  fn_ok F sc__law_purse fun cdv A outer s H E hr => (db_cons (ds_set 2 sc__law_purse.nd de_int)
    (db_cons (ds_if (dt_lt (de_var 1) (de_lenScr (i := 0) T.b.len)) (db_one (ds_set 2 sc__law_purse.nd (de_scr (i := 0) (de_var 1)))) db_nil)
    (db_one (ds_ret (de_new (dn_lst (da_cons (de_mod (de_intC T.b (da_cons (de_max2 T.b (da_cons (de_sub (de_var 2) (de_pow de_int de_int)) (da_cons de_int da_nil))) da_nil)) (de_pow (de_pow de_int de_int) de_int)) (da_cons (de_mod (de_intC T.b (da_cons (de_add (de_var 2) (de_mul de_int (de_var 1))) da_nil)) de_int) (da_cons de_int da_nil)))))))))
/-! _law_draw -/
abbrev s__law_draw : Stmt := topS 23
theorem sc__law_draw : FnScope ["_law_purse_here", "_law_many", "_law_drawn", "_law_turn", "_law_number"] ["_law_purse_here", "_law_many"] (defScope s__law_draw) := ⟨rfl, rfl, rfl, by decide +kernel, rfl, by decide +kernel, by decide +kernel⟩
theorem ok__law_draw (F : Fun K "_law_draw" "_law_draw" s__law_draw f fd) (T : Txt P w K mg base C) : FnOk P w K mg base CX0 1 f fd ["_law_purse_here", "_law_many"] (spD K C 2 (runB 5 (g__law_draw))) :=
  fn_ok F sc__law_draw fun cdv A outer s H E hr => (db_cons (ds_if (dt_gt (de_ix (de_var 0) de_int) de_int) (db_cons (ds_set 2 sc__law_draw.nd (de_mod (de_intC T.b (da_cons (de_ix (de_var 0) de_int) da_nil)) (de_var 1)))
    (db_cons (ds_asg (de_div (de_ix (de_var 0) de_int) (de_var 1)) (dg_setL (de_var 0) de_int))
    (db_one (ds_ret (de_var 2))))) db_nil)
    (db_cons (ds_set 3 sc__law_draw.nd (de_add (de_ix (de_var 0) de_int) de_int))
    (db_cons (ds_asg (de_var 3) (dg_setL (de_var 0) de_int))
    (db_cons (ds_set 4 sc__law_draw.nd (de_mod (de_intC T.b (da_cons (de_mul (de_add (de_ix (de_var 0) de_int) (de_mul de_int (de_var 3))) (de_add (de_mul (de_var 3) (de_var 3)) de_int)) da_nil)) de_int))
    (db_cons (ds_set 4 sc__law_draw.nd (de_mod (de_intC T.b (da_cons (de_add (de_mul (de_var 4) (de_var 4)) (de_var 3)) da_nil)) de_int))
    (db_one (ds_ret (de_mod (de_div (de_mod (de_intC T.b (da_cons (de_mul (de_var 4) de_int) da_nil)) de_int) de_int) (de_var 1)))))))))
/-! _law_pick -/
abbrev s__law_pick : Stmt := topS 24
theorem sc__law_pick : FnScope ["_law_purse_here", "_law_items"] ["_law_purse_here", "_law_items"] (defScope s__law_pick) := ⟨rfl, rfl, rfl, by decide +kernel, rfl, by decide +kernel, by decide +kernel⟩
theorem ok__law_pick (F : Fun K "_law_pick" "_law_pick" s__law_pick f fd) (T : Txt P w K mg base C) (h__law_draw : Fn P w K mg base C 1 "_law_draw" 2 c__law_draw) : FnOk P w K mg base CX0 2 f fd ["_law_purse_here", "_law_items"] (spD K C 2 (runB 2 (g__law_pick))) :=
  fn_ok F sc__law_pick fun cdv A outer s H E hr => (db_one (ds_ret (de_ix (de_var 1) (de_call h__law_draw (hr.mono (by decide)) (da_cons (de_var 0) (da_cons (de_len T.b (da_cons (de_var 1) da_nil)) da_nil))))))
/-! _law_full_words -/
abbrev s__law_full_words : Stmt := topS 25
theorem sc__law_full_words : FnScope ["_law_purse_here", "_law_most", "_law_words", "_law_turn", "_law_at"] ["_law_purse_here", "_law_most"] (defScope s__law_full_words) := ⟨rfl, rfl, rfl, by decide +kernel, rfl, by decide +kernel, by decide +kernel⟩
theorem ok__law_full_words (F : Fun K "_law_full_words" "_law_full_words" s__law_full_words f fd) (T : Txt P w K mg base C) (h__law_draw : Fn P w K mg base C 1 "_law_draw" 2 c__law_draw) : FnOk P w K mg base CX0 2 f fd ["_law_purse_here", "_law_most"] (spD K C 2 (runB 5 (g__law_full_words))) :=
  fn_ok F sc__law_full_words fun cdv A outer s H E hr => (db_cons (ds_set 2 sc__law_full_words.nd (de_tree (dn_lst (da_cons de_str (da_cons de_str da_nil)))))
    (db_cons (ds_wipe [3, 4] (ds_for (di_range1 T.b.range (da_cons (de_call h__law_draw (hr.mono (by decide)) (da_cons (de_var 0) (da_cons (de_var 1) da_nil))) da_nil)) (dg_name 3 sc__law_full_words.nd) (db_wipe [3, 4] (db_cons (ds_set 4 sc__law_full_words.nd (de_call h__law_draw (hr.mono (by decide)) (da_cons (de_var 0) (da_cons (de_len T.b (da_cons (de_var 2) da_nil)) da_nil))))
    (db_cons (ds_if (dt_eq hr.units (de_call h__law_draw (hr.mono (by decide)) (da_cons (de_var 0) (da_cons de_int da_nil))) de_int) (db_one (ds_set 4 sc__law_full_words.nd (de_sub (de_len T.b (da_cons (de_var 2) da_nil)) de_int))) db_nil)
    (db_one (ds_set 2 sc__law_full_words.nd (de_add (de_add (de_tree (dn_slice (de_var 2) do_none (do_some (de_var 4)))) (de_tree (dn_lst (da_cons (de_add (de_ix (de_var 2) (de_var 4)) de_str) (da_cons (de_add (de_ix (de_var 2) (de_var 4)) de_str) da_nil))))) (de_tree (dn_slice (de_var 2) (do_some (de_add (de_var 4) de_int)) do_none))))))))))
    (db_one (ds_ret (de_var 2)))))
/-! _law_made -/
abbrev s__law_made : Stmt := topS 26
theorem sc__law_made : FnScope ["_law_words", "_law_given", "_law_made_here"] ["_law_words"] (defScope s__law_made) := ⟨rfl, rfl, rfl, by decide +kernel, rfl, by decide +kernel, by decide +kernel⟩
theorem ok__law_made (F : Fun K "_law_made" "_law_made" s__law_made f fd) (T : Txt P w K mg base C) (h_Code : ClsFn P w K mg base C 3 "Code" 0 2 i_Code) : FnOk P w K mg base CX0 5 f fd ["_law_words"] (spD K C 1 (runB 3 (g__law_made))) :=
  fn_ok F sc__law_made fun cdv A outer s H E hr => (db_cons (ds_set 1 sc__law_made.nd (de_new (dn_listC T.b (da_cons (de_var 0) da_nil))))
    (db_cons (ds_set 2 sc__law_made.nd (de_makeF M_Code h_Code mk_Code (hr.mono (by decide)) (da_cons (de_var 1) da_nil)))
    (db_cons (ds_expr (de_clear (de_var 1)))
    (db_one (ds_ret (de_var 2))))))
/-! _law_bits -/
abbrev s__law_bits : Stmt := topS 27
theorem sc__law_bits : FnScope ["_law_purse_here", "_law_most", "_law_at"] ["_law_purse_here", "_law_most"] (defScope s__law_bits) := ⟨rfl, rfl, rfl, by decide +kernel, rfl, by decide +kernel, by decide +kernel⟩
theorem ok__law_bits (F : Fun K "_law_bits" "_law_bits" s__law_bits f fd) (T : Txt P w K mg base C) (h__law_draw : Fn P w K mg base C 1 "_law_draw" 2 c__law_draw) (h__law_pick : Fn P w K mg base C 2 "_law_pick" 2 c__law_pick) : FnOk P w K mg base CX0 3 f fd ["_law_purse_here", "_law_most"] (spD K C 2 (runB 3 (g__law_bits))) :=
  fn_ok F sc__law_bits fun cdv A outer s H E hr => (db_one (ds_ret (de_join de_str (de_tree (dn_lc [("_law_at", 2)] sc__law_bits.nd (di_range1 T.b.range (da_cons (de_call h__law_draw (hr.mono (by decide)) (da_cons (de_var 0) (da_cons (de_add (de_var 1) de_int) da_nil))) da_nil)) (fun _ => (dg_name 2 sc__law_bits.nd)) (fun _ => dts_nil) (fun _ => (de_call h__law_pick (hr.mono (by decide)) (da_cons (de_var 0) (da_cons (de_tree (dn_lst (da_cons de_str (da_cons de_str da_nil)))) da_nil)))))))))
/-! _law_in_order -/
abbrev s__law_in_order : Stmt := topS 28
theorem sc__law_in_order : FnScope ["_law_rows", "_law_found", "_law_length", "_law_row"] ["_law_rows"] (defScope s__law_in_order) := ⟨rfl, rfl, rfl, by decide +kernel, rfl, by decide +kernel, by decide +kernel⟩
theorem ok__law_in_order (F : Fun K "_law_in_order" "_law_in_order" s__law_in_order f fd) (T : Txt P w K mg base C) : FnOk P w K mg base CX0 1 f fd ["_law_rows"] (spD K C 1 (runB 4 (g__law_in_order))) :=
  fn_ok F sc__law_in_order fun cdv A outer s H E hr => (db_cons (ds_set 1 sc__law_in_order.nd (de_tree (dn_lst da_nil)))
    (db_cons (ds_wipe [2] (ds_for (di_range1 T.b.range (da_cons (de_add (de_max T.b (da_cons (de_add (de_tree (dn_lst (da_cons de_int da_nil))) (de_tree (dn_lc [("_law_row", 3)] sc__law_in_order.nd (di_lst (de_var 0)) (fun _ => (dg_name 3 sc__law_in_order.nd)) (fun _ => dts_nil) (fun _ => (de_len T.b (da_cons (de_var 3) da_nil)))))) da_nil)) de_int) da_nil)) (dg_name 2 sc__law_in_order.nd) (db_wipe [2] (db_one (ds_set 1 sc__law_in_order.nd (de_add (de_var 1) (de_tree (dn_sortS T.b hr (da_cons (de_tree (dn_lc [("_law_row", 3)] sc__law_in_order.nd (di_lst (de_var 0)) (fun _ => (dg_name 3 sc__law_in_order.nd)) (fun _ => (dts_one (dt_eq hr.units (de_len T.b (da_cons (de_var 3) da_nil)) (de_var 2)))) (fun _ => (de_strC T.b (da_cons (de_var 3) da_nil))))) da_nil)))))))))
    (db_one (ds_ret (de_var 1)))))
/-! _law_states -/
abbrev s__law_states : Stmt := topS 29
theorem sc__law_states : FnScope ["_law_words", "_law_found", "_law_word", "_law_length", "_law_state"] ["_law_words"] (defScope s__law_states) := ⟨rfl, rfl, rfl, by decide +kernel, rfl, by decide +kernel, by decide +kernel⟩
theorem ok__law_states (F : Fun K "_law_states" "_law_states" s__law_states f fd) (T : Txt P w K mg base C) (h__law_in_order : Fn P w K mg base C 1 "_law_in_order" 1 c__law_in_order) : FnOk P w K mg base CX0 2 f fd ["_law_words"] (spD K C 1 (runB 5 (g__law_states))) :=
  fn_ok F sc__law_states fun cdv A outer s H E hr => (db_cons (ds_set 1 sc__law_states.nd de_newK)
    (db_cons (ds_wipe [2, 3] (ds_for (di_lst (de_var 0)) (dg_name 2 sc__law_states.nd) (db_wipe [2, 3] (db_one (ds_wipe [3] (ds_for (di_range1 T.b.range (da_cons (de_len T.b (da_cons (de_var 2) da_nil)) da_nil)) (dg_name 3 sc__law_states.nd) (db_wipe [3] (db_one (ds_dput (u1 hr) (de_var 1) (de_slice (de_var 2) do_none (do_some (de_var 3))) de_bl)))))))))
    (db_one (ds_ret (de_call h__law_in_order (hr.mono (by decide)) (da_cons (de_tree (dn_lock (dVar 1) (dn_lc [("_law_state", 4)] sc__law_states.nd (di_keys (de_var 1)) (fun _ => (dg_name 4 sc__law_states.nd)) (fun _ => dts_nil) (fun _ => (de_var 4))))) da_nil))))))
/-! _law_after -/
abbrev s__law_after : Stmt := topS 30
theorem sc__law_after : FnScope ["_law_words", "_law_state", "_law_row", "_law_states_here", "_law_out", "_law_bit"] ["_law_words", "_law_state", "_law_row"] (defScope s__law_after) := ⟨rfl, rfl, rfl, by decide +kernel, rfl, by decide +kernel, by decide +kernel⟩
theorem ok__law_after (F : Fun K "_law_after" "_law_after" s__law_after f fd) (T : Txt P w K mg base C) (h__law_states : Fn P w K mg base C 2 "_law_states" 1 c__law_states) : FnOk P w K mg base CX0 3 f fd ["_law_words", "_law_state", "_law_row"] (spD K C 3 (runB 6 (g__law_after))) :=
  fn_ok F sc__law_after fun cdv A outer s H E hr => (db_cons (ds_par 3 4 sc__law_after.nd (da_cons (de_call h__law_states (hr.mono (by decide)) (da_cons (de_var 0) da_nil)) (da_cons (de_new (dn_lst da_nil)) da_nil)))
    (db_cons (ds_wipe [5] (ds_for (di_str (de_var 2)) (dg_name 5 sc__law_after.nd) (db_wipe [5] (db_cons (ds_set 1 sc__law_after.nd (de_add (de_var 1) (de_var 5)))
    (db_one (ds_if (dt_in (u1 hr) (de_var 1) (de_var 0)) (db_cons (ds_expr (de_append (de_var 4) (de_var 1)))
    (db_one (ds_set 1 sc__law_after.nd de_str))) (db_one (ds_if (dt_notIn (u1 hr) (de_var 1) (de_var 3)) (db_one (ds_ret de_non)) db_nil))))))))
    (db_one (ds_ret (de_tup (da_cons (de_var 1) (da_cons (de_var 4) da_nil)))))))
/-! _law_told -/
abbrev s__law_told : Stmt := topS 31
theorem sc__law_told : FnScope ["_law_words", "_law_rows", "_law_lot", "_law_out", "_law_bit", "_law_found", "_law_state"] ["_law_words", "_law_rows"] (defScope s__law_told) := ⟨rfl, rfl, rfl, by decide +kernel, rfl, by decide +kernel, by decide +kernel⟩
theorem ok__law_told (F : Fun K "_law_told" "_law_told" s__law_told f fd) (T : Txt P w K mg base C) (h__law_after : Fn P w K mg base C 3 "_law_after" 3 c__law_after) (h__law_in_order : Fn P w K mg base C 1 "_law_in_order" 1 c__law_in_order) (h__law_states : Fn P w K mg base C 2 "_law_states" 1 c__law_states) : FnOk P w K mg base CX0 4 f fd ["_law_words", "_law_rows"] (spD K C 2 (runB 7 (g__law_told))) :=
  fn_ok F sc__law_told fun cdv A outer s H E hr => (db_cons (ds_par 2 3 sc__law_told.nd (da_cons (de_call h__law_states (hr.mono (by decide)) (da_cons (de_var 0) da_nil)) (da_cons (de_new (dn_lst da_nil)) da_nil)))
    (db_cons (ds_wipe [4, 5, 6] (ds_for (di_str (de_var 1)) (dg_name 4 sc__law_told.nd) (db_wipe [4, 5, 6] (db_cons (ds_if (DW.dt (dw_and (dt_eq hr.units (de_len T.b (da_cons (de_var 2) da_nil)) de_int) (dw_and1 (dt_in (u1 hr) (de_add (de_ix (de_var 2) de_int) (de_var 4)) (de_var 0))))) (db_one (ds_expr (de_append (de_var 3) (de_add (de_ix (de_var 2) de_int) (de_var 4))))) db_nil)
    (db_cons (ds_set 5 sc__law_told.nd de_newK)
    (db_cons (ds_wipe [6] (ds_for (di_lst (de_var 2)) (dg_name 6 sc__law_told.nd) (db_wipe [6] (db_one (ds_dput (u1 hr) (de_var 5) (de_ix (de_call h__law_after (hr.mono (by decide)) (da_cons (de_var 0) (da_cons (de_var 6) (da_cons (de_var 4) da_nil)))) de_int) de_bl)))))
    (db_one (ds_set 2 sc__law_told.nd (de_call h__law_in_order (hr.mono (by decide)) (da_cons (de_tree (dn_lock (dVar 5) (dn_lc [("_law_state", 6)] sc__law_told.nd (di_keys (de_var 5)) (fun _ => (dg_name 6 sc__law_told.nd)) (fun _ => dts_nil) (fun _ => (de_var 6))))) da_nil))))))))))
    (db_one (ds_ret (de_tup (da_cons (de_var 2) (da_cons (de_var 3) da_nil)))))))
/-! _law_last_right -/
abbrev s__law_last_right : Stmt := topS 32
theorem sc__law_last_right : FnScope ["_law_words", "_law_rows", "_law_out", "_law_code", "_law_state", "_law_told_here"] ["_law_words", "_law_rows", "_law_out"] (defScope s__law_last_right) := ⟨rfl, rfl, rfl, by decide +kernel, rfl, by decide +kernel, by decide +kernel⟩
theorem ok__law_last_right (F : Fun K "_law_last_right" "_law_last_right" s__law_last_right f fd) (T : Txt P w K mg base C) (h__law_made : Fn P w K mg base C 5 "_law_made" 1 c__law_made) (hp_states : PropFn P w K mg base C 1 "states" 0 P_states) (hw_after : MethFn P w K mg base C 3 "after" 0 3 W_after) : FnOk P w K mg base CX0 6 f fd ["_law_words", "_law_rows", "_law_out"] (spD K C 3 (runB 6 (g__law_last_right))) :=
  fn_ok F sc__law_last_right fun cdv A outer s H E hr => (db_cons (ds_set 3 sc__law_last_right.nd (de_call h__law_made (hr.mono (by decide)) (da_cons (de_var 0) da_nil)))
    (db_cons (ds_wipe [4, 5] (ds_for (di_lst (de_prop T.cl hp_states (hr.mono (by decide)) (de_var 3))) (dg_name 4 sc__law_last_right.nd) (db_wipe [4, 5] (db_cons (ds_set 5 sc__law_last_right.nd (de_ix (de_meth (pl := _) T.cl hw_after (hr.mono (by decide)) (de_var 3) (da_cons (de_var 4) (da_cons (de_var 1) da_nil))) de_int))
    (db_one (ds_if (DW.dt (dw_or (dt_lt (de_len T.b (da_cons (de_var 5) da_nil)) (de_len T.b (da_cons (de_var 2) da_nil))) (dw_or1 (DW.dt (dw_and (dt_ne hr.units (de_var 2) (de_tree (dn_lst da_nil))) (dw_and1 (dt_ne hr.units (de_tree (dn_slice (de_var 5) (do_some (de_sub (de_len T.b (da_cons (de_var 5) da_nil)) (de_len T.b (da_cons (de_var 2) da_nil)))) do_none)) (de_var 2)))))))) (db_one (ds_ret de_bl)) db_nil))))))
    (db_one (ds_ret de_bl))))
/-! law -/
abbrev s_law : Stmt := topS 33
theorem sc_law : FnScope ["_law_script", "_law_turn", "_law_purse_here", "_law_words", "_law_reader", "_law_other", "_law_rows", "_law_out", "_law_again", "_law_row", "_law_told_here", "_law_lot", "_law_due"] ["_law_script"] (defScope s_law) := ⟨rfl, rfl, rfl, by decide +kernel, rfl, by decide +kernel, by decide +kernel⟩
theorem ok_law (F : Fun K "law" "law" s_law f fd) (T : Txt P w K mg base C) (h__law_bits : Fn P w K mg base C 3 "_law_bits" 2 c__law_bits) (h__law_full_words : Fn P w K mg base C 2 "_law_full_words" 2 c__law_full_words) (h__law_last_right : Fn P w K mg base C 6 "_law_last_right" 3 c__law_last_right) (h__law_made : Fn P w K mg base C 5 "_law_made" 1 c__law_made) (h__law_pick : Fn P w K mg base C 2 "_law_pick" 2 c__law_pick) (h__law_purse : Fn P w K mg base C 1 "_law_purse" 2 (c__law_purse C)) (h__law_states : Fn P w K mg base C 2 "_law_states" 1 c__law_states) (h__law_told : Fn P w K mg base C 4 "_law_told" 2 c__law_told) (hp_possible : PropFn P w K mg base C 1 "possible" 1 P_possible) (hpN_possible : PropFn P w K mg base C 1 "possible" 1 PN_possible) (hp_settled : PropFn P w K mg base C 1 "settled" 1 P_settled) (hw_read : MethFn P w K mg base C 3 "read" 1 2 W_read) (h_Reader : ClsFn P w K mg base C 3 "Reader" 1 2 i_Reader) (he_1 : EqFn P w K mg base C 2 1 Q_1) : FnG P w K mg base 7 f fd ["_law_script"] (spD K C 1 (runB 13 (g_law C))) :=
  fnG_ok F sc_law fun cdv A outer s H hr hG => (db_cons (ds_wipe [1, 2, 3, 4, 5, 6, 7, 8, 9, 10, 11] (ds_for (di_range1 T.b.range (da_cons de_int da_nil)) (dg_name 1 sc_law.nd) (db_wipe [1, 2, 3, 4, 5, 6, 7, 8, 9, 10, 11] (db_cons (ds_set 2 sc_law.nd (de_call h__law_purse (hr.mono (by decide)) (da_cons (de_var 0) (da_cons (de_var 1) da_nil))))
    (db_cons (ds_set 3 sc_law.nd (de_call h__law_full_words (hr.mono (by decide)) (da_cons (de_var 2) (da_cons de_int da_nil))))
    (db_cons (ds_par 4 5 sc_law.nd (da_cons (de_make h_Reader (hr.mono (by decide)) (da_cons (de_call h__law_made (hr.mono (by decide)) (da_cons (de_var 3) da_nil)) da_nil)) (da_cons (de_make h_Reader (hr.mono (by decide)) (da_cons (de_call h__law_made (hr.mono (by decide)) (da_cons (de_var 3) da_nil)) da_nil)) da_nil)))
    (db_cons (ds_par 6 7 sc_law.nd (da_cons de_str (da_cons (de_tree (dn_lst da_nil)) da_nil)))
    (db_cons (ds_if (DW.dt (dw_or (dt_ownNe T.cl he_1 (hr.mono (by decide)) (de_var 4) (de_var 5)) (dw_or1 (dt_ne hr.units (de_reprC T.b hr hG (da_cons (de_prop T.cl hp_possible (hr.mono (by decide)) (de_var 4)) da_nil)) (de_reprC T.b hr hG (da_cons (de_call h__law_states (hr.mono (by decide)) (da_cons (de_var 3) da_nil)) da_nil)))))) (db_one (ds_ret de_bl)) db_nil)
    (db_cons (ds_if (dt_ne hr.units (de_prop T.cl hp_settled (hr.mono (by decide)) (de_var 4)) (de_eq hr.units (de_len T.b (da_cons (de_var 3) da_nil)) de_int)) (db_one (ds_ret de_bl)) db_nil)
    (db_cons (ds_wipe [8, 9, 10, 11] (ds_for (di_range1 T.b.range (da_cons de_int da_nil)) (dg_name 8 sc_law.nd) (db_wipe [8, 9, 10, 11] (db_cons (ds_set 9 sc_law.nd (de_call h__law_pick (hr.mono (by decide)) (da_cons (de_var 2) (da_cons (de_tree (dn_lst (da_cons (de_call h__law_bits (hr.mono (by decide)) (da_cons (de_var 2) (da_cons de_int da_nil))) (da_cons (de_call h__law_pick (hr.mono (by decide)) (da_cons (de_var 2) (da_cons (de_var 3) da_nil))) (da_cons de_str da_nil))))) da_nil))))
    (db_cons (ds_set 10 sc_law.nd (de_meth (pl := _) T.cl hw_read (hr.mono (by decide)) (de_var 4) (da_cons (de_var 9) da_nil)))
    (db_cons (ds_par 6 7 sc_law.nd (da_cons (de_add (de_var 6) (de_var 9)) (da_cons (de_add (de_var 7) (de_var 10)) da_nil)))
    (db_cons (ds_asg (de_call h__law_told (hr.mono (by decide)) (da_cons (de_var 3) (da_cons (de_var 6) da_nil))) (dg_tup (dgs_cons (dg_name 11 sc_law.nd) (dgs_cons (dg_name 12 sc_law.nd) dgs_nil))))
    (db_cons (ds_if (DW.dt (dw_or (dt_not (dt_val (de_isB "list" T.b T.cl T.is (de_var 10) T.b.list))) (dw_or1 (dt_ne hr.units (de_reprC T.b hr hG (da_cons (de_var 7) da_nil)) (de_reprC T.b hr hG (da_cons (de_var 12) da_nil)))))) (db_one (ds_ret de_bl)) db_nil)
    (db_cons (ds_if (dt_ne hr.units (de_reprC T.b hr hG (da_cons (de_prop T.cl hp_possible (hr.mono (by decide)) (de_var 4)) da_nil)) (de_reprC T.b hr hG (da_cons (de_var 11) da_nil))) (db_one (ds_ret de_bl)) db_nil)
    (db_cons (ds_if (dt_ne hr.units (de_reprC T.b hr hG (da_cons (de_prop T.cl hp_settled (hr.mono (by decide)) (de_var 4)) da_nil)) (de_reprC T.b hr hG (da_cons (de_eq hr.units (de_len T.b (da_cons (de_var 11) da_nil)) de_int) da_nil))) (db_one (ds_ret de_bl)) db_nil)
    (db_cons (ds_expr (de_append (de_var 10) de_str))
    (db_cons (ds_expr (de_append (de_prop T.cl hpN_possible (hr.mono (by decide)) (de_var 4)) de_str))
    (db_one (ds_if (dt_ne hr.units (de_reprC T.b hr hG (da_cons (de_prop T.cl hp_possible (hr.mono (by decide)) (de_var 4)) da_nil)) (de_reprC T.b hr hG (da_cons (de_var 11) da_nil))) (db_one (ds_ret de_bl)) db_nil))))))))))))))
    (db_cons (ds_if (dt_not (dt_val (de_call h__law_last_right (hr.mono (by decide)) (da_cons (de_var 3) (da_cons (de_var 6) (da_cons (de_var 7) da_nil)))))) (db_one (ds_ret de_bl)) db_nil)
    (db_cons (ds_if (DW.dt (dw_or (dt_ne hr.units (de_reprC T.b hr hG (da_cons (de_prop T.cl hp_possible (hr.mono (by decide)) (de_var 5)) da_nil)) (de_reprC T.b hr hG (da_cons (de_call h__law_states (hr.mono (by decide)) (da_cons (de_var 3) da_nil)) da_nil))) (dw_or1 (dt_ne hr.units (de_ownEq T.cl he_1 (hr.mono (by decide)) (de_var 4) (de_var 5)) (de_eq hr.units (de_var 6) de_str))))) (db_one (ds_ret de_bl)) db_nil)
    (db_cons (ds_if (DW.dt (dw_or (dt_ne hr.units (de_meth (pl := _) T.cl hw_read (hr.mono (by decide)) (de_var 5) (da_cons (de_var 6) da_nil)) (de_var 12)) (dw_or (dt_ownNe T.cl he_1 (hr.mono (by decide)) (de_var 4) (de_var 5)) (dw_or1 (dt_isNot (de_ownNe T.cl he_1 (hr.mono (by decide)) (de_var 4) (de_var 5)) de_bl))))) (db_one (ds_ret de_bl)) db_nil)
    (db_cons (ds_expr (de_meth (pl := _) T.cl hw_read (hr.mono (by decide)) (de_var 5) (da_cons de_str da_nil)))
    (db_cons (ds_if (DW.dt (dw_or (dt_ownEq T.cl he_1 (hr.mono (by decide)) (de_var 4) (de_var 5)) (dw_or (dt_ownEq T.cl he_1 (hr.mono (by decide)) (de_var 4) (de_var 6)) (dw_or1 (dt_ownEq T.cl he_1 (hr.mono (by decide)) (de_var 4) de_non))))) (db_one (ds_ret de_bl)) db_nil)
    (db_one (ds_if (DW.dt (dw_and (dt_ownEq T.cl he_1 (hr.mono (by decide)) (de_make h_Reader (hr.mono (by decide)) (da_cons (de_call h__law_made (hr.mono (by decide)) (da_cons (de_add (de_var 3) (de_tree (dn_lst da_nil))) da_nil)) da_nil)) (de_var 4)) (dw_and1 (dt_ne hr.units (de_var 6) de_str)))) (db_one (ds_ret de_bl)) db_nil)))))))))))))))))
    (db_one (ds_ret de_bl)))
end
theorem all_mk {l : PySem.W.OpenLaw} {w : World} {K : PySem.W.Frag} {h : Heap} {mg : Str → Option Value} {fa : Addr} (X : K.In h) (G : h.Ns mainGlobals mg) (hfa : mg "law" = some (.ref fa))
    {C0 : Addr} {C1 : Addr} {f1 : Addr} {od1 an1 : Option Addr} {sl1 : Array (Option Value)} {oc1 kV1 dc1 pm1 cd1 ct1 : Value} {f2 : Addr} {od2 an2 : Option Addr} {sl2 : Array (Option Value)} {oc2 kV2 dc2 pm2 cd2 ct2 : Value} {f3 : Addr} {od3 an3 : Option Addr} {sl3 : Array (Option Value)} {oc3 kV3 dc3 pm3 cd3 ct3 : Value} {f4 : Addr} {od4 an4 : Option Addr} {sl4 : Array (Option Value)} {oc4 kV4 dc4 pm4 cd4 ct4 : Value} {f5 : Addr} {od5 an5 : Option Addr} {sl5 : Array (Option Value)} {oc5 kV5 dc5 pm5 cd5 ct5 : Value} {p_Code_states : Addr} {rest_Code_states : List Value} {f6 : Addr} {od6 an6 : Option Addr} {sl6 : Array (Option Value)} {oc6 kV6 dc6 pm6 cd6 ct6 : Value} {f7 : Addr} {od7 an7 : Option Addr} {sl7 : Array (Option Value)} {oc7 kV7 dc7 pm7 cd7 ct7 : Value} {f8 : Addr} {od8 an8 : Option Addr} {sl8 : Array (Option Value)} {oc8 kV8 dc8 pm8 cd8 ct8 : Value} {nm0 qn0 : Str} {N0 : Addr} {bs0 bm0 : List Value} {hdct0 : Bool} {sn0 : List Str} {sub0 : List Value} {ab0 : Bool} {col0 : Option Bool} {dd0 : Option Addr} {x00 x10 x20 x30 x50 : Option Value} {nid0 : String} {f9 : Addr} {od9 an9 : Option Addr} {sl9 : Array (Option Value)} {oc9 kV9 dc9 pm9 cd9 ct9 : Value} {f10 : Addr} {od10 an10 : Option Addr} {sl10 : Array (Option Value)} {oc10 kV10 dc10 pm10 cd10 ct10 : Value} {f11 : Addr} {od11 an11 : Option Addr} {sl11 : Array (Option Value)} {oc11 kV11 dc11 pm11 cd11 ct11 : Value} {f12 : Addr} {od12 an12 : Option Addr} {sl12 : Array (Option Value)} {oc12 kV12 dc12 pm12 cd12 ct12 : Value} {f13 : Addr} {od13 an13 : Option Addr} {sl13 : Array (Option Value)} {oc13 kV13 dc13 pm13 cd13 ct13 : Value} {f14 : Addr} {od14 an14 : Option Addr} {sl14 : Array (Option Value)} {oc14 kV14 dc14 pm14 cd14 ct14 : Value} {f15 : Addr} {od15 an15 : Option Addr} {sl15 : Array (Option Value)} {oc15 kV15 dc15 pm15 cd15 ct15 : Value} {p_Reader_possible : Addr} {rest_Reader_possible : List Value} {f16 : Addr} {od16 an16 : Option Addr} {sl16 : Array (Option Value)} {oc16 kV16 dc16 pm16 cd16 ct16 : Value} {p_Reader_settled : Addr} {rest_Reader_settled : List Value} {f17 : Addr} {od17 an17 : Option Addr} {sl17 : Array (Option Value)} {oc17 kV17 dc17 pm17 cd17 ct17 : Value} {f18 : Addr} {od18 an18 : Option Addr} {sl18 : Array (Option Value)} {oc18 kV18 dc18 pm18 cd18 ct18 : Value} {nm1 qn1 : Str} {N1 : Addr} {bs1 bm1 : List Value} {hdct1 : Bool} {sn1 : List Str} {sub1 : List Value} {ab1 : Bool} {col1 : Option Bool} {dd1 : Option Addr} {x01 x11 x21 x31 x51 : Option Value} {nid1 : String} {f19 : Addr} {od19 an19 : Option Addr} {sl19 : Array (Option Value)} {oc19 kV19 dc19 pm19 cd19 ct19 : Value} {f20 : Addr} {od20 an20 : Option Addr} {sl20 : Array (Option Value)} {oc20 kV20 dc20 pm20 cd20 ct20 : Value} {f21 : Addr} {od21 an21 : Option Addr} {sl21 : Array (Option Value)} {oc21 kV21 dc21 pm21 cd21 ct21 : Value} {f22 : Addr} {od22 an22 : Option Addr} {sl22 : Array (Option Value)} {oc22 kV22 dc22 pm22 cd22 ct22 : Value} {f23 : Addr} {od23 an23 : Option Addr} {sl23 : Array (Option Value)} {oc23 kV23 dc23 pm23 cd23 ct23 : Value} {f24 : Addr} {od24 an24 : Option Addr} {sl24 : Array (Option Value)} {oc24 kV24 dc24 pm24 cd24 ct24 : Value} {f25 : Addr} {od25 an25 : Option Addr} {sl25 : Array (Option Value)} {oc25 kV25 dc25 pm25 cd25 ct25 : Value} {f26 : Addr} {od26 an26 : Option Addr} {sl26 : Array (Option Value)} {oc26 kV26 dc26 pm26 cd26 ct26 : Value} {f27 : Addr} {od27 an27 : Option Addr} {sl27 : Array (Option Value)} {oc27 kV27 dc27 pm27 cd27 ct27 : Value} {f28 : Addr} {od28 an28 : Option Addr} {sl28 : Array (Option Value)} {oc28 kV28 dc28 pm28 cd28 ct28 : Value} {f29 : Addr} {od29 an29 : Option Addr} {sl29 : Array (Option Value)} {oc29 kV29 dc29 pm29 cd29 ct29 : Value} {f30 : Addr} {od30 an30 : Option Addr} {sl30 : Array (Option Value)} {oc30 kV30 dc30 pm30 cd30 ct30 : Value} {f31 : Addr} {od31 an31 : Option Addr} {sl31 : Array (Option Value)} {oc31 kV31 dc31 pm31 cd31 ct31 : Value}
    (gC0 : PySem.W.nsIn K mainGlobals "Code" = some (some (.ref C0)))
    (gC1 : PySem.W.nsIn K mainGlobals "Reader" = some (some (.ref C1)))
    (a1 : PySem.W.nsIn K mainGlobals "is_row" = some (some (.ref f1)))
    (l1 : K.lookup f1 = some ⟨oc1, od1, .func (PySem.W.fnOf "is_row" "is_row" (defArgs s_is_row) (defBody s_is_row) (defScope s_is_row) .none kV1 dc1 pm1 an1 cd1 ct1), sl1⟩)
    (c1 : PySem.W.codeIn K cd1 "is_row" = true)
    (k1 : PySem.W.keepIn K (.ref f1) = true)
    (a2 : PySem.W.nsIn K mainGlobals "in_order" = some (some (.ref f2)))
    (l2 : K.lookup f2 = some ⟨oc2, od2, .func (PySem.W.fnOf "in_order" "in_order" (defArgs s_in_order) (defBody s_in_order) (defScope s_in_order) .none kV2 dc2 pm2 an2 cd2 ct2), sl2⟩)
    (c2 : PySem.W.codeIn K cd2 "in_order" = true)
    (k2 : PySem.W.keepIn K (.ref f2) = true)
    (a3 : PySem.W.nsIn K mainGlobals "beginnings" = some (some (.ref f3)))
    (l3 : K.lookup f3 = some ⟨oc3, od3, .func (PySem.W.fnOf "beginnings" "beginnings" (defArgs s_beginnings) (defBody s_beginnings) (defScope s_beginnings) .none kV3 dc3 pm3 an3 cd3 ct3), sl3⟩)
    (c3 : PySem.W.codeIn K cd3 "beginnings" = true)
    (k3 : PySem.W.keepIn K (.ref f3) = true)
    (a4 : PySem.W.nsIn K mainGlobals "are_words" = some (some (.ref f4)))
    (l4 : K.lookup f4 = some ⟨oc4, od4, .func (PySem.W.fnOf "are_words" "are_words" (defArgs s_are_words) (defBody s_are_words) (defScope s_are_words) .none kV4 dc4 pm4 an4 cd4 ct4), sl4⟩)
    (c4 : PySem.W.codeIn K cd4 "are_words" = true)
    (k4 : PySem.W.keepIn K (.ref f4) = true)
    (a5 : PySem.W.findIn K (.ref C0) "__init__" = some (some (.ref f5)))
    (l5 : K.lookup f5 = some ⟨oc5, od5, .func (PySem.W.fnOf "__init__" "Code.__init__" (defArgs s_Code_init) (defBody s_Code_init) (defScope s_Code_init) .none kV5 dc5 pm5 an5 cd5 ct5), sl5⟩)
    (c5 : PySem.W.codeIn K cd5 "Code.__init__" = true)
    (k5 : PySem.W.keepIn K (.ref f5) = true)
    (i5 : PySem.W.isFn K (.ref f5) = true)
    (mk0 : PySem.W.makesIn K C0 = true)
    (kc0 : PySem.W.keepIn K (.ref C0) = true)
    (pa_states : PySem.W.findIn K (.ref C0) "states" = some (some (.ref p_Code_states)))
    (pg_states : PySem.W.specialIn K (.ref p_Code_states) "__get__" = some (some (.builtin "property.__get__")))
    (pt_states : PySem.W.takesIn K (.ref p_Code_states) = some true)
    (a6 : PySem.W.recIn K p_Code_states "property" = some (.ref f6 :: rest_Code_states))
    (l6 : K.lookup f6 = some ⟨oc6, od6, .func (PySem.W.fnOf "states" "Code.states" (defArgs s_Code_states) (defBody s_Code_states) (defScope s_Code_states) .none kV6 dc6 pm6 an6 cd6 ct6), sl6⟩)
    (c6 : PySem.W.codeIn K cd6 "Code.states" = true)
    (k6 : PySem.W.keepIn K (.ref f6) = true)
    (a7 : PySem.W.nsIn K mainGlobals "is_full" = some (some (.ref f7)))
    (l7 : K.lookup f7 = some ⟨oc7, od7, .func (PySem.W.fnOf "is_full" "is_full" (defArgs s_is_full) (defBody s_is_full) (defScope s_is_full) .none kV7 dc7 pm7 an7 cd7 ct7), sl7⟩)
    (c7 : PySem.W.codeIn K cd7 "is_full" = true)
    (k7 : PySem.W.keepIn K (.ref f7) = true)
    (a8 : PySem.W.findIn K (.ref C0) "__eq__" = some (some (.ref f8)))
    (l8 : K.lookup f8 = some ⟨oc8, od8, .func (PySem.W.fnOf "__eq__" "Code.__eq__" (defArgs s_Code_eq) (defBody s_Code_eq) (defScope s_Code_eq) .none kV8 dc8 pm8 an8 cd8 ct8), sl8⟩)
    (c8 : PySem.W.codeIn K cd8 "Code.__eq__" = true)
    (k8 : PySem.W.keepIn K (.ref f8) = true)
    (i8 : PySem.W.isFn K (.ref f8) = true)
    (eo0 : K.lookup C0 = some (excClassObj nm0 qn0 C0 N0 bs0 bm0 hdct0 sn0 sub0 ab0 col0 dd0 x00 x10 x20 x30 x50 nid0))
    (eb0 : bm0.contains (.type "object") = true)
    (en0 : PySem.W.findIn K (.ref C0) "__ne__" = some (some (.builtin "object.__ne__")))
    (nf0_0 : PySem.W.notFirst K C0 (.type "NoneType") = true)
    (nf0_1 : PySem.W.notFirst K C0 (.type "bool") = true)
    (nf0_2 : PySem.W.notFirst K C0 (.type "int") = true)
    (nf0_3 : PySem.W.notFirst K C0 (.type "str") = true)
    (nf0_4 : PySem.W.notFirst K C0 (.type "list") = true)
    (nf0_5 : PySem.W.notFirst K C0 (.type "tuple") = true)
    (nf0_6 : PySem.W.notFirst K C0 (.type "dict") = true)
    (no0_0 : PySem.W.notFirst K C0 (.ref C0) = true)
    (no0_1 : PySem.W.notFirst K C0 (.ref C1) = true)
    (a9 : PySem.W.nsIn K mainGlobals "gone" = some (some (.ref f9)))
    (l9 : K.lookup f9 = some ⟨oc9, od9, .func (PySem.W.fnOf "gone" "gone" (defArgs s_gone) (defBody s_gone) (defScope s_gone) .none kV9 dc9 pm9 an9 cd9 ct9), sl9⟩)
    (c9 : PySem.W.codeIn K cd9 "gone" = true)
    (k9 : PySem.W.keepIn K (.ref f9) = true)
    (a10 : PySem.W.nsIn K mainGlobals "step_of" = some (some (.ref f10)))
    (l10 : K.lookup f10 = some ⟨oc10, od10, .func (PySem.W.fnOf "step_of" "step_of" (defArgs s_step_of) (defBody s_step_of) (defScope s_step_of) .none kV10 dc10 pm10 an10 cd10 ct10), sl10⟩)
    (c10 : PySem.W.codeIn K cd10 "step_of" = true)
    (k10 : PySem.W.keepIn K (.ref f10) = true)
    (a11 : PySem.W.nsIn K mainGlobals "check_full" = some (some (.ref f11)))
    (l11 : K.lookup f11 = some ⟨oc11, od11, .func (PySem.W.fnOf "check_full" "check_full" (defArgs s_check_full) (defBody s_check_full) (defScope s_check_full) .none kV11 dc11 pm11 an11 cd11 ct11), sl11⟩)
    (c11 : PySem.W.codeIn K cd11 "check_full" = true)
    (k11 : PySem.W.keepIn K (.ref f11) = true)
    (a12 : PySem.W.nsIn K mainGlobals "check_state" = some (some (.ref f12)))
    (l12 : K.lookup f12 = some ⟨oc12, od12, .func (PySem.W.fnOf "check_state" "check_state" (defArgs s_check_state) (defBody s_check_state) (defScope s_check_state) .none kV12 dc12 pm12 an12 cd12 ct12), sl12⟩)
    (c12 : PySem.W.codeIn K cd12 "check_state" = true)
    (k12 : PySem.W.keepIn K (.ref f12) = true)
    (a13 : PySem.W.nsIn K mainGlobals "check_row" = some (some (.ref f13)))
    (l13 : K.lookup f13 = some ⟨oc13, od13, .func (PySem.W.fnOf "check_row" "check_row" (defArgs s_check_row) (defBody s_check_row) (defScope s_check_row) .none kV13 dc13 pm13 an13 cd13 ct13), sl13⟩)
    (c13 : PySem.W.codeIn K cd13 "check_row" = true)
    (k13 : PySem.W.keepIn K (.ref f13) = true)
    (a14 : PySem.W.findIn K (.ref C0) "after" = some (some (.ref f14)))
    (l14 : K.lookup f14 = some ⟨oc14, od14, .func (PySem.W.fnOf "after" "Code.after" (defArgs s_Code_after) (defBody s_Code_after) (defScope s_Code_after) .none kV14 dc14 pm14 an14 cd14 ct14), sl14⟩)
    (c14 : PySem.W.codeIn K cd14 "Code.after" = true)
    (k14 : PySem.W.keepIn K (.ref f14) = true)
    (i14 : PySem.W.isFn K (.ref f14) = true)
    (a15 : PySem.W.findIn K (.ref C1) "__init__" = some (some (.ref f15)))
    (l15 : K.lookup f15 = some ⟨oc15, od15, .func (PySem.W.fnOf "__init__" "Reader.__init__" (defArgs s_Reader_init) (defBody s_Reader_init) (defScope s_Reader_init) .none kV15 dc15 pm15 an15 cd15 ct15), sl15⟩)
    (c15 : PySem.W.codeIn K cd15 "Reader.__init__" = true)
    (k15 : PySem.W.keepIn K (.ref f15) = true)
    (i15 : PySem.W.isFn K (.ref f15) = true)
    (mk1 : PySem.W.makesIn K C1 = true)
    (kc1 : PySem.W.keepIn K (.ref C1) = true)
    (pa_possible : PySem.W.findIn K (.ref C1) "possible" = some (some (.ref p_Reader_possible)))
    (pg_possible : PySem.W.specialIn K (.ref p_Reader_possible) "__get__" = some (some (.builtin "property.__get__")))
    (pt_possible : PySem.W.takesIn K (.ref p_Reader_possible) = some true)
    (a16 : PySem.W.recIn K p_Reader_possible "property" = some (.ref f16 :: rest_Reader_possible))
    (l16 : K.lookup f16 = some ⟨oc16, od16, .func (PySem.W.fnOf "possible" "Reader.possible" (defArgs s_Reader_possible) (defBody s_Reader_possible) (defScope s_Reader_possible) .none kV16 dc16 pm16 an16 cd16 ct16), sl16⟩)
    (c16 : PySem.W.codeIn K cd16 "Reader.possible" = true)
    (k16 : PySem.W.keepIn K (.ref f16) = true)
    (pa_settled : PySem.W.findIn K (.ref C1) "settled" = some (some (.ref p_Reader_settled)))
    (pg_settled : PySem.W.specialIn K (.ref p_Reader_settled) "__get__" = some (some (.builtin "property.__get__")))
    (pt_settled : PySem.W.takesIn K (.ref p_Reader_settled) = some true)
    (a17 : PySem.W.recIn K p_Reader_settled "property" = some (.ref f17 :: rest_Reader_settled))
    (l17 : K.lookup f17 = some ⟨oc17, od17, .func (PySem.W.fnOf "settled" "Reader.settled" (defArgs s_Reader_settled) (defBody s_Reader_settled) (defScope s_Reader_settled) .none kV17 dc17 pm17 an17 cd17 ct17), sl17⟩)
    (c17 : PySem.W.codeIn K cd17 "Reader.settled" = true)
    (k17 : PySem.W.keepIn K (.ref f17) = true)
    (a18 : PySem.W.findIn K (.ref C1) "__eq__" = some (some (.ref f18)))
    (l18 : K.lookup f18 = some ⟨oc18, od18, .func (PySem.W.fnOf "__eq__" "Reader.__eq__" (defArgs s_Reader_eq) (defBody s_Reader_eq) (defScope s_Reader_eq) .none kV18 dc18 pm18 an18 cd18 ct18), sl18⟩)
    (c18 : PySem.W.codeIn K cd18 "Reader.__eq__" = true)
    (k18 : PySem.W.keepIn K (.ref f18) = true)
    (i18 : PySem.W.isFn K (.ref f18) = true)
    (eo1 : K.lookup C1 = some (excClassObj nm1 qn1 C1 N1 bs1 bm1 hdct1 sn1 sub1 ab1 col1 dd1 x01 x11 x21 x31 x51 nid1))
    (eb1 : bm1.contains (.type "object") = true)
    (en1 : PySem.W.findIn K (.ref C1) "__ne__" = some (some (.builtin "object.__ne__")))
    (nf1_0 : PySem.W.notFirst K C1 (.type "NoneType") = true)
    (nf1_1 : PySem.W.notFirst K C1 (.type "bool") = true)
    (nf1_2 : PySem.W.notFirst K C1 (.type "int") = true)
    (nf1_3 : PySem.W.notFirst K C1 (.type "str") = true)
    (nf1_4 : PySem.W.notFirst K C1 (.type "list") = true)
    (nf1_5 : PySem.W.notFirst K C1 (.type "tuple") = true)
    (nf1_6 : PySem.W.notFirst K C1 (.type "dict") = true)
    (no1_0 : PySem.W.notFirst K C1 (.ref C0) = true)
    (no1_1 : PySem.W.notFirst K C1 (.ref C1) = true)
    (a19 : PySem.W.findIn K (.ref C1) "read" = some (some (.ref f19)))
    (l19 : K.lookup f19 = some ⟨oc19, od19, .func (PySem.W.fnOf "read" "Reader.read" (defArgs s_Reader_read) (defBody s_Reader_read) (defScope s_Reader_read) .none kV19 dc19 pm19 an19 cd19 ct19), sl19⟩)
    (c19 : PySem.W.codeIn K cd19 "Reader.read" = true)
    (k19 : PySem.W.keepIn K (.ref f19) = true)
    (i19 : PySem.W.isFn K (.ref f19) = true)
    (a20 : PySem.W.nsIn K mainGlobals "_law_purse" = some (some (.ref f20)))
    (l20 : K.lookup f20 = some ⟨oc20, od20, .func (PySem.W.fnOf "_law_purse" "_law_purse" (defArgs s__law_purse) (defBody s__law_purse) (defScope s__law_purse) .none kV20 dc20 pm20 an20 cd20 ct20), sl20⟩)
    (c20 : PySem.W.codeIn K cd20 "_law_purse" = true)
    (k20 : PySem.W.keepIn K (.ref f20) = true)
    (a21 : PySem.W.nsIn K mainGlobals "_law_draw" = some (some (.ref f21)))
    (l21 : K.lookup f21 = some ⟨oc21, od21, .func (PySem.W.fnOf "_law_draw" "_law_draw" (defArgs s__law_draw) (defBody s__law_draw) (defScope s__law_draw) .none kV21 dc21 pm21 an21 cd21 ct21), sl21⟩)
    (c21 : PySem.W.codeIn K cd21 "_law_draw" = true)
    (k21 : PySem.W.keepIn K (.ref f21) = true)
    (a22 : PySem.W.nsIn K mainGlobals "_law_pick" = some (some (.ref f22)))
    (l22 : K.lookup f22 = some ⟨oc22, od22, .func (PySem.W.fnOf "_law_pick" "_law_pick" (defArgs s__law_pick) (defBody s__law_pick) (defScope s__law_pick) .none kV22 dc22 pm22 an22 cd22 ct22), sl22⟩)
    (c22 : PySem.W.codeIn K cd22 "_law_pick" = true)
    (k22 : PySem.W.keepIn K (.ref f22) = true)
    (a23 : PySem.W.nsIn K mainGlobals "_law_full_words" = some (some (.ref f23)))
    (l23 : K.lookup f23 = some ⟨oc23, od23, .func (PySem.W.fnOf "_law_full_words" "_law_full_words" (defArgs s__law_full_words) (defBody s__law_full_words) (defScope s__law_full_words) .none kV23 dc23 pm23 an23 cd23 ct23), sl23⟩)
    (c23 : PySem.W.codeIn K cd23 "_law_full_words" = true)
    (k23 : PySem.W.keepIn K (.ref f23) = true)
    (a24 : PySem.W.nsIn K mainGlobals "_law_made" = some (some (.ref f24)))
    (l24 : K.lookup f24 = some ⟨oc24, od24, .func (PySem.W.fnOf "_law_made" "_law_made" (defArgs s__law_made) (defBody s__law_made) (defScope s__law_made) .none kV24 dc24 pm24 an24 cd24 ct24), sl24⟩)
    (c24 : PySem.W.codeIn K cd24 "_law_made" = true)
    (k24 : PySem.W.keepIn K (.ref f24) = true)
    (a25 : PySem.W.nsIn K mainGlobals "_law_bits" = some (some (.ref f25)))
    (l25 : K.lookup f25 = some ⟨oc25, od25, .func (PySem.W.fnOf "_law_bits" "_law_bits" (defArgs s__law_bits) (defBody s__law_bits) (defScope s__law_bits) .none kV25 dc25 pm25 an25 cd25 ct25), sl25⟩)
    (c25 : PySem.W.codeIn K cd25 "_law_bits" = true)
    (k25 : PySem.W.keepIn K (.ref f25) = true)
    (a26 : PySem.W.nsIn K mainGlobals "_law_in_order" = some (some (.ref f26)))
    (l26 : K.lookup f26 = some ⟨oc26, od26, .func (PySem.W.fnOf "_law_in_order" "_law_in_order" (defArgs s__law_in_order) (defBody s__law_in_order) (defScope s__law_in_order) .none kV26 dc26 pm26 an26 cd26 ct26), sl26⟩)
    (c26 : PySem.W.codeIn K cd26 "_law_in_order" = true)
    (k26 : PySem.W.keepIn K (.ref f26) = true)
    (a27 : PySem.W.nsIn K mainGlobals "_law_states" = some (some (.ref f27)))
    (l27 : K.lookup f27 = some ⟨oc27, od27, .func (PySem.W.fnOf "_law_states" "_law_states" (defArgs s__law_states) (defBody s__law_states) (defScope s__law_states) .none kV27 dc27 pm27 an27 cd27 ct27), sl27⟩)
    (c27 : PySem.W.codeIn K cd27 "_law_states" = true)
    (k27 : PySem.W.keepIn K (.ref f27) = true)
    (a28 : PySem.W.nsIn K mainGlobals "_law_after" = some (some (.ref f28)))
    (l28 : K.lookup f28 = some ⟨oc28, od28, .func (PySem.W.fnOf "_law_after" "_law_after" (defArgs s__law_after) (defBody s__law_after) (defScope s__law_after) .none kV28 dc28 pm28 an28 cd28 ct28), sl28⟩)
    (c28 : PySem.W.codeIn K cd28 "_law_after" = true)
    (k28 : PySem.W.keepIn K (.ref f28) = true)
    (a29 : PySem.W.nsIn K mainGlobals "_law_told" = some (some (.ref f29)))
    (l29 : K.lookup f29 = some ⟨oc29, od29, .func (PySem.W.fnOf "_law_told" "_law_told" (defArgs s__law_told) (defBody s__law_told) (defScope s__law_told) .none kV29 dc29 pm29 an29 cd29 ct29), sl29⟩)
    (c29 : PySem.W.codeIn K cd29 "_law_told" = true)
    (k29 : PySem.W.keepIn K (.ref f29) = true)
    (a30 : PySem.W.nsIn K mainGlobals "_law_last_right" = some (some (.ref f30)))
    (l30 : K.lookup f30 = some ⟨oc30, od30, .func (PySem.W.fnOf "_law_last_right" "_law_last_right" (defArgs s__law_last_right) (defBody s__law_last_right) (defScope s__law_last_right) .none kV30 dc30 pm30 an30 cd30 ct30), sl30⟩)
    (c30 : PySem.W.codeIn K cd30 "_law_last_right" = true)
    (k30 : PySem.W.keepIn K (.ref f30) = true)
    (a31 : PySem.W.nsIn K mainGlobals "law" = some (some (.ref f31)))
    (l31 : K.lookup f31 = some ⟨oc31, od31, .func (PySem.W.fnOf "law" "law" (defArgs s_law) (defBody s_law) (defScope s_law) .none kV31 dc31 pm31 an31 cd31 ct31), sl31⟩)
    (c31 : PySem.W.codeIn K cd31 "law" = true)
    (k31 : PySem.W.keepIn K (.ref f31) = true)
    (pg0 : PySem.W.plainGet K C0 Str.empty = true)
    (hd0 : PySem.W.hasDictIn K C0 = true)
    (po0 : PySem.W.plainOver K C0 = true)
    (sa0 : PySem.W.findIn K (.ref C0) "__setattr__" = some (some (.builtin "object.__setattr__")))
    (ha0 : PySem.W.findIn K (.ref C0) "__class__" = some (some (.builtin "object.__class__")))
    (hm0 : PySem.W.mroIn K C0 (.type "object") = some true)
    (na0_rows : PySem.W.findIn K (.ref C0) "rows" = some none)
    (na0_heads : PySem.W.findIn K (.ref C0) "heads" = some none)
    (na0_ways : PySem.W.findIn K (.ref C0) "ways" = some none)
    (na0_code : PySem.W.findIn K (.ref C0) "code" = some none)
    (na0_lot : PySem.W.findIn K (.ref C0) "lot" = some none)
    (na0_bits : PySem.W.findIn K (.ref C0) "bits" = some none)
    (bo0_int : PySem.W.kitOne K (.ref C0) (.type "int") = some false)
    (bo0_str : PySem.W.kitOne K (.ref C0) (.type "str") = some false)
    (bo0_list : PySem.W.kitOne K (.ref C0) (.type "list") = some false)
    (bo0_tuple : PySem.W.kitOne K (.ref C0) (.type "tuple") = some false)
    (bo0_bool : PySem.W.kitOne K (.ref C0) (.type "bool") = some false)
    (ob0_NoneType : PySem.W.kitOne K (.type "NoneType") (.ref C0) = some false)
    (ob0_bool : PySem.W.kitOne K (.type "bool") (.ref C0) = some false)
    (ob0_int : PySem.W.kitOne K (.type "int") (.ref C0) = some false)
    (ob0_str : PySem.W.kitOne K (.type "str") (.ref C0) = some false)
    (ob0_list : PySem.W.kitOne K (.type "list") (.ref C0) = some false)
    (ob0_tuple : PySem.W.kitOne K (.type "tuple") (.ref C0) = some false)
    (ob0_dict : PySem.W.kitOne K (.type "dict") (.ref C0) = some false)
    (oo0_0 : PySem.W.kitOne K (.ref C0) (.ref C0) = some true)
    (oo0_1 : PySem.W.kitOne K (.ref C0) (.ref C1) = some false)
    (pg1 : PySem.W.plainGet K C1 Str.empty = true)
    (hd1 : PySem.W.hasDictIn K C1 = true)
    (po1 : PySem.W.plainOver K C1 = true)
    (sa1 : PySem.W.findIn K (.ref C1) "__setattr__" = some (some (.builtin "object.__setattr__")))
    (ha1 : PySem.W.findIn K (.ref C1) "__class__" = some (some (.builtin "object.__class__")))
    (hm1 : PySem.W.mroIn K C1 (.type "object") = some true)
    (na1_rows : PySem.W.findIn K (.ref C1) "rows" = some none)
    (na1_heads : PySem.W.findIn K (.ref C1) "heads" = some none)
    (na1_ways : PySem.W.findIn K (.ref C1) "ways" = some none)
    (na1_code : PySem.W.findIn K (.ref C1) "code" = some none)
    (na1_lot : PySem.W.findIn K (.ref C1) "lot" = some none)
    (na1_bits : PySem.W.findIn K (.ref C1) "bits" = some none)
    (bo1_int : PySem.W.kitOne K (.ref C1) (.type "int") = some false)
    (bo1_str : PySem.W.kitOne K (.ref C1) (.type "str") = some false)
    (bo1_list : PySem.W.kitOne K (.ref C1) (.type "list") = some false)
    (bo1_tuple : PySem.W.kitOne K (.ref C1) (.type "tuple") = some false)
    (bo1_bool : PySem.W.kitOne K (.ref C1) (.type "bool") = some false)
    (ob1_NoneType : PySem.W.kitOne K (.type "NoneType") (.ref C1) = some false)
    (ob1_bool : PySem.W.kitOne K (.type "bool") (.ref C1) = some false)
    (ob1_int : PySem.W.kitOne K (.type "int") (.ref C1) = some false)
    (ob1_str : PySem.W.kitOne K (.type "str") (.ref C1) = some false)
    (ob1_list : PySem.W.kitOne K (.type "list") (.ref C1) = some false)
    (ob1_tuple : PySem.W.kitOne K (.type "tuple") (.ref C1) = some false)
    (ob1_dict : PySem.W.kitOne K (.type "dict") (.ref C1) = some false)
    (oo1_0 : PySem.W.kitOne K (.ref C1) (.ref C0) = some false)
    (oo1_1 : PySem.W.kitOne K (.ref C1) (.ref C1) = some true)
    (hn : PySem.W.specialIn K (.builtin "object.__class__") "__get__" = some (some (.builtin "getset_descriptor.__get__")))
    (htk : PySem.W.takesIn K (.builtin "object.__class__") = some true)
    (z_len : PySem.W.nsIn K mainGlobals "len" = some none)
    (z_range : PySem.W.nsIn K mainGlobals "range" = some none)
    (z_sorted : PySem.W.nsIn K mainGlobals "sorted" = some none)
    (z_int : PySem.W.nsIn K mainGlobals "int" = some none)
    (z_str : PySem.W.nsIn K mainGlobals "str" = some none)
    (z_max : PySem.W.nsIn K mainGlobals "max" = some none)
    (z_min : PySem.W.nsIn K mainGlobals "min" = some none)
    (z_sum : PySem.W.nsIn K mainGlobals "sum" = some none)
    (z_abs : PySem.W.nsIn K mainGlobals "abs" = some none)
    (z_list : PySem.W.nsIn K mainGlobals "list" = some none)
    (z_tuple : PySem.W.nsIn K mainGlobals "tuple" = some none)
    (z_dict : PySem.W.nsIn K mainGlobals "dict" = some none)
    (z_isinstance : PySem.W.nsIn K mainGlobals "isinstance" = some none)
    (z_repr : PySem.W.nsIn K mainGlobals "repr" = some none)
    (z_zip : PySem.W.nsIn K mainGlobals "zip" = some none)
    (z_enumerate : PySem.W.nsIn K mainGlobals "enumerate" = some none)
    : ∃ fd : FuncData, (∀ (s : Shared) (v : Value), BindsTo s fd ⟨[v], []⟩ [("_law_script", v)]) ∧ ∀ (base : Heap) (ns : List Int), K.In base → base.Ns mainGlobals mg → FnG l.prog w K mg base 7 fa fd ["_law_script"] (spD K (⟨fun c => if c = 1 then C1 else C0, ns⟩ : Ctx) 1 (runB 13 (g_law (⟨fun c => if c = 1 then C1 else C0, ns⟩ : Ctx)))) := by
  have e := hfa.symm.trans (PySem.W.mg_of X G a31)
  cases e
  refine ⟨PySem.W.fnOf "law" "law" (defArgs s_law) (defBody s_law) (defScope s_law) .none kV31 dc31 pm31 an31 cd31 ct31, fun s v => .of_eq rfl, fun base ns _ _ => ?_⟩
  let CC : Ctx := ⟨fun c => if c = 1 then C1 else C0, ns⟩
  have cc : ∀ c, CC.cls c = C1 ∨ CC.cls c = C0 := fun c => by
    by_cases h : c = 1
    · exact .inl (if_pos h)
    · exact .inr (if_neg h)
  have T : Txt l.prog w K mg base CC := {
    b := ⟨PySem.W.mg_none_of X G z_len, PySem.W.mg_none_of X G z_range, PySem.W.mg_none_of X G z_sorted, PySem.W.mg_none_of X G z_int, PySem.W.mg_none_of X G z_str, PySem.W.mg_none_of X G z_max, PySem.W.mg_none_of X G z_min, PySem.W.mg_none_of X G z_sum, PySem.W.mg_none_of X G z_abs, PySem.W.mg_none_of X G z_list, PySem.W.mg_none_of X G z_tuple, PySem.W.mg_none_of X G z_dict, PySem.W.mg_none_of X G z_isinstance, PySem.W.mg_none_of X G z_repr, PySem.W.mg_none_of X G z_zip, PySem.W.mg_none_of X G z_enumerate⟩
    cl := ⟨fun c => by
      rcases cc c with h | h
      · rw [h]; exact ⟨pg1, hd1, po1, sa1⟩
      · rw [h]; exact ⟨pg0, hd0, po0, sa0⟩, fun c => by
      rcases cc c with h | h
      · rw [h]; exact ha1
      · rw [h]; exact ha0, hn, htk, fun c => by
      rcases cc c with h | h
      · rw [h]; exact hm1
      · rw [h]; exact hm0⟩
    is := ⟨fun c n hn => by
      simp only [List.mem_cons, List.not_mem_nil, or_false] at hn
      rcases cc c with h | h
      · rw [h]
        rcases hn with rfl | rfl | rfl | rfl | rfl
        · exact bo1_int
        · exact bo1_str
        · exact bo1_list
        · exact bo1_tuple
        · exact bo1_bool
      · rw [h]
        rcases hn with rfl | rfl | rfl | rfl | rfl
        · exact bo0_int
        · exact bo0_str
        · exact bo0_list
        · exact bo0_tuple
        · exact bo0_bool
      , fun c m hm => by
      simp only [List.mem_cons, List.not_mem_nil, or_false] at hm
      rcases cc c with h | h
      · rw [h]
        rcases hm with rfl | rfl | rfl | rfl | rfl | rfl | rfl
        · exact ob1_NoneType
        · exact ob1_bool
        · exact ob1_int
        · exact ob1_str
        · exact ob1_list
        · exact ob1_tuple
        · exact ob1_dict
      · rw [h]
        rcases hm with rfl | rfl | rfl | rfl | rfl | rfl | rfl
        · exact ob0_NoneType
        · exact ob0_bool
        · exact ob0_int
        · exact ob0_str
        · exact ob0_list
        · exact ob0_tuple
        · exact ob0_dict
      , fun d c hd hc => by
      match d, c, hd, hc with
      | 0, 0, _, _ => exact oo0_0
      | 0, 1, _, _ => exact oo0_1
      | 1, 0, _, _ => exact oo1_0
      | 1, 1, _, _ => exact oo1_1
⟩
    n_rows := fun c => by
      rcases cc c with h | h
      · rw [h]; exact na1_rows
      · rw [h]; exact na0_rows
    n_heads := fun c => by
      rcases cc c with h | h
      · rw [h]; exact na1_heads
      · rw [h]; exact na0_heads
    n_ways := fun c => by
      rcases cc c with h | h
      · rw [h]; exact na1_ways
      · rw [h]; exact na0_ways
    n_code := fun c => by
      rcases cc c with h | h
      · rw [h]; exact na1_code
      · rw [h]; exact na0_code
    n_lot := fun c => by
      rcases cc c with h | h
      · rw [h]; exact na1_lot
      · rw [h]; exact na0_lot
    n_bits := fun c => by
      rcases cc c with h | h
      · rw [h]; exact na1_bits
      · rw [h]; exact na0_bits
    c_Code := PySem.W.mg_of X G gC0
    c_Reader := PySem.W.mg_of X G gC1
  }
  have F1 := fun_mk (st := s_is_row) l1 c1 k1
  have b1 := F1.binds (ps := ["value"]) fun _ _ _ _ _ _ us hl => match us, hl with | [_], _ => rfl
  have h_is_row : Fn l.prog w K mg base CC 1 "is_row" 1 _ := ⟨_, _, _, ok_is_row F1 T, PySem.W.mg_of X G a1, k1, b1⟩
  have h_is_row : Fn l.prog w K mg base CC 1 "is_row" 1 c_is_row := h_is_row
  have F2 := fun_mk (st := s_in_order) l2 c2 k2
  have b2 := F2.binds (ps := ["rows"]) fun _ _ _ _ _ _ us hl => match us, hl with | [_], _ => rfl
  have h_in_order : Fn l.prog w K mg base CC 1 "in_order" 1 _ := ⟨_, _, _, ok_in_order F2 T, PySem.W.mg_of X G a2, k2, b2⟩
  have h_in_order : Fn l.prog w K mg base CC 1 "in_order" 1 c_in_order := h_in_order.frz in_order_frz
  have F3 := fun_mk (st := s_beginnings) l3 c3 k3
  have b3 := F3.binds (ps := ["row"]) fun _ _ _ _ _ _ us hl => match us, hl with | [_], _ => rfl
  have h_beginnings : Fn l.prog w K mg base CC 1 "beginnings" 1 _ := ⟨_, _, _, ok_beginnings F3 T, PySem.W.mg_of X G a3, k3, b3⟩
  have h_beginnings : Fn l.prog w K mg base CC 1 "beginnings" 1 c_beginnings := h_beginnings
  have F4 := fun_mk (st := s_are_words) l4 c4 k4
  have b4 := F4.binds (ps := ["value"]) fun _ _ _ _ _ _ us hl => match us, hl with | [_], _ => rfl
  have h_are_words : Fn l.prog w K mg base CC 2 "are_words" 1 _ := ⟨_, _, _, ok_are_words F4 T (h_beginnings := h_beginnings) (h_is_row := h_is_row), PySem.W.mg_of X G a4, k4, b4⟩
  have h_are_words : Fn l.prog w K mg base CC 2 "are_words" 1 c_are_words := h_are_words
  have F5 := fun_mk (st := s_Code_init) l5 c5 k5
  have b5 := F5.binds (ps := ["self", "words"]) fun _ _ _ _ _ _ us hl => match us, hl with | [_, _], _ => rfl
  have h_Code : ClsFn l.prog w K mg base CC 3 "Code" 0 2 i_Code := ⟨_, _, _, ⟨mk0, a5, i5, kc0⟩, ok_Code_init F5 T (h_are_words := h_are_words) (h_beginnings := h_beginnings) (h_in_order := h_in_order), PySem.W.mg_of X G gC0, b5⟩
  have F6 := fun_mk (st := s_Code_states) l6 c6 k6
  have b6 := F6.binds (ps := ["self"]) fun _ _ _ _ _ _ us hl => match us, hl with | [_], _ => rfl
  have hp_states : PropFn l.prog w K mg base CC 1 "states" 0 P_states := ⟨_, _, _, _, ⟨pa_states, pg_states, pt_states, _, a6⟩, ok_Code_states F6 T, b6⟩
  have F7 := fun_mk (st := s_is_full) l7 c7 k7
  have b7 := F7.binds (ps := ["code"]) fun _ _ _ _ _ _ us hl => match us, hl with | [_], _ => rfl
  have h_is_full : Fn l.prog w K mg base CC 1 "is_full" 1 _ := ⟨_, _, _, ok_is_full F7 T, PySem.W.mg_of X G a7, k7, b7⟩
  have h_is_full : Fn l.prog w K mg base CC 1 "is_full" 1 c_is_full := h_is_full
  have F8 := fun_mk (st := s_Code_eq) l8 c8 k8
  have b8 := F8.binds (ps := ["self", "other"]) fun _ _ _ _ _ _ us hl => match us, hl with | [_, _], _ => rfl
  have he_0 : EqFn l.prog w K mg base CC 1 0 Q_0 := by
    refine ⟨⟨_, _, _, ok_Code_eq F8 T, a8, i8, b8⟩, ⟨⟨_, _, _, _, _, _, _, _, _, _, _, _, _, _, _, _, _, eo0, eb0⟩, en0⟩, fun t ht => ?_⟩
    cases t with
    | b m =>
      simp only [List.mem_cons, List.not_mem_nil, or_false] at ht
      rcases ht with rfl | rfl | rfl | rfl | rfl | rfl | rfl
      · exact nf0_0
      · exact nf0_1
      · exact nf0_2
      · exact nf0_3
      · exact nf0_4
      · exact nf0_5
      · exact nf0_6
    | o d =>
      have ht : d < nCls := ht
      match d, ht with
      | 0, _ => exact no0_0
      | 1, _ => exact no0_1
  have F9 := fun_mk (st := s_gone) l9 c9 k9
  have b9 := F9.binds (ps := ["code", "state", "row"]) fun _ _ _ _ _ _ us hl => match us, hl with | [_, _, _], _ => rfl
  have h_gone : Fn l.prog w K mg base CC 1 "gone" 3 _ := ⟨_, _, _, ok_gone F9 T, PySem.W.mg_of X G a9, k9, b9⟩
  have h_gone : Fn l.prog w K mg base CC 1 "gone" 3 c_gone := h_gone.frz gone_frz
  have F10 := fun_mk (st := s_step_of) l10 c10 k10
  have b10 := F10.binds (ps := ["code", "state", "bit"]) fun _ _ _ _ _ _ us hl => match us, hl with | [_, _, _], _ => rfl
  have h_step_of : Fn l.prog w K mg base CC 1 "step_of" 3 _ := ⟨_, _, _, ok_step_of F10 T, PySem.W.mg_of X G a10, k10, b10⟩
  have h_step_of : Fn l.prog w K mg base CC 1 "step_of" 3 c_step_of := h_step_of
  have F11 := fun_mk (st := s_check_full) l11 c11 k11
  have b11 := F11.binds (ps := ["value"]) fun _ _ _ _ _ _ us hl => match us, hl with | [_], _ => rfl
  have h_check_full : Fn l.prog w K mg base CC 2 "check_full" 1 _ := ⟨_, _, _, ok_check_full F11 T (h_is_full := h_is_full), PySem.W.mg_of X G a11, k11, b11⟩
  have h_check_full : Fn l.prog w K mg base CC 2 "check_full" 1 c_check_full := h_check_full
  have F12 := fun_mk (st := s_check_state) l12 c12 k12
  have b12 := F12.binds (ps := ["code", "value"]) fun _ _ _ _ _ _ us hl => match us, hl with | [_, _], _ => rfl
  have h_check_state : Fn l.prog w K mg base CC 1 "check_state" 2 _ := ⟨_, _, _, ok_check_state F12 T, PySem.W.mg_of X G a12, k12, b12⟩
  have h_check_state : Fn l.prog w K mg base CC 1 "check_state" 2 c_check_state := h_check_state
  have F13 := fun_mk (st := s_check_row) l13 c13 k13
  have b13 := F13.binds (ps := ["value"]) fun _ _ _ _ _ _ us hl => match us, hl with | [_], _ => rfl
  have h_check_row : Fn l.prog w K mg base CC 2 "check_row" 1 _ := ⟨_, _, _, ok_check_row F13 T (h_is_row := h_is_row), PySem.W.mg_of X G a13, k13, b13⟩
  have h_check_row : Fn l.prog w K mg base CC 2 "check_row" 1 c_check_row := h_check_row
  have F14 := fun_mk (st := s_Code_after) l14 c14 k14
  have b14 := F14.binds (ps := ["self", "state", "row"]) fun _ _ _ _ _ _ us hl => match us, hl with | [_, _, _], _ => rfl
  have hw_after : MethFn l.prog w K mg base CC 3 "after" 0 3 _ := ⟨_, _, _, ⟨a14, i14, k14⟩, ok_Code_after F14 T (h_check_row := h_check_row) (h_check_state := h_check_state) (h_gone := h_gone), b14⟩
  have hw_after : MethFn l.prog w K mg base CC 3 "after" 0 3 W_after := hw_after
  have F15 := fun_mk (st := s_Reader_init) l15 c15 k15
  have b15 := F15.binds (ps := ["self", "code"]) fun _ _ _ _ _ _ us hl => match us, hl with | [_, _], _ => rfl
  have h_Reader : ClsFn l.prog w K mg base CC 3 "Reader" 1 2 i_Reader := ⟨_, _, _, ⟨mk1, a15, i15, kc1⟩, ok_Reader_init F15 T (h_check_full := h_check_full), PySem.W.mg_of X G gC1, b15⟩
  have F16 := fun_mk (st := s_Reader_possible) l16 c16 k16
  have b16 := F16.binds (ps := ["self"]) fun _ _ _ _ _ _ us hl => match us, hl with | [_], _ => rfl
  have hp_possible : PropFn l.prog w K mg base CC 1 "possible" 1 P_possible := ⟨_, _, _, _, ⟨pa_possible, pg_possible, pt_possible, _, a16⟩, ok_Reader_possible F16 T, b16⟩
  have F16 := fun_mk (st := s_Reader_possibleN) l16 c16 k16
  have b16 := F16.binds (ps := ["self"]) fun _ _ _ _ _ _ us hl => match us, hl with | [_], _ => rfl
  have hpN_possible : PropFn l.prog w K mg base CC 1 "possible" 1 PN_possible := ⟨_, _, _, _, ⟨pa_possible, pg_possible, pt_possible, _, a16⟩, ok_Reader_possibleN F16 T, b16⟩
  have F17 := fun_mk (st := s_Reader_settled) l17 c17 k17
  have b17 := F17.binds (ps := ["self"]) fun _ _ _ _ _ _ us hl => match us, hl with | [_], _ => rfl
  have hp_settled : PropFn l.prog w K mg base CC 1 "settled" 1 P_settled := ⟨_, _, _, _, ⟨pa_settled, pg_settled, pt_settled, _, a17⟩, ok_Reader_settled F17 T, b17⟩
  have F18 := fun_mk (st := s_Reader_eq) l18 c18 k18
  have b18 := F18.binds (ps := ["self", "other"]) fun _ _ _ _ _ _ us hl => match us, hl with | [_, _], _ => rfl
  have he_1 : EqFn l.prog w K mg base CC 2 1 Q_1 := by
    refine ⟨⟨_, _, _, ok_Reader_eq F18 T (he_0 := he_0), a18, i18, b18⟩, ⟨⟨_, _, _, _, _, _, _, _, _, _, _, _, _, _, _, _, _, eo1, eb1⟩, en1⟩, fun t ht => ?_⟩
    cases t with
    | b m =>
      simp only [List.mem_cons, List.not_mem_nil, or_false] at ht
      rcases ht with rfl | rfl | rfl | rfl | rfl | rfl | rfl
      · exact nf1_0
      · exact nf1_1
      · exact nf1_2
      · exact nf1_3
      · exact nf1_4
      · exact nf1_5
      · exact nf1_6
    | o d =>
      have ht : d < nCls := ht
      match d, ht with
      | 0, _ => exact no1_0
      | 1, _ => exact no1_1
  have F19 := fun_mk (st := s_Reader_read) l19 c19 k19
  have b19 := F19.binds (ps := ["self", "row"]) fun _ _ _ _ _ _ us hl => match us, hl with | [_, _], _ => rfl
  have hw_read : MethFn l.prog w K mg base CC 3 "read" 1 2 _ := ⟨_, _, _, ⟨a19, i19, k19⟩, ok_Reader_read F19 T (h_check_row := h_check_row) (h_in_order := h_in_order) (h_step_of := h_step_of), b19⟩
  have hw_read : MethFn l.prog w K mg base CC 3 "read" 1 2 W_read := hw_read
  have F20 := fun_mk (st := s__law_purse) l20 c20 k20
  have b20 := F20.binds (ps := ["_law_script", "_law_at"]) fun _ _ _ _ _ _ us hl => match us, hl with | [_, _], _ => rfl
  have h__law_purse : Fn l.prog w K mg base CC 1 "_law_purse" 2 _ := ⟨_, _, _, ok__law_purse F20 T, PySem.W.mg_of X G a20, k20, b20⟩
  have h__law_purse : Fn l.prog w K mg base CC 1 "_law_purse" 2 (c__law_purse CC) := h__law_purse
  have F21 := fun_mk (st := s__law_draw) l21 c21 k21
  have b21 := F21.binds (ps := ["_law_purse_here", "_law_many"]) fun _ _ _ _ _ _ us hl => match us, hl with | [_, _], _ => rfl
  have h__law_draw : Fn l.prog w K mg base CC 1 "_law_draw" 2 _ := ⟨_, _, _, ok__law_draw F21 T, PySem.W.mg_of X G a21, k21, b21⟩
  have h__law_draw : Fn l.prog w K mg base CC 1 "_law_draw" 2 c__law_draw := h__law_draw
  have F22 := fun_mk (st := s__law_pick) l22 c22 k22
  have b22 := F22.binds (ps := ["_law_purse_here", "_law_items"]) fun _ _ _ _ _ _ us hl => match us, hl with | [_, _], _ => rfl
  have h__law_pick : Fn l.prog w K mg base CC 2 "_law_pick" 2 _ := ⟨_, _, _, ok__law_pick F22 T (h__law_draw := h__law_draw), PySem.W.mg_of X G a22, k22, b22⟩
  have h__law_pick : Fn l.prog w K mg base CC 2 "_law_pick" 2 c__law_pick := h__law_pick
  have F23 := fun_mk (st := s__law_full_words) l23 c23 k23
  have b23 := F23.binds (ps := ["_law_purse_here", "_law_most"]) fun _ _ _ _ _ _ us hl => match us, hl with | [_, _], _ => rfl
  have h__law_full_words : Fn l.prog w K mg base CC 2 "_law_full_words" 2 _ := ⟨_, _, _, ok__law_full_words F23 T (h__law_draw := h__law_draw), PySem.W.mg_of X G a23, k23, b23⟩
  have h__law_full_words : Fn l.prog w K mg base CC 2 "_law_full_words" 2 c__law_full_words := h__law_full_words
  have F24 := fun_mk (st := s__law_made) l24 c24 k24
  have b24 := F24.binds (ps := ["_law_words"]) fun _ _ _ _ _ _ us hl => match us, hl with | [_], _ => rfl
  have h__law_made : Fn l.prog w K mg base CC 5 "_law_made" 1 _ := ⟨_, _, _, ok__law_made F24 T (h_Code := h_Code), PySem.W.mg_of X G a24, k24, b24⟩
  have h__law_made : Fn l.prog w K mg base CC 5 "_law_made" 1 c__law_made := h__law_made.frz made_frz
  have F25 := fun_mk (st := s__law_bits) l25 c25 k25
  have b25 := F25.binds (ps := ["_law_purse_here", "_law_most"]) fun _ _ _ _ _ _ us hl => match us, hl with | [_, _], _ => rfl
  have h__law_bits : Fn l.prog w K mg base CC 3 "_law_bits" 2 _ := ⟨_, _, _, ok__law_bits F25 T (h__law_draw := h__law_draw) (h__law_pick := h__law_pick), PySem.W.mg_of X G a25, k25, b25⟩
  have h__law_bits : Fn l.prog w K mg base CC 3 "_law_bits" 2 c__law_bits := h__law_bits
  have F26 := fun_mk (st := s__law_in_order) l26 c26 k26
  have b26 := F26.binds (ps := ["_law_rows"]) fun _ _ _ _ _ _ us hl => match us, hl with | [_], _ => rfl
  have h__law_in_order : Fn l.prog w K mg base CC 1 "_law_in_order" 1 _ := ⟨_, _, _, ok__law_in_order F26 T, PySem.W.mg_of X G a26, k26, b26⟩
  have h__law_in_order : Fn l.prog w K mg base CC 1 "_law_in_order" 1 c__law_in_order := h__law_in_order
  have F27 := fun_mk (st := s__law_states) l27 c27 k27
  have b27 := F27.binds (ps := ["_law_words"]) fun _ _ _ _ _ _ us hl => match us, hl with | [_], _ => rfl
  have h__law_states : Fn l.prog w K mg base CC 2 "_law_states" 1 _ := ⟨_, _, _, ok__law_states F27 T (h__law_in_order := h__law_in_order), PySem.W.mg_of X G a27, k27, b27⟩
  have h__law_states : Fn l.prog w K mg base CC 2 "_law_states" 1 c__law_states := h__law_states.frz law_states_frz
  have F28 := fun_mk (st := s__law_after) l28 c28 k28
  have b28 := F28.binds (ps := ["_law_words", "_law_state", "_law_row"]) fun _ _ _ _ _ _ us hl => match us, hl with | [_, _, _], _ => rfl
  have h__law_after : Fn l.prog w K mg base CC 3 "_law_after" 3 _ := ⟨_, _, _, ok__law_after F28 T (h__law_states := h__law_states), PySem.W.mg_of X G a28, k28, b28⟩
  have h__law_after : Fn l.prog w K mg base CC 3 "_law_after" 3 c__law_after := h__law_after
  have F29 := fun_mk (st := s__law_told) l29 c29 k29
  have b29 := F29.binds (ps := ["_law_words", "_law_rows"]) fun _ _ _ _ _ _ us hl => match us, hl with | [_, _], _ => rfl
  have h__law_told : Fn l.prog w K mg base CC 4 "_law_told" 2 _ := ⟨_, _, _, ok__law_told F29 T (h__law_after := h__law_after) (h__law_in_order := h__law_in_order) (h__law_states := h__law_states), PySem.W.mg_of X G a29, k29, b29⟩
  have h__law_told : Fn l.prog w K mg base CC 4 "_law_told" 2 c__law_told := h__law_told.frz told_frz
  have F30 := fun_mk (st := s__law_last_right) l30 c30 k30
  have b30 := F30.binds (ps := ["_law_words", "_law_rows", "_law_out"]) fun _ _ _ _ _ _ us hl => match us, hl with | [_, _, _], _ => rfl
  have h__law_last_right : Fn l.prog w K mg base CC 6 "_law_last_right" 3 _ := ⟨_, _, _, ok__law_last_right F30 T (h__law_made := h__law_made) (hp_states := hp_states) (hw_after := hw_after), PySem.W.mg_of X G a30, k30, b30⟩
  have h__law_last_right : Fn l.prog w K mg base CC 6 "_law_last_right" 3 c__law_last_right := h__law_last_right
  have F31 := fun_mk (st := s_law) l31 c31 k31
  have b31 := F31.binds (ps := ["_law_script"]) fun _ _ _ _ _ _ us hl => match us, hl with | [_], _ => rfl
  exact ok_law F31 T (h__law_bits := h__law_bits) (h__law_full_words := h__law_full_words) (h__law_last_right := h__law_last_right) (h__law_made := h__law_made) (h__law_pick := h__law_pick) (h__law_purse := h__law_purse) (h__law_states := h__law_states) (h__law_told := h__law_told) (hp_possible := hp_possible) (hpN_possible := hpN_possible) (hp_settled := hp_settled) (hw_read := hw_read) (h_Reader := h_Reader) (he_1 := he_1)
theorem walk1 {l : PySem.W.OpenLaw} {q : Program} {loose : List Str} {XP : (Str → Option Value) → Heap → Prop} {YP : World → Heap → Prop} {d : DefRec} {K : Params → PySem.W.Frag} {C0 C1 : Addr} (hn : l.most = some 63) (hdf : d.params.defaults = [])
    (hY : ∀ (w : World) (h : Heap), YP w h → (K w.params).In h)
    (F : ∀ (w : World) (mg : Str → Option Value) (fa : Addr) (h : Heap), (K w.params).In h → h.Ns mainGlobals mg → mg d.name = some (.ref fa) →
      ∃ fd : FuncData, (∀ (s : Shared) (u : Value), BindsTo s fd ⟨[u], []⟩ [("_law_script", u)]) ∧ ∀ (base : Heap) (ns : List Int), (K w.params).In base → base.Ns mainGlobals mg → FnG l.prog w (K w.params) mg base 7 fa fd ["_law_script"] (spD (K w.params) (⟨fun c => if c = 1 then C1 else C0, ns⟩ : Ctx) 1 (runB 13 (g_law (⟨fun c => if c = 1 then C1 else C0, ns⟩ : Ctx))))) :
    PySem.W.WalkO q loose XP YP l.row.toRowW d [] (fun f vs => PySem.call f vs) :=
  walkG (n := 63) (k := 7) "_law_script" (fun _ ns => (⟨fun c => if c = 1 then C1 else C0, ns⟩ : Ctx)) (fun ns => runB 13 (g_law (⟨fun c => if c = 1 then C1 else C0, ns⟩ : Ctx))) hn (by decide) hdf ⟨rfl, by decide, by decide⟩ hY (fun _ _ => rfl) F (fun ns _ => law05 _)
end
end DL
open PySem PySem.W PyProof.Rows
set_option maxRecDepth 100000 in
set_option maxHeartbeats 0 in
theorem PySem.Challenge.cw_instepagain_k05_readers_holds : PySem.Challenge.rw_instepagain_k05_readers.Holds := by
  w_on; o_law; k_head; (case hw => w_witness2)
  k_fill
  refine' DL.walk1 (l := PySem.Challenge.rw_instepagain_k05_readers) rfl rfl (fun w h Y => PySem.W.kIn_of Y) ?F
  case F =>
    intro w mg fa h KX G hmg
    refine' DL.all_mk KX G hmg ?gC0 ?gC1 ?a1 ?l1 ?c1 ?k1 ?a2 ?l2 ?c2 ?k2 ?a3 ?l3 ?c3 ?k3 ?a4 ?l4 ?c4 ?k4 ?a5 ?l5 ?c5 ?k5 ?i5 ?mk0 ?kc0 ?pa_states ?pg_states ?pt_states ?a6 ?l6 ?c6 ?k6 ?a7 ?l7 ?c7 ?k7 ?a8 ?l8 ?c8 ?k8 ?i8 ?eo0 ?eb0 ?en0 ?nf0_0 ?nf0_1 ?nf0_2 ?nf0_3 ?nf0_4 ?nf0_5 ?nf0_6 ?no0_0 ?no0_1 ?a9 ?l9 ?c9 ?k9 ?a10 ?l10 ?c10 ?k10 ?a11 ?l11 ?c11 ?k11 ?a12 ?l12 ?c12 ?k12 ?a13 ?l13 ?c13 ?k13 ?a14 ?l14 ?c14 ?k14 ?i14 ?a15 ?l15 ?c15 ?k15 ?i15 ?mk1 ?kc1 ?pa_possible ?pg_possible ?pt_possible ?a16 ?l16 ?c16 ?k16 ?pa_settled ?pg_settled ?pt_settled ?a17 ?l17 ?c17 ?k17 ?a18 ?l18 ?c18 ?k18 ?i18 ?eo1 ?eb1 ?en1 ?nf1_0 ?nf1_1 ?nf1_2 ?nf1_3 ?nf1_4 ?nf1_5 ?nf1_6 ?no1_0 ?no1_1 ?a19 ?l19 ?c19 ?k19 ?i19 ?a20 ?l20 ?c20 ?k20 ?a21 ?l21 ?c21 ?k21 ?a22 ?l22 ?c22 ?k22 ?a23 ?l23 ?c23 ?k23 ?a24 ?l24 ?c24 ?k24 ?a25 ?l25 ?c25 ?k25 ?a26 ?l26 ?c26 ?k26 ?a27 ?l27 ?c27 ?k27 ?a28 ?l28 ?c28 ?k28 ?a29 ?l29 ?c29 ?k29 ?a30 ?l30 ?c30 ?k30 ?a31 ?l31 ?c31 ?k31 ?pg0 ?hd0 ?po0 ?sa0 ?ha0 ?hm0 ?na0_rows ?na0_heads ?na0_ways ?na0_code ?na0_lot ?na0_bits ?bo0_int ?bo0_str ?bo0_list ?bo0_tuple ?bo0_bool ?ob0_NoneType ?ob0_bool ?ob0_int ?ob0_str ?ob0_list ?ob0_tuple ?ob0_dict ?oo0_0 ?oo0_1 ?pg1 ?hd1 ?po1 ?sa1 ?ha1 ?hm1 ?na1_rows ?na1_heads ?na1_ways ?na1_code ?na1_lot ?na1_bits ?bo1_int ?bo1_str ?bo1_list ?bo1_tuple ?bo1_bool ?ob1_NoneType ?ob1_bool ?ob1_int ?ob1_str ?ob1_list ?ob1_tuple ?ob1_dict ?oo1_0 ?oo1_1 ?hn ?htk ?z_len ?z_range ?z_sorted ?z_int ?z_str ?z_max ?z_min ?z_sum ?z_abs ?z_list ?z_tuple ?z_dict ?z_isinstance ?z_repr ?z_zip ?z_enumerate
    (case gC0 => k_is)
    (case gC1 => k_is)
    (case a1 => k_is)
    (case l1 => k_is)
    (case c1 => k_is)
    (case k1 => k_is)
    (case a2 => k_is)
    (case l2 => k_is)
    (case c2 => k_is)
    (case k2 => k_is)
    (case a3 => k_is)
    (case l3 => k_is)
    (case c3 => k_is)
    (case k3 => k_is)
    (case a4 => k_is)
    (case l4 => k_is)
    (case c4 => k_is)
    (case k4 => k_is)
    (case a5 => k_is)
    (case l5 => k_is)
    (case c5 => k_is)
    (case k5 => k_is)
    (case i5 => k_is)
    (case mk0 => k_is)
    (case kc0 => k_is)
    (case pa_states => k_is)
    (case pg_states => k_is)
    (case pt_states => k_is)
    (case a6 => k_is)
    (case l6 => k_is)
    (case c6 => k_is)
    (case k6 => k_is)
    (case a7 => k_is)
    (case l7 => k_is)
    (case c7 => k_is)
    (case k7 => k_is)
    (case a8 => k_is)
    (case l8 => k_is)
    (case c8 => k_is)
    (case k8 => k_is)
    (case i8 => k_is)
    (case eo0 => k_is)
    (case eb0 => decide +kernel)
    (case en0 => k_is)
    (case nf0_0 => k_is)
    (case nf0_1 => k_is)
    (case nf0_2 => k_is)
    (case nf0_3 => k_is)
    (case nf0_4 => k_is)
    (case nf0_5 => k_is)
    (case nf0_6 => k_is)
    (case no0_0 => k_is)
    (case no0_1 => k_is)
    (case a9 => k_is)
    (case l9 => k_is)
    (case c9 => k_is)
    (case k9 => k_is)
    (case a10 => k_is)
    (case l10 => k_is)
    (case c10 => k_is)
    (case k10 => k_is)
    (case a11 => k_is)
    (case l11 => k_is)
    (case c11 => k_is)
    (case k11 => k_is)
    (case a12 => k_is)
    (case l12 => k_is)
    (case c12 => k_is)
    (case k12 => k_is)
    (case a13 => k_is)
    (case l13 => k_is)
    (case c13 => k_is)
    (case k13 => k_is)
    (case a14 => k_is)
    (case l14 => k_is)
    (case c14 => k_is)
    (case k14 => k_is)
    (case i14 => k_is)
    (case a15 => k_is)
    (case l15 => k_is)
    (case c15 => k_is)
    (case k15 => k_is)
    (case i15 => k_is)
    (case mk1 => k_is)
    (case kc1 => k_is)
    (case pa_possible => k_is)
    (case pg_possible => k_is)
    (case pt_possible => k_is)
    (case a16 => k_is)
    (case l16 => k_is)
    (case c16 => k_is)
    (case k16 => k_is)
    (case pa_settled => k_is)
    (case pg_settled => k_is)
    (case pt_settled => k_is)
    (case a17 => k_is)
    (case l17 => k_is)
    (case c17 => k_is)
    (case k17 => k_is)
    (case a18 => k_is)
    (case l18 => k_is)
    (case c18 => k_is)
    (case k18 => k_is)
    (case i18 => k_is)
    (case eo1 => k_is)
    (case eb1 => decide +kernel)
    (case en1 => k_is)
    (case nf1_0 => k_is)
    (case nf1_1 => k_is)
    (case nf1_2 => k_is)
    (case nf1_3 => k_is)
    (case nf1_4 => k_is)
    (case nf1_5 => k_is)
    (case nf1_6 => k_is)
    (case no1_0 => k_is)
    (case no1_1 => k_is)
    (case a19 => k_is)
    (case l19 => k_is)
    (case c19 => k_is)
    (case k19 => k_is)
    (case i19 => k_is)
    (case a20 => k_is)
    (case l20 => k_is)
    (case c20 => k_is)
    (case k20 => k_is)
    (case a21 => k_is)
    (case l21 => k_is)
    (case c21 => k_is)
    (case k21 => k_is)
    (case a22 => k_is)
    (case l22 => k_is)
    (case c22 => k_is)
    (case k22 => k_is)
    (case a23 => k_is)
    (case l23 => k_is)
    (case c23 => k_is)
    (case k23 => k_is)
    (case a24 => k_is)
    (case l24 => k_is)
    (case c24 => k_is)
    (case k24 => k_is)
    (case a25 => k_is)
    (case l25 => k_is)
    (case c25 => k_is)
    (case k25 => k_is)
    (case a26 => k_is)
    (case l26 => k_is)
    (case c26 => k_is)
    (case k26 => k_is)
    (case a27 => k_is)
    (case l27 => k_is)
    (case c27 => k_is)
    (case k27 => k_is)
    (case a28 => k_is)
    (case l28 => k_is)
    (case c28 => k_is)
    (case k28 => k_is)
    (case a29 => k_is)
    (case l29 => k_is)
    (case c29 => k_is)
    (case k29 => k_is)
    (case a30 => k_is)
    (case l30 => k_is)
    (case c30 => k_is)
    (case k30 => k_is)
    (case a31 => k_is)
    (case l31 => k_is)
    (case c31 => k_is)
    (case k31 => k_is)
    (case pg0 => k_is)
    (case hd0 => k_is)
    (case po0 => k_is)
    (case sa0 => k_is)
    (case ha0 => k_is)
    (case hm0 => k_is)
    (case na0_rows => k_is)
    (case na0_heads => k_is)
    (case na0_ways => k_is)
    (case na0_code => k_is)
    (case na0_lot => k_is)
    (case na0_bits => k_is)
    (case bo0_int => kit_is)
    (case bo0_str => kit_is)
    (case bo0_list => kit_is)
    (case bo0_tuple => kit_is)
    (case bo0_bool => kit_is)
    (case ob0_NoneType => kit_is)
    (case ob0_bool => kit_is)
    (case ob0_int => kit_is)
    (case ob0_str => kit_is)
    (case ob0_list => kit_is)
    (case ob0_tuple => kit_is)
    (case ob0_dict => kit_is)
    (case oo0_0 => kit_is)
    (case oo0_1 => kit_is)
    (case pg1 => k_is)
    (case hd1 => k_is)
    (case po1 => k_is)
    (case sa1 => k_is)
    (case ha1 => k_is)
    (case hm1 => k_is)
    (case na1_rows => k_is)
    (case na1_heads => k_is)
    (case na1_ways => k_is)
    (case na1_code => k_is)
    (case na1_lot => k_is)
    (case na1_bits => k_is)
    (case bo1_int => kit_is)
    (case bo1_str => kit_is)
    (case bo1_list => kit_is)
    (case bo1_tuple => kit_is)
    (case bo1_bool => kit_is)
    (case ob1_NoneType => kit_is)
    (case ob1_bool => kit_is)
    (case ob1_int => kit_is)
    (case ob1_str => kit_is)
    (case ob1_list => kit_is)
    (case ob1_tuple => kit_is)
    (case ob1_dict => kit_is)
    (case oo1_0 => kit_is)
    (case oo1_1 => kit_is)
    (case hn => k_is)
    (case htk => k_is)
    (case z_len => k_is)
    (case z_range => k_is)
    (case z_sorted => k_is)
    (case z_int => k_is)
    (case z_str => k_is)
    (case z_max => k_is)
    (case z_min => k_is)
    (case z_sum => k_is)
    (case z_abs => k_is)
    (case z_list => k_is)
    (case z_tuple => k_is)
    (case z_dict => k_is)
    (case z_isinstance => k_is)
    (case z_repr => k_is)
    (case z_zip => k_is)
    (case z_enumerate => k_is)
