import PyProof.Rows.All
import Wide.All
import OpenK.AllK
import Wide.FinOn
import HandS.ForMost
import HandS.Walk
import HandS.IsInst
import HandS.NestedK
import KE.KDictKeyed
import KE.KDictWalk
import HandS.TupLen
import HandS.Lambda
import HandS.SetKeys
import HandS.Style
import HandS.RaiseMore
import HandS.SortInts
import HandS.DictComp
import HandS.Property
import HandS.Conv
import KE.SortData
import HandS.Wide
import PyProof.InstNe
import HandS.WordsDict
import HandS.Text
import HandS.Exc
import HandS.ExcInit
import HandS.ExcSuper
import HandS.ExcIs
import HandS.ExcField
import KE.KExcSuper
import KE.KSuper
import PyProof.StrOps2
import PyProof.EnumIter
import PyProof.EnumMake
import PyProof.EnumStmt
import PyProof.WalksMore
import HandS.Strs
import HandS.More
import PyProof.DictFindH
import KE.KExcIs
import HandS.ExcValue
import HandS.Defaults
import KE.RegKIsAll
import PySem.Challenge.RW_instepagain_k01_errors_made
set_option Elab.async false
set_option linter.all false
set_option maxRecDepth 100000
set_option maxHeartbeats 2000000
namespace DL
open PySem PySem.Spec PyProof.Rows L2
def DictO : HO → Prop
  | .dK _ => True
  | .dT _ => True
  | _ => False
theorem DictO.mut {u : HO} (h : DictO u) : Mut (some u) := by cases u <;> first | exact h.elim | trivial
def Lks (L : List Addr) (H H2 : Hp) : Prop := (∀ a, a ∉ L → H2 a = H a) ∧ ∀ a ∈ L, ∃ u o, H a = some u ∧ DictO u ∧ H2 a = some (.frz o u)
def Lkd (Q : VK) : VK := fun v H => ∃ L : List Addr, (∀ a ∈ L, ∃ u, H a = some u ∧ DictO u) ∧ ∀ H2, Lks L H H2 → Q v H2
theorem Lkd.none {Q : VK} {v : V} {H : Hp} (h : Q v H) : Lkd Q v H := ⟨[], nofun, fun H2 h2 => by
  have e : H2 = H := funext fun a => h2.1 a nofun
  rw [e]
  exact h⟩
theorem Lks.nil (H : Hp) : Lks [] H H := ⟨fun _ _ => rfl, nofun⟩
theorem Lks.cons {L : List Addr} {H H2 : Hp} {a : Addr} {u : HO} {o : Obj} (h : Lks L H H2) (ha : a ∉ L) (hu : H a = some u) (d : DictO u) : Lks (a :: L) H (upd H2 a (.frz o u)) := by
  refine ⟨fun b hb => ?_, fun b hb => ?_⟩
  · rw [upd_ne fun e => hb (by rw [e]; exact List.mem_cons_self ..)]
    exact h.1 b fun z => hb (List.mem_cons_of_mem _ z)
  · by_cases e : b = a
    · subst e
      exact ⟨u, o, hu, d, upd_same⟩
    · obtain ⟨u', o', h1, h2, h3⟩ := h.2 b ((List.mem_cons.mp hb).resolve_left e)
      exact ⟨u', o', h1, h2, (upd_ne e).trans h3⟩
theorem Lks.dup {L : List Addr} {H H2 : Hp} {a : Addr} (h : Lks L H H2) (ha : a ∈ L) : Lks (a :: L) H H2 :=
  ⟨fun b hb => h.1 b fun z => hb (List.mem_cons_of_mem _ z), fun b hb => (List.mem_cons.mp hb).elim (fun e => h.2 b (e ▸ ha)) (h.2 b)⟩
section
variable {X : Cx} {pins : List (Addr × Obj)} {σ : L2.St} {H : Hp} {s : Shared}
end
section
variable {P : Program} {w : World} {K : PySem.W.Frag} {mg : Str → Option Value} {base : Heap}
theorem ce_lock {outer : List Env} {H H1 : Hp} {s s' : Shared} {d : Addr} {u : HO} (un : Un (frs outer) [] H H1 s.heap s'.heap) (ok : HOk P w H1 s'.heap) (h : H1 d = some u) (dd : DictO u) :
    ∃ od, Un (frs outer) [] H (upd H1 d (.frz od u)) s.heap s'.heap ∧ HOk P w (upd H1 d (.frz od u)) s'.heap := by
  have x := ok d u h
  have ex : ∃ od, s'.heap.get? d = some od := by
    cases u with
    | dK kvs => obtain ⟨_, _, _, _, o, _, _, e, _⟩ := x; exact ⟨o, e⟩
    | dT kvs => obtain ⟨_, _, _, _, o, _, _, e, _⟩ := x; exact ⟨o, e⟩
    | _ => exact False.elim dd
  obtain ⟨od, e⟩ := ex
  have mu : Mut (H1 d) := by rw [h]; exact dd.mut
  have new : ObjOk P w (upd H1 d (.frz od u)) s'.heap d (.frz od u) := by
    refine ⟨e, x.stay (fun b v _ q => q) (fun b q => ?_) fun b xs q => ?_⟩
    · rw [upd_ne (fun z => by rw [z, h] at q; cases q; exact dd)]; exact q
    · rw [upd_ne (fun z => by rw [z, h] at q; cases q; exact dd)]; exact q
  exact ⟨od, un.trans (Un.write mu (.inl rfl) (fun b v _ q => q) ⟨od, e⟩), ok.write mu (.inl rfl) (fun b v _ q => q) ⟨od, e⟩ new⟩
theorem ce_locks {outer : List Env} {H H1 : Hp} {s s' : Shared} (un : Un (frs outer) [] H H1 s.heap s'.heap) (ok : HOk P w H1 s'.heap) : ∀ L : List Addr, (∀ a ∈ L, ∃ u, H1 a = some u ∧ DictO u) → ∃ H2, Lks L H1 H2 ∧ Un (frs outer) [] H H2 s.heap s'.heap ∧ HOk P w H2 s'.heap
  | [], _ => ⟨H1, Lks.nil H1, un, ok⟩
  | a :: L, h => by
    obtain ⟨H2, h1, u2, o2⟩ := ce_locks un ok L fun b hb => h b (List.mem_cons_of_mem _ hb)
    by_cases ha : a ∈ L
    · exact ⟨H2, h1.dup ha, u2, o2⟩
    · obtain ⟨u, hu, d⟩ := h a (List.mem_cons_self ..)
      obtain ⟨o, u3, o3⟩ := ce_lock u2 o2 ((h1.1 a ha).trans hu) d
      exact ⟨_, h1.cons ha hu d, u3, o3⟩
theorem FnOk.locks {CX : CXT} {k : Nat} {f : Addr} {fd : FuncData} {ps : List Str} {sp : Sp} (F : FnOk P w K mg base CX k f fd ps sp) : FnOk P w K mg base CX k f fd ps (fun vs H Q E => sp vs H (Lkd Q) E) := by
  refine ⟨fun vs H Q E q => F.len vs H _ E q, fun A outer s H args us vs Q E hr he hb hv hs => ?_⟩
  refine codeAny_mono (F.run A outer s H args us vs _ E hr he hb hv hs) fun r s' hq => ?_
  cases r with
  | error e => exact hq
  | ok fl =>
    cases fl with
    | ret u =>
      obtain ⟨v, H1, h1, h2, un, ok, rv, L, q1, q2⟩ := hq
      obtain ⟨H2, l, un2, ok2⟩ := ce_locks un ok L q1
      exact ⟨v, H2, h1, h2, un2, ok2, rv, q2 H2 l⟩
    | next => exact hq
    | brk => exact hq
    | cont => exact hq
end
end DL
set_option Elab.async false
set_option linter.all false
set_option maxRecDepth 100000
set_option maxHeartbeats 2000000
namespace DL
open PySem PySem.Spec PyProof.Rows L2
abbrev NE := NestedKey × Addr × V
mutual
def NV (K : PySem.W.Frag) (H : Hp) : NestedKey → V → Prop
  | .none, v => v = .non
  | .num i, v => v = .int i
  | .text x, v => v = .str x
  | .tup ks, v => ∃ a us, v = .ref a ∧ SqT K H a us ∧ NVs K H ks us
def NVs (K : PySem.W.Frag) (H : Hp) : List NestedKey → List V → Prop
  | [], us => us = []
  | k :: ks, us => ∃ v r, us = v :: r ∧ NV K H k v ∧ NVs K H ks r
end
section
variable {K : PySem.W.Frag} {H H' : Hp}
theorem SqT.same (e : Same H H') {a : Addr} {xs : List V} (h : SqT K H a xs) : SqT K H' a xs :=
  h.elim (fun h => .inl (h.elim (fun h => .inl (e _ _ h)) fun ⟨o, h⟩ => .inr ⟨o, e _ _ h⟩)) fun h => .inr h
mutual
theorem NV.same (e : Same H H') : ∀ (k : NestedKey) (v : V), NV K H k v → NV K H' k v
  | .none, _, h | .num _, _, h | .text _, _, h => h
  | .tup ks, v, ⟨a, us, h1, h2, h3⟩ => ⟨a, us, h1, SqT.same e h2, NVs.same e ks us h3⟩
theorem NVs.same (e : Same H H') : ∀ (ks : List NestedKey) (us : List V), NVs K H ks us → NVs K H' ks us
  | [], _, h => h
  | k :: ks, us, ⟨v, r, h1, h2, h3⟩ => ⟨v, r, h1, NV.same e k v h2, NVs.same e ks r h3⟩
end
end
section
variable {X : Cx} {pins : List (Addr × Obj)} {σ : L2.St} {H : Hp} {s : Shared}
mutual
theorem NV.is (I : Inv X pins σ H s) : ∀ (k : NestedKey) (v : V) (u : Value), NV X.K H k v → RelV v u → NestedIs s.heap k u
  | .none, v, u, h, r => by
    rw [show v = .non from h] at r
    rw [show u = Value.none from r]
    exact .none
  | .num i, v, u, h, r => by
    rw [show v = .int i from h] at r
    obtain ⟨t, rfl⟩ := r
    exact .int i t
  | .text x, v, u, h, r => by
    rw [show v = .str x from h] at r
    obtain ⟨t, rfl⟩ := r
    exact .text x t
  | .tup ks, v, u, ⟨a, us, h1, h2, h3⟩, r => by
    rw [h1] at r
    obtain rfl : u = Value.ref a := r
    obtain ⟨its, rv, ⟨o, e, c, n, d⟩, _⟩ := I.tuple h2
    exact .tup e c d (by simpa using NVs.is I ks us its h3 rv)
theorem NVs.is (I : Inv X pins σ H s) : ∀ (ks : List NestedKey) (us : List V) (its : List Value), NVs X.K H ks us → Vals us its → NestedAll s.heap ks its
  | [], us, its, h, r => by
    rw [show us = [] from h] at r
    cases r
    exact .nil
  | k :: ks, us, its, ⟨v, r, h1, h2, h3⟩, rv => by
    rw [h1] at rv
    cases rv with
    | cons q1 q2 => exact .cons (NV.is I k v _ h2 q1) (NVs.is I ks r _ h3 q2)
end
end
abbrev NR : NE → NestedKey × Addr × Value → Prop := fun p q => p.1 = q.1 ∧ p.2.1 = q.2.1 ∧ RelV p.2.2 q.2.2
def NOk (w : World) (a : Addr) (l : List NE) (h : Heap) : Prop :=
  l.length ≤ sizeLine ∧ (a == sysModules) = false ∧ ∃ xs, Paired NR l xs ∧ ∃ o es ep, h.get? a = some o ∧ o.ExactDict ∧ o.data = .dict es ep ∧ es.toList = xs.map (fun x => (⟨x.1.hash w, .ref x.2.1, x.2.2⟩ : DictEntry)) ∧ (xs.map (·.1)).Nodup
def NObj (w : World) (a : Addr) (l : List NE) : HO := .ext (NOk w a l)
structure ND (K : PySem.W.Frag) (w : World) (H : Hp) (a : Addr) (l : List NE) : Prop where
  rd : Rd H a (NObj w a l)
  ks : ∀ e ∈ l, NV K H e.1 (.ref e.2.1) ∧ e.1.depth ≤ 8
theorem NOk.obj {P : Program} {w : World} {H : Hp} {h : Heap} {a : Addr} {l : List NE} (x : NOk w a l h) : ObjOk P w H h a (NObj w a l) := by
  obtain ⟨z, y, xs, p, o, es, ep, e, r⟩ := x
  refine ⟨⟨z, y, xs, p, o, es, ep, e, r⟩, ⟨o, e⟩, ?_⟩
  rintro h1 h2 ⟨z, y, xs, p, o, es, ep, e, r⟩ k
  exact ⟨z, y, xs, p, o, es, ep, k _ e, r⟩
section
variable {X : Cx} {pins : List (Addr × Obj)} {σ : L2.St} {H : Hp} {s : Shared} {a b : Addr} {l : List NE} {k : NestedKey}
end
section
variable {X : Cx} {pins : List (Addr × Obj)} {σ : L2.St} {H : Hp} {s : Shared} {a b : Addr} {l : List NE} {k : NestedKey} {v d : V} {u r : Value} {A : Around} {E : Value → Shared → Prop}
end
section
variable {X : Cx} {o i e f value : Expr} {pos pos' tpos cpos apos : Pos} {td ty tv tx : TE}
end
section
variable {X : Cx} {pins : List (Addr × Obj)} {σ : L2.St} {H : Hp} {s : Shared} {d : Addr} {o : Obj} {l : List NE}
end
section
variable {P : Program} {w : World} {K : PySem.W.Frag} {tg : Expr} {d : Addr} {o : Obj} {es : Array DictEntry} {ep : Nat}
end
theorem code_ne (w : World) (c : Addr) (q : Str) (l : List NE) : LamX.CodeO c q ≠ NObj w c l := fun e => by
  unfold LamX.CodeO NObj at e
  have e := HO.ext.inj e
  have hg := Heap.get?_push_size ({ objs := Array.replicate c default } : Heap) (o := { cls := .none, data := .fields #[.none, .str q 0] }) rfl
  rw [show ({ objs := Array.replicate c default } : Heap).objs.size = c from Array.size_replicate] at hg
  have h1 := (iff_of_eq (congrFun e (({ objs := Array.replicate c default } : Heap).push { cls := .none, data := .fields #[.none, .str q 0] }))).mp ⟨_, _, 0, hg, rfl, rfl⟩
  obtain ⟨_, _, _, _, o, es, ep, h2, h3, h4, _⟩ := h1
  rw [hg] at h2
  cases h2
  cases h4
end DL
set_option Elab.async false
set_option linter.all false
set_option maxRecDepth 100000
set_option maxHeartbeats 2000000
namespace DL
open PySem PySem.Spec PyProof.Rows L2
inductive D where
  | non | bl (b : Bool) | int (i : Int) | str (x : Str)
  | lst (xs : List D) | tup (xs : List D) | ktp (xs : List D) | dK (kvs : List (Key × D)) | dT (kvs : List (List Key × D)) | obj (c : Nat) (fs : List (Str × D))
  | ptr (k : Nat) | scr | ty (n : String) | cls (c : Nat) | fn
  /-- an own exception and its value -/
  | exc (c : Nat) (v : D)
  deriving Inhabited
inductive Ob where
  | lst (xs : List D) | dK (kvs : List (Key × D)) | dT (kvs : List (List Key × D)) | ins (c : Nat) (fs : List (Str × D))
  /-- dicts that a loop walks -/
  | lkK (kvs : List (Key × D)) | lkT (kvs : List (List Key × D))
  /-- a dict of nested keys, told as data -/
  | dN (kvs : List (D × D)) | lkN (kvs : List (D × D))
  deriving Inhabited
abbrev Lk := Nat → Option (Obj × HO)
abbrev nCls : Nat := 1
structure Ctx where
  cls : Nat → Addr
  ns : List Int
  /-- the tables of code objects that defs with lambdas fill, and the lambdas' names -/
  T : List (Addr × Str)
  /-- the lambda that the running def was handed -/
  fv : Option Addr
  w : World
  /-- the own exceptions' classes -/
  xc : Nat → Addr
abbrev Ctx.at (C : Ctx) (a : Addr) : Ctx := { C with fv := some a }
def keyD : Key → D
  | .inl i => .int i
  | .inr x => .str x
def keyT (ks : List Key) : D := .tup (ks.map keyD)
def KT (K : PySem.W.Frag) (F : Hp) (a : Addr) (vs : List V) : Prop := (∃ o, F a = some (.frz o (.tup vs)) ∧ o.dict = none) ∨
  ∃ (o : Obj) (its : Array Value) (n : Nat), K.lookup a = some o ∧ o.cls = .type "tuple" ∧ o.dict = none ∧ o.data = .seq its n ∧ its.size ≤ sizeLine ∧ Vals vs its.toList
theorem KT.same {K : PySem.W.Frag} {F F' : Hp} (e : Same F F') {a : Addr} {vs : List V} (h : KT K F a vs) : KT K F' a vs := h.imp (fun ⟨o, h1, h2⟩ => ⟨o, e _ _ h1, h2⟩) id
theorem KT.sq {K : PySem.W.Frag} {F : Hp} {a : Addr} {vs : List V} (h : KT K F a vs) : SqT K F a vs := h.imp (fun ⟨o, h1, _⟩ => .inr ⟨o, h1⟩) fun ⟨o, its, n, h1, h2, _, h3, h4, h5⟩ => ⟨o, its, n, h1, h2, h3, h4, h5⟩
def xq (a C dx : Addr) : HO := .ext fun h => ∃ oe : Obj, h.get? a = some oe ∧ oe.cls = .ref C ∧ oe.dict = some dx ∧ ∃ vs, oe.data = .fields vs
section
variable (K : PySem.W.Frag) (C : Ctx) (F : Hp) (π : List Addr)
mutual
def Rep : D → V → Prop
  | .non, v => v = .non
  | .bl b, v => v = .bl b
  | .int i, v => v = .int i
  | .str x, v => v = .str x
  | .lst xs, v => ∃ a vs, v = .ref a ∧ F a = some (.lst vs) ∧ RepA xs vs
  | .tup xs, v => ∃ a vs, v = .ref a ∧ F a = some (.tup vs) ∧ RepA xs vs
  | .ktp xs, v => ∃ a vs, v = .ref a ∧ KT K F a vs ∧ RepA xs vs
  | .dK kvs, v => ∃ a l o, v = .ref a ∧ F a = some (.frz o (.dK l)) ∧ RepK kvs l
  | .dT kvs, v => ∃ a l o, v = .ref a ∧ F a = some (.frz o (.dT l)) ∧ RepT kvs l
  | .obj c fs, v => ∃ a dx l, v = .ref a ∧ F a = some (.ins (C.cls c) dx l) ∧ RepF fs l
  | .ptr k, v => ∃ a, v = .ref a ∧ π[k]? = some a
  | .scr, v => ∃ a, v = .ref a ∧ SqL K F a (C.ns.map V.int)
  | .ty n, v => v = .ty n
  | .cls c, v => v = .ref (C.cls c)
  | .fn, v => ∃ a, v = .ref a ∧ C.fv = some a
  | .exc c d, v => ∃ a dx u, v = .ref a ∧ F a = some (xq a (C.xc c) dx) ∧ F dx = some (.xd [("value", u)]) ∧ Rep d u
def RepA : List D → List V → Prop
  | [], vs => vs = []
  | x :: xs, vs => ∃ v r, vs = v :: r ∧ Rep x v ∧ RepA xs r
def RepK : List (Key × D) → List (Key × V) → Prop
  | [], l => l = []
  | (k, x) :: r, l => ∃ v l', l = (k, v) :: l' ∧ Rep x v ∧ RepK r l'
def RepT : List (List Key × D) → List (List Key × V) → Prop
  | [], l => l = []
  | (k, x) :: r, l => ∃ v l', l = (k, v) :: l' ∧ Rep x v ∧ RepT r l'
def RepF : List (Str × D) → List (Str × V) → Prop
  | [], l => l = []
  | (f, x) :: r, l => ∃ v l', l = (f, v) :: l' ∧ Rep x v ∧ RepF r l'
end
mutual
/-- the key that data is -/
def nkeyOf : D → Option NestedKey
  | .non => some .none
  | .int i => some (.num i)
  | .str x => some (.text x)
  | .tup xs => (nkeysOf xs).map .tup
  | .ktp xs => (nkeysOf xs).map .tup
  | _ => none
def nkeysOf : List D → Option (List NestedKey)
  | [] => some []
  | x :: xs => match nkeyOf x, nkeysOf xs with
    | some k, some ks => some (k :: ks)
    | _, _ => none
end
def RepN : List (D × D) → List NE → Prop
  | [], l => l = []
  | (kd, x) :: r, l => ∃ k b v l', l = (k, b, v) :: l' ∧ nkeyOf kd = some k ∧ k.depth ≤ 8 ∧ Rep K C F π kd (.ref b) ∧ Rep K C F π x v ∧ RepN r l'
def ObR (lo : Option (Obj × HO)) (H : Hp) (p : Addr) : Ob → Prop
  | .lkK kvs => ∃ o l, lo = some (o, .dK l) ∧ H p = some (.frz o (.dK l)) ∧ RepK K C F π kvs l
  | .lkT kvs => ∃ o l, lo = some (o, .dT l) ∧ H p = some (.frz o (.dT l)) ∧ RepT K C F π kvs l
  | .dN kvs => ∃ l, H p = some (NObj C.w p l) ∧ RepN K C F π kvs l
  | .lkN kvs => ∃ o l, lo = some (o, NObj C.w p l) ∧ H p = some (.frz o (NObj C.w p l)) ∧ RepN K C F π kvs l
  | .lst xs => ∃ vs, H p = some (.lst vs) ∧ RepA K C F π xs vs
  | .dK kvs => ∃ l, H p = some (.dK l) ∧ RepK K C F π kvs l
  | .dT kvs => ∃ l, H p = some (.dT l) ∧ RepT K C F π kvs l
  | .ins c fs => ∃ dx l, H p = some (.ins (C.cls c) dx l) ∧ RepF K C F π fs l
end
section
variable {K : PySem.W.Frag} {C : Ctx} {F F' F2 : Hp} {π π' π2 : List Addr}
theorem pre_get {l l' : List Addr} (h : l <+: l') {k : Nat} {a : Addr} (e : l[k]? = some a) : l'[k]? = some a := by
  obtain ⟨t, rfl⟩ := h
  rw [List.getElem?_append_left (List.getElem?_eq_some_iff.mp e).1]
  exact e
mutual
theorem Rep.mono (e : Same F F') (h : π <+: π') : ∀ (d : D) (v : V), Rep K C F π d v → Rep K C F' π' d v
  | .non, v, r => r
  | .bl b, v, r => r
  | .int i, v, r => r
  | .str x, v, r => r
  | .lst xs, v, r => by
    obtain ⟨a, vs, q1, q2, q3⟩ := r
    exact ⟨a, vs, q1, e _ _ q2, RepA.mono e h xs vs q3⟩
  | .tup xs, v, r => by
    obtain ⟨a, vs, q1, q2, q3⟩ := r
    exact ⟨a, vs, q1, e _ _ q2, RepA.mono e h xs vs q3⟩
  | .ktp xs, v, r => by
    obtain ⟨a, vs, q1, q2, q4⟩ := r
    exact ⟨a, vs, q1, q2.same e, RepA.mono e h xs vs q4⟩
  | .dK kvs, v, r => by
    obtain ⟨a, l, o, q1, q2, q3⟩ := r
    exact ⟨a, l, o, q1, e _ _ q2, RepK.mono e h kvs l q3⟩
  | .dT kvs, v, r => by
    obtain ⟨a, l, o, q1, q2, q3⟩ := r
    exact ⟨a, l, o, q1, e _ _ q2, RepT.mono e h kvs l q3⟩
  | .obj c fs, v, r => by
    obtain ⟨a, dx, l, q1, q2, q3⟩ := r
    exact ⟨a, dx, l, q1, e _ _ q2, RepF.mono e h fs l q3⟩
  | .ptr k, v, r => by
    obtain ⟨a, q1, q2⟩ := r
    exact ⟨a, q1, pre_get h q2⟩
  | .scr, v, r => by
    obtain ⟨a, q1, q2⟩ := r
    exact ⟨a, q1, Same.seq e q2⟩
  | .ty n, v, r => r
  | .cls c, v, r => r
  | .fn, v, r => r
  | .exc c d, v, r => by
    obtain ⟨a, dx, u, q1, q2, q3, q4⟩ := r
    exact ⟨a, dx, u, q1, e _ _ q2, e _ _ q3, Rep.mono e h d u q4⟩
theorem RepA.mono (e : Same F F') (h : π <+: π') : ∀ (xs : List D) (vs : List V), RepA K C F π xs vs → RepA K C F' π' xs vs
  | [], vs, r => r
  | x :: xs, vs, r => by
    obtain ⟨v, t, q1, q2, q3⟩ := r
    exact ⟨v, t, q1, Rep.mono e h x v q2, RepA.mono e h xs t q3⟩
theorem RepK.mono (e : Same F F') (h : π <+: π') : ∀ (xs : List (Key × D)) (l : List (Key × V)), RepK K C F π xs l → RepK K C F' π' xs l
  | [], l, r => r
  | (k, x) :: xs, l, r => by
    obtain ⟨v, t, q1, q2, q3⟩ := r
    exact ⟨v, t, q1, Rep.mono e h x v q2, RepK.mono e h xs t q3⟩
theorem RepT.mono (e : Same F F') (h : π <+: π') : ∀ (xs : List (List Key × D)) (l : List (List Key × V)), RepT K C F π xs l → RepT K C F' π' xs l
  | [], l, r => r
  | (k, x) :: xs, l, r => by
    obtain ⟨v, t, q1, q2, q3⟩ := r
    exact ⟨v, t, q1, Rep.mono e h x v q2, RepT.mono e h xs t q3⟩
theorem RepF.mono (e : Same F F') (h : π <+: π') : ∀ (xs : List (Str × D)) (l : List (Str × V)), RepF K C F π xs l → RepF K C F' π' xs l
  | [], l, r => r
  | (f, x) :: xs, l, r => by
    obtain ⟨v, t, q1, q2, q3⟩ := r
    exact ⟨v, t, q1, Rep.mono e h x v q2, RepF.mono e h xs t q3⟩
end
theorem RepN.mono (e : Same F F') (h : π <+: π') : ∀ (xs : List (D × D)) (l : List NE), RepN K C F π xs l → RepN K C F' π' xs l
  | [], l, r => r
  | (kd, x) :: xs, l, r => by
    obtain ⟨k, b, v, t, q1, q2, q3, q4, q5, q6⟩ := r
    exact ⟨k, b, v, t, q1, q2, q3, Rep.mono e h kd _ q4, Rep.mono e h x v q5, RepN.mono e h xs t q6⟩
theorem ObR.mono {lo : Option (Obj × HO)} {H : Hp} {p : Addr} (e : Same F F') (h : π <+: π') : ∀ {o : Ob}, ObR K C F π lo H p o → ObR K C F' π' lo H p o
  | .lst xs, ⟨vs, q, r⟩ => ⟨vs, q, RepA.mono e h xs vs r⟩
  | .dK xs, ⟨vs, q, r⟩ => ⟨vs, q, RepK.mono e h xs vs r⟩
  | .dT xs, ⟨vs, q, r⟩ => ⟨vs, q, RepT.mono e h xs vs r⟩
  | .ins c xs, ⟨dx, vs, q, r⟩ => ⟨dx, vs, q, RepF.mono e h xs vs r⟩
  | .lkK xs, ⟨o, vs, z, q, r⟩ => ⟨o, vs, z, q, RepK.mono e h xs vs r⟩
  | .lkT xs, ⟨o, vs, z, q, r⟩ => ⟨o, vs, z, q, RepT.mono e h xs vs r⟩
  | .dN xs, ⟨vs, q, r⟩ => ⟨vs, q, RepN.mono e h xs vs r⟩
  | .lkN xs, ⟨o, vs, z, q, r⟩ => ⟨o, vs, z, q, RepN.mono e h xs vs r⟩
theorem ObR.heap {lo : Option (Obj × HO)} {H H' : Hp} {p : Addr} (e : H' p = H p) : ∀ {o : Ob}, ObR K C F π lo H p o → ObR K C F π lo H' p o
  | .lst xs, ⟨vs, q, r⟩ => ⟨vs, e.trans q, r⟩
  | .dK xs, ⟨vs, q, r⟩ => ⟨vs, e.trans q, r⟩
  | .dT xs, ⟨vs, q, r⟩ => ⟨vs, e.trans q, r⟩
  | .ins c xs, ⟨dx, vs, q, r⟩ => ⟨dx, vs, e.trans q, r⟩
  | .lkK xs, ⟨o, vs, z, q, r⟩ => ⟨o, vs, z, e.trans q, r⟩
  | .lkT xs, ⟨o, vs, z, q, r⟩ => ⟨o, vs, z, e.trans q, r⟩
  | .dN xs, ⟨vs, q, r⟩ => ⟨vs, e.trans q, r⟩
  | .lkN xs, ⟨o, vs, z, q, r⟩ => ⟨o, vs, z, e.trans q, r⟩
theorem ObR.there {lo : Option (Obj × HO)} {H : Hp} {p : Addr} : ∀ {o : Ob}, ObR K C F π lo H p o → ∃ x, H p = some x
  | .lst xs, ⟨vs, q, _⟩ => ⟨_, q⟩
  | .dK xs, ⟨vs, q, _⟩ => ⟨_, q⟩
  | .dT xs, ⟨vs, q, _⟩ => ⟨_, q⟩
  | .ins c xs, ⟨dx, vs, q, _⟩ => ⟨_, q⟩
  | .lkK xs, ⟨o, vs, z, q, _⟩ => ⟨_, q⟩
  | .lkT xs, ⟨o, vs, z, q, _⟩ => ⟨_, q⟩
  | .dN xs, ⟨vs, q, _⟩ => ⟨_, q⟩
  | .lkN xs, ⟨o, vs, z, q, _⟩ => ⟨_, q⟩
theorem RepA.length : ∀ {xs : List D} {vs : List V}, RepA K C F π xs vs → vs.length = xs.length
  | [], vs, r => by rw [show vs = [] from r]; rfl
  | x :: xs, vs, r => by
    obtain ⟨v, t, rfl, _, q⟩ := r
    rw [List.length_cons, List.length_cons, RepA.length q]
theorem RepA.get : ∀ {xs : List D} {vs : List V} {i : Nat} {d : D}, RepA K C F π xs vs → xs[i]? = some d → ∃ v, vs[i]? = some v ∧ Rep K C F π d v
  | [], vs, i, d, r, h => by simp at h
  | x :: xs, vs, 0, d, r, h => by
    obtain ⟨v, t, rfl, q, _⟩ := r
    simp at h
    subst h
    exact ⟨v, rfl, q⟩
  | x :: xs, vs, i + 1, d, r, h => by
    obtain ⟨v, t, rfl, _, q⟩ := r
    obtain ⟨u, h1, h2⟩ := RepA.get (i := i) (d := d) q (by simpa using h)
    exact ⟨u, by simpa using h1, h2⟩
theorem RepA.append : ∀ {xs ys : List D} {vs us : List V}, RepA K C F π xs vs → RepA K C F π ys us → RepA K C F π (xs ++ ys) (vs ++ us)
  | [], ys, vs, us, r, s => by rw [show vs = [] from r]; exact s
  | x :: xs, ys, vs, us, r, s => by
    obtain ⟨v, t, rfl, q1, q2⟩ := r
    exact ⟨v, t ++ us, rfl, q1, RepA.append q2 s⟩
theorem RepA.one {x : D} {v : V} (r : Rep K C F π x v) : RepA K C F π [x] [v] := ⟨v, [], rfl, r, rfl⟩
theorem RepA.set {y : D} {u : V} (r : Rep K C F π y u) : ∀ {xs : List D} {vs : List V} (i : Nat), RepA K C F π xs vs → RepA K C F π (xs.set i y) (vs.set i u)
  | [], vs, i, q => by rw [show vs = [] from q]; exact rfl
  | x :: xs, vs, 0, q => by
    obtain ⟨v, t, rfl, q1, q2⟩ := q
    exact ⟨u, t, rfl, r, q2⟩
  | x :: xs, vs, i + 1, q => by
    obtain ⟨v, t, rfl, q1, q2⟩ := q
    exact ⟨v, t.set i u, rfl, q1, RepA.set r i q2⟩
theorem RepA.take : ∀ {xs : List D} {vs : List V} (n : Nat), RepA K C F π xs vs → RepA K C F π (xs.take n) (vs.take n)
  | [], vs, n, q => by rw [show vs = [] from q]; cases n <;> exact rfl
  | x :: xs, vs, 0, q => rfl
  | x :: xs, vs, n + 1, q => by
    obtain ⟨v, t, rfl, q1, q2⟩ := q
    exact ⟨v, t.take n, rfl, q1, RepA.take n q2⟩
theorem RepA.drop : ∀ {xs : List D} {vs : List V} (n : Nat), RepA K C F π xs vs → RepA K C F π (xs.drop n) (vs.drop n)
  | [], vs, n, q => by rw [show vs = [] from q]; cases n <;> exact rfl
  | x :: xs, vs, 0, q => q
  | x :: xs, vs, n + 1, q => by
    obtain ⟨v, t, rfl, q1, q2⟩ := q
    exact RepA.drop n q2
structure Wd (K : PySem.W.Frag) (C : Ctx) (Λ : Lk) (F : Hp) (π : List Addr) (S : List Ob) (H : Hp) : Prop where
  ext : Same F H
  len : π.length = S.length
  nd : π.Nodup
  fr : ∀ p ∈ π, F p = none
  ob : ∀ k o p, S[k]? = some o → π[k]? = some p → ObR K C F π (Λ k) H p o
  tb : ∀ t ∈ C.T, LamX.TabS H t.1 t.2
  nt : ∀ a ps, F a ≠ some (.tbl ps)
def TblExt (b : Addr) (o : HO) : Prop := ((∃ ps, o = .tbl ps) ∨ ∃ φ, o = .ext φ) ∧ ∀ w l, o ≠ NObj w b l
theorem TblExt.tbl {b : Addr} {o : HO} {ps : Array Value} (h : o = .tbl ps) : TblExt b o := ⟨.inl ⟨ps, h⟩, fun w l z => by
  rw [h] at z
  unfold NObj at z
  cases z⟩
theorem TabS.stay {H H' : Hp} {P : Addr} {q : Str} (t : LamX.TabS H P q) (e : ∀ b o, H b = some o → TblExt b o → H' b = some o) : LamX.TabS H' P q := by
  obtain ⟨ps, h1, h2, h3⟩ := t
  refine ⟨ps, e _ _ h1 ⟨.inl ⟨_, rfl⟩, fun w l z => by unfold NObj at z; cases z⟩, h2, fun pos cv hc => ?_⟩
  obtain ⟨c, e1, e2⟩ := h3 pos cv hc
  exact ⟨c, e1, e _ _ e2 ⟨.inr ⟨_, rfl⟩, fun w l => code_ne w c q l⟩⟩
theorem ObR.plain {lo : Option (Obj × HO)} {H : Hp} {p : Addr} {o : HO} (h : H p = some o) (nn : TblExt p o) : ∀ {ob : Ob}, ¬ ObR K C F π lo H p ob
  | .lst xs, ⟨vs, q, _⟩ => by rw [h] at q; cases q; rcases nn.1 with ⟨_, z⟩ | ⟨_, z⟩ <;> cases z
  | .dK xs, ⟨vs, q, _⟩ => by rw [h] at q; cases q; rcases nn.1 with ⟨_, z⟩ | ⟨_, z⟩ <;> cases z
  | .dT xs, ⟨vs, q, _⟩ => by rw [h] at q; cases q; rcases nn.1 with ⟨_, z⟩ | ⟨_, z⟩ <;> cases z
  | .ins c xs, ⟨dx, vs, q, _⟩ => by rw [h] at q; cases q; rcases nn.1 with ⟨_, z⟩ | ⟨_, z⟩ <;> cases z
  | .lkK xs, ⟨o, vs, z, q, _⟩ => by rw [h] at q; cases q; rcases nn.1 with ⟨_, z⟩ | ⟨_, z⟩ <;> cases z
  | .lkT xs, ⟨o, vs, z, q, _⟩ => by rw [h] at q; cases q; rcases nn.1 with ⟨_, z⟩ | ⟨_, z⟩ <;> cases z
  | .dN xs, ⟨vs, q, _⟩ => by rw [h] at q; cases q; exact nn.2 _ _ rfl
  | .lkN xs, ⟨o, vs, z, q, _⟩ => by rw [h] at q; cases q; rcases nn.1 with ⟨_, z⟩ | ⟨_, z⟩ <;> cases z
mutual
def noF : D → Bool
  | .fn => false
  | .exc _ d => noF d
  | .lst xs | .tup xs | .ktp xs => noFA xs
  | .dK xs => noFK xs
  | .dT xs => noFT xs
  | .obj _ xs => noFF xs
  | _ => true
termination_by structural x => x
def noFA : List D → Bool
  | [] => true
  | x :: xs => noF x && noFA xs
termination_by structural x => x
def noFK : List (Key × D) → Bool
  | [] => true
  | (_, x) :: xs => noF x && noFK xs
termination_by structural x => x
def noFT : List (List Key × D) → Bool
  | [] => true
  | (_, x) :: xs => noF x && noFT xs
termination_by structural x => x
def noFF : List (Str × D) → Bool
  | [] => true
  | (_, x) :: xs => noF x && noFF xs
termination_by structural x => x
end
def noFN : List (D × D) → Bool
  | [] => true
  | (k, x) :: xs => noF k && (noF x && noFN xs)
def noFO : Ob → Bool
  | .dN xs | .lkN xs => noFN xs
  | .lst xs => noFA xs
  | .dK xs | .lkK xs => noFK xs
  | .dT xs | .lkT xs => noFT xs
  | .ins _ xs => noFF xs
mutual
theorem rep_noF (h : C.fv = none) : ∀ (d : D) (v : V), Rep K C F π d v → noF d = true
  | .non, _, _ | .bl _, _, _ | .int _, _, _ | .str _, _, _ | .ptr _, _, _ | .scr, _, _ | .ty _, _, _ | .cls _, _, _ => rfl
  | .fn, v, r => by
    obtain ⟨a, _, e⟩ := r
    rw [h] at e
    cases e
  | .exc c d, v, r => by
    obtain ⟨a, dx, u, _, _, _, q⟩ := r
    exact rep_noF h d u q
  | .lst xs, v, r => by
    obtain ⟨a, vs, _, _, q⟩ := r
    exact repA_noF h xs vs q
  | .tup xs, v, r => by
    obtain ⟨a, vs, _, _, q⟩ := r
    exact repA_noF h xs vs q
  | .ktp xs, v, r => by
    obtain ⟨a, vs, _, _, q⟩ := r
    exact repA_noF h xs vs q
  | .dK xs, v, r => by
    obtain ⟨a, l, o, _, _, q⟩ := r
    exact repK_noF h xs l q
  | .dT xs, v, r => by
    obtain ⟨a, l, o, _, _, q⟩ := r
    exact repT_noF h xs l q
  | .obj c xs, v, r => by
    obtain ⟨a, dx, l, _, _, q⟩ := r
    exact repF_noF h xs l q
theorem repA_noF (h : C.fv = none) : ∀ (xs : List D) (vs : List V), RepA K C F π xs vs → noFA xs = true
  | [], _, _ => rfl
  | x :: xs, vs, r => by
    obtain ⟨v, t, _, q1, q2⟩ := r
    exact Bool.and_eq_true_iff.mpr ⟨rep_noF h x v q1, repA_noF h xs t q2⟩
theorem repK_noF (h : C.fv = none) : ∀ (xs : List (Key × D)) (l : List (Key × V)), RepK K C F π xs l → noFK xs = true
  | [], _, _ => rfl
  | (k, x) :: xs, vs, r => by
    obtain ⟨v, t, _, q1, q2⟩ := r
    exact Bool.and_eq_true_iff.mpr ⟨rep_noF h x v q1, repK_noF h xs t q2⟩
theorem repT_noF (h : C.fv = none) : ∀ (xs : List (List Key × D)) (l : List (List Key × V)), RepT K C F π xs l → noFT xs = true
  | [], _, _ => rfl
  | (k, x) :: xs, vs, r => by
    obtain ⟨v, t, _, q1, q2⟩ := r
    exact Bool.and_eq_true_iff.mpr ⟨rep_noF h x v q1, repT_noF h xs t q2⟩
theorem repF_noF (h : C.fv = none) : ∀ (xs : List (Str × D)) (l : List (Str × V)), RepF K C F π xs l → noFF xs = true
  | [], _, _ => rfl
  | (k, x) :: xs, vs, r => by
    obtain ⟨v, t, _, q1, q2⟩ := r
    exact Bool.and_eq_true_iff.mpr ⟨rep_noF h x v q1, repF_noF h xs t q2⟩
end
theorem repN_noF (h : C.fv = none) : ∀ (xs : List (D × D)) (l : List NE), RepN K C F π xs l → noFN xs = true
  | [], _, _ => rfl
  | (kd, x) :: xs, l, r => by
    obtain ⟨k, b, v, t, q1, q2, q3, q4, q5, q6⟩ := r
    exact Bool.and_eq_true_iff.mpr ⟨rep_noF h kd _ q4, Bool.and_eq_true_iff.mpr ⟨rep_noF h x v q5, repN_noF h xs t q6⟩⟩
theorem obR_noF (h : C.fv = none) {lo : Option (Obj × HO)} {H : Hp} {p : Addr} : ∀ {ob : Ob}, ObR K C F π lo H p ob → noFO ob = true
  | .lst xs, ⟨vs, _, r⟩ => repA_noF h xs vs r
  | .dK xs, ⟨vs, _, r⟩ => repK_noF h xs vs r
  | .dT xs, ⟨vs, _, r⟩ => repT_noF h xs vs r
  | .ins c xs, ⟨dx, vs, _, r⟩ => repF_noF h xs vs r
  | .lkK xs, ⟨o, vs, _, _, r⟩ => repK_noF h xs vs r
  | .lkT xs, ⟨o, vs, _, _, r⟩ => repT_noF h xs vs r
  | .dN xs, ⟨vs, _, r⟩ => repN_noF h xs vs r
  | .lkN xs, ⟨o, vs, _, _, r⟩ => repN_noF h xs vs r
variable {C2 : Ctx}
mutual
theorem rep_fv (h1 : C2.cls = C.cls) (h2 : C2.ns = C.ns ∧ C2.xc = C.xc) : ∀ (d : D) (v : V), noF d = true → Rep K C F π d v → Rep K C2 F π d v
  | .non, _, _, r | .bl _, _, _, r | .int _, _, _, r | .str _, _, _, r | .ptr _, _, _, r | .ty _, _, _, r => r
  | .scr, v, _, r => by
    obtain ⟨a, q1, q2⟩ := r
    exact ⟨a, q1, by rw [h2.1]; exact q2⟩
  | .cls c, v, _, r => by
    show v = .ref (C2.cls c)
    rw [h1]
    exact r
  | .fn, v, n, _ => nomatch n
  | .exc c d, v, n, r => by
    obtain ⟨a, dx, u, q1, q2, q3, q⟩ := r
    exact ⟨a, dx, u, q1, by rw [h2.2]; exact q2, q3, rep_fv h1 h2 d u n q⟩
  | .lst xs, v, n, r => by
    obtain ⟨a, vs, q1, q2, q⟩ := r
    exact ⟨a, vs, q1, q2, repA_fv h1 h2 xs vs n q⟩
  | .tup xs, v, n, r => by
    obtain ⟨a, vs, q1, q2, q⟩ := r
    exact ⟨a, vs, q1, q2, repA_fv h1 h2 xs vs n q⟩
  | .ktp xs, v, n, r => by
    obtain ⟨a, vs, q1, q2, q⟩ := r
    exact ⟨a, vs, q1, q2, repA_fv h1 h2 xs vs n q⟩
  | .dK xs, v, n, r => by
    obtain ⟨a, l, o, q1, q2, q⟩ := r
    exact ⟨a, l, o, q1, q2, repK_fv h1 h2 xs l n q⟩
  | .dT xs, v, n, r => by
    obtain ⟨a, l, o, q1, q2, q⟩ := r
    exact ⟨a, l, o, q1, q2, repT_fv h1 h2 xs l n q⟩
  | .obj c xs, v, n, r => by
    obtain ⟨a, dx, l, q1, q2, q⟩ := r
    exact ⟨a, dx, l, q1, by rw [h1]; exact q2, repF_fv h1 h2 xs l n q⟩
theorem repA_fv (h1 : C2.cls = C.cls) (h2 : C2.ns = C.ns ∧ C2.xc = C.xc) : ∀ (xs : List D) (vs : List V), noFA xs = true → RepA K C F π xs vs → RepA K C2 F π xs vs
  | [], _, _, r => r
  | x :: xs, vs, n, r => by
    obtain ⟨v, t, e, q1, q2⟩ := r
    obtain ⟨n1, n2⟩ := Bool.and_eq_true_iff.mp n
    exact ⟨v, t, e, rep_fv h1 h2 x v n1 q1, repA_fv h1 h2 xs t n2 q2⟩
theorem repK_fv (h1 : C2.cls = C.cls) (h2 : C2.ns = C.ns ∧ C2.xc = C.xc) : ∀ (xs : List (Key × D)) (l : List (Key × V)), noFK xs = true → RepK K C F π xs l → RepK K C2 F π xs l
  | [], _, _, r => r
  | (k, x) :: xs, vs, n, r => by
    obtain ⟨v, t, e, q1, q2⟩ := r
    obtain ⟨n1, n2⟩ := Bool.and_eq_true_iff.mp n
    exact ⟨v, t, e, rep_fv h1 h2 x v n1 q1, repK_fv h1 h2 xs t n2 q2⟩
theorem repT_fv (h1 : C2.cls = C.cls) (h2 : C2.ns = C.ns ∧ C2.xc = C.xc) : ∀ (xs : List (List Key × D)) (l : List (List Key × V)), noFT xs = true → RepT K C F π xs l → RepT K C2 F π xs l
  | [], _, _, r => r
  | (k, x) :: xs, vs, n, r => by
    obtain ⟨v, t, e, q1, q2⟩ := r
    obtain ⟨n1, n2⟩ := Bool.and_eq_true_iff.mp n
    exact ⟨v, t, e, rep_fv h1 h2 x v n1 q1, repT_fv h1 h2 xs t n2 q2⟩
theorem repF_fv (h1 : C2.cls = C.cls) (h2 : C2.ns = C.ns ∧ C2.xc = C.xc) : ∀ (xs : List (Str × D)) (l : List (Str × V)), noFF xs = true → RepF K C F π xs l → RepF K C2 F π xs l
  | [], _, _, r => r
  | (k, x) :: xs, vs, n, r => by
    obtain ⟨v, t, e, q1, q2⟩ := r
    obtain ⟨n1, n2⟩ := Bool.and_eq_true_iff.mp n
    exact ⟨v, t, e, rep_fv h1 h2 x v n1 q1, repF_fv h1 h2 xs t n2 q2⟩
end
variable {Λ : Lk} {S : List Ob} {H H' : Hp}
theorem Wd.noF (h : C.fv = none) (w : Wd K C Λ F π S H) (k : Nat) (o : Ob) (e : S[k]? = some o) : noFO o = true := by
  have hk : k < π.length := by
    rw [w.len]
    exact (List.getElem?_eq_some_iff.mp e).1
  exact obR_noF h (w.ob k o _ e (List.getElem?_eq_getElem hk))
theorem Wd.at (w : Wd K C Λ F π S H) {k : Nat} {o : Ob} (h : S[k]? = some o) : ∃ p, π[k]? = some p ∧ ObR K C F π (Λ k) H p o := by
  have hk : k < π.length := by
    rw [w.len]
    exact (List.getElem?_eq_some_iff.mp h).1
  exact ⟨π[k], List.getElem?_eq_getElem hk, w.ob k o _ h (List.getElem?_eq_getElem hk)⟩
theorem Wd.obj (w : Wd K C Λ F π S H) {k : Nat} {p : Addr} (h : π[k]? = some p) : ∃ o, S[k]? = some o ∧ ObR K C F π (Λ k) H p o := by
  have hk : k < S.length := by
    rw [← w.len]
    exact (List.getElem?_eq_some_iff.mp h).1
  exact ⟨S[k], List.getElem?_eq_getElem hk, w.ob k _ _ (List.getElem?_eq_getElem hk) h⟩
theorem Wd.notin (w : Wd K C Λ F π S H) {p : Addr} (h : H p = none) : p ∉ π := fun hm => by
  obtain ⟨k, hk, e⟩ := List.mem_iff_getElem.mp hm
  obtain ⟨o, _, q⟩ := w.obj (k := k) (p := p) (by rw [List.getElem?_eq_getElem hk, e])
  obtain ⟨x, hx⟩ := q.there
  rw [h] at hx
  cases hx
theorem Wd.frozen (w : Wd K C Λ F π S H) {p : Addr} (h : H p = none) : F p = none := Same.free w.ext h
theorem same_new {p : Addr} {o : HO} (h : F p = none) : Same F (upd F p o) := fun a u e => by
  rw [upd_ne (ne_of_none e h)]
  exact e
theorem same_upd {p : Addr} {o : HO} (e : Same F F') : Same (upd F p o) (upd F' p o) := fun a u h => by
  by_cases q : a = p
  · subst q
    rw [upd_same] at h ⊢
    exact h
  · rw [upd_ne q] at h ⊢
    exact e a u h
theorem Wd.tree (w : Wd K C Λ F π S H) {p : Addr} {o : HO} (h : H p = none) (no : ∀ ps, o ≠ .tbl ps := by intro _ h; cases h) : Wd K C Λ (upd F p o) π S (upd H p o) where
  tb := fun t ht => (w.tb t ht).ext fun b u e => (upd_ne (ne_of_none e h)).trans e
  nt := fun a ps e => by
    by_cases q : a = p
    · subst q
      rw [upd_same] at e
      exact no ps (Option.some.inj e)
    · rw [upd_ne q] at e
      exact w.nt a ps e
  ext := same_upd w.ext
  len := w.len
  nd := w.nd
  fr := fun q hq => by
    have e : q ≠ p := fun e => w.notin h (by rw [← e]; exact hq)
    rw [upd_ne e]
    exact w.fr q hq
  ob := fun k ob q h1 h2 => by
    refine ObR.mono (same_new (w.frozen h)) (List.prefix_refl _) (ObR.heap (upd_ne fun e => ?_) (w.ob k ob q h1 h2))
    exact w.notin h (e ▸ List.mem_of_getElem? h2)
theorem Wd.junk (w : Wd K C Λ F π S H) (e : Same H H') : Wd K C Λ F π S H' where
  tb := fun t ht => (w.tb t ht).ext e
  nt := w.nt
  ext := w.ext.trans e
  len := w.len
  nd := w.nd
  fr := w.fr
  ob := fun k ob q h1 h2 => by
    have r := w.ob k ob q h1 h2
    obtain ⟨x, hx⟩ := r.there
    exact ObR.heap ((e _ _ hx).trans hx.symm) r
theorem Wd.new (w : Wd K C Λ F π S H) {p : Addr} {o : HO} {ob : Ob} (h : H p = none) (r : ObR K C F (π ++ [p]) (Λ S.length) (upd H p o) p ob) : Wd K C Λ F (π ++ [p]) (S ++ [ob]) (upd H p o) where
  tb := fun t ht => (w.tb t ht).ext fun b u e => (upd_ne (ne_of_none e h)).trans e
  nt := w.nt
  ext := w.ext.trans (same_new h)
  len := by rw [List.length_append, List.length_append, w.len]; rfl
  nd := by
    refine List.nodup_append.mpr ⟨w.nd, by simp, fun a ha b hb => ?_⟩
    rw [List.mem_singleton.mp hb]
    exact fun e => w.notin h (e ▸ ha)
  fr := fun q hq => by
    rcases List.mem_append.mp hq with hq | hq
    · exact w.fr q hq
    · rw [List.mem_singleton.mp hq]
      exact w.frozen h
  ob := fun k o2 q h1 h2 => by
    by_cases hk : k < S.length
    · rw [List.getElem?_append_left hk] at h1
      have hk' : k < π.length := by rw [w.len]; exact hk
      rw [List.getElem?_append_left hk'] at h2
      refine ObR.mono (fun _ _ z => z) (List.prefix_append _ _) (ObR.heap (upd_ne fun e => ?_) (w.ob k o2 q h1 h2))
      exact w.notin h (e ▸ List.mem_of_getElem? h2)
    · have hl := (List.getElem?_eq_some_iff.mp h1).1
      rw [List.length_append, List.length_singleton] at hl
      have e : k = S.length := by omega
      subst e
      rw [List.getElem?_append_right (Nat.le_refl _), Nat.sub_self] at h1
      rw [← w.len, List.getElem?_append_right (Nat.le_refl _), Nat.sub_self] at h2
      cases h1
      cases h2
      exact r
theorem nodup_at {l : List Addr} (h : l.Nodup) {i j : Nat} {a : Addr} (hi : l[i]? = some a) (hj : l[j]? = some a) : i = j := by
  obtain ⟨h1, e1⟩ := List.getElem?_eq_some_iff.mp hi
  obtain ⟨h2, e2⟩ := List.getElem?_eq_some_iff.mp hj
  exact (List.getElem_inj h).mp (e1.trans e2.symm)
theorem Wd.put (w : Wd K C Λ F π S H) {k : Nat} {p : Addr} {o : HO} {ob : Ob} (hp : π[k]? = some p) (r : ObR K C F π (Λ k) (upd H p o) p ob) : Wd K C Λ F π (S.set k ob) (upd H p o) where
  tb := fun t ht => TabS.stay (w.tb t ht) fun b u e n => by
    refine (upd_ne fun z => ?_).trans e
    subst z
    obtain ⟨ob2, _, q⟩ := w.obj hp
    exact ObR.plain e n q
  nt := w.nt
  ext := fun a u e => by
    rw [upd_ne (ne_of_none e (w.fr p (List.mem_of_getElem? hp)))]
    exact w.ext a u e
  len := by rw [List.length_set]; exact w.len
  nd := w.nd
  fr := w.fr
  ob := fun j o2 q h1 h2 => by
    by_cases e : j = k
    · subst e
      rw [hp] at h2
      cases h2
      have hj : j < S.length := by
        have := (List.getElem?_eq_some_iff.mp h1).1
        rwa [List.length_set] at this
      rw [List.getElem?_set_self hj] at h1
      cases h1
      exact r
    · rw [List.getElem?_set_ne (fun z => e z.symm)] at h1
      exact ObR.heap (upd_ne fun z => e (nodup_at w.nd (z ▸ h2) hp)) (w.ob j o2 q h1 h2)
end
structure Ext (F : Hp) (π : List Addr) (H : Hp) (F' : Hp) (π' : List Addr) (H' : Hp) : Prop where
  f : Same F F'
  p : π <+: π'
  k : ∀ a o, H a = some o → a ∉ π → (∀ ps, o ≠ .tbl ps) → H' a = some o
  n : ∀ a o, H a = some o → a ∉ π → a ∉ π'
  m : ∀ a o, H a = some o → a ∉ π → F a = none → (∀ ps, o ≠ .tbl ps) → (∃ us, o = .tup us) ∨ F' a = none
  th : ∀ a o, H a = some o → a ∉ π → ∃ o', H' a = some o'
structure Sub (F : Hp) (π : List Addr) (F' : Hp) (π' : List Addr) : Prop where
  f : Same F F'
  p : π <+: π'
theorem Ext.sub {F F' : Hp} {π π' : List Addr} {H H' : Hp} (e : Ext F π H F' π' H') : Sub F π F' π' := ⟨e.f, e.p⟩
theorem Sub.trans {F F1 F2 : Hp} {π π1 π2 : List Addr} (a : Sub F π F1 π1) (b : Sub F1 π1 F2 π2) : Sub F π F2 π2 := ⟨a.f.trans b.f, a.p.trans b.p⟩
theorem Ext.refl (F : Hp) (π : List Addr) (H : Hp) : Ext F π H F π H := ⟨Same.refl _, List.prefix_refl _, fun _ _ h _ _ => h, fun _ _ _ h => h, fun _ _ _ _ h _ => .inr h, fun _ o h _ => ⟨o, h⟩⟩
theorem Ext.trans {F F1 F2 : Hp} {π π1 π2 : List Addr} {H H1 H2 : Hp} (a : Ext F π H F1 π1 H1) (b : Ext F1 π1 H1 F2 π2 H2) : Ext F π H F2 π2 H2 :=
  ⟨a.f.trans b.f, a.p.trans b.p, fun x o h n t => b.k x o (a.k x o h n t) (a.n x o h n) t, fun x o h n => let ⟨o', h'⟩ := a.th x o h n; b.n x o' h' (a.n x o h n),
    fun x o h n z t => (a.m x o h n z t).elim .inl fun y => b.m x o (a.k x o h n t) (a.n x o h n) y t, fun x o h n => let ⟨o', h'⟩ := a.th x o h n; b.th x o' h' (a.n x o h n)⟩
theorem Ext.mL {F F' : Hp} {π π' : List Addr} {H H' : Hp} (e : Ext F π H F' π' H') {a : Addr} {vs : List V} (h : H a = some (.lst vs)) (n : a ∉ π) (z : F a = none) : F' a = none := (e.m a _ h n z nofun).resolve_left fun ⟨_, q⟩ => nomatch q
theorem Ext.tree {F : Hp} {π : List Addr} {H : Hp} {p : Addr} {o : HO} (h : H p = none) (hf : F p = none) : Ext F π H (upd F p o) π (upd H p o) :=
  ⟨same_new hf, List.prefix_refl _, fun a u q _ _ => (upd_ne (ne_of_none q h)).trans q, fun _ _ _ n => n, fun a u q _ z _ => .inr ((upd_ne (ne_of_none q h)).trans z), fun a u q _ => ⟨u, (upd_ne (ne_of_none q h)).trans q⟩⟩
theorem Ext.junk {F : Hp} {π : List Addr} {H H' : Hp} (h : Same H H') : Ext F π H F π H' :=
  ⟨Same.refl _, List.prefix_refl _, fun a u q _ _ => h _ _ q, fun _ _ _ n => n, fun a u q _ z _ => .inr z, fun a u q _ => ⟨u, h _ _ q⟩⟩
theorem Ext.new {F : Hp} {π : List Addr} {H : Hp} {p : Addr} {o : HO} (h : H p = none) : Ext F π H F (π ++ [p]) (upd H p o) :=
  ⟨Same.refl _, List.prefix_append _ _, fun a u q _ _ => (upd_ne (ne_of_none q h)).trans q, fun a u q n z => by
    rcases List.mem_append.mp z with z | z
    · exact n z
    · rw [List.mem_singleton.mp z, h] at q
      exact (nomatch q), fun a u q _ z _ => .inr z, fun a u q _ => ⟨u, (upd_ne (ne_of_none q h)).trans q⟩⟩
theorem Ext.put {F : Hp} {π : List Addr} {H : Hp} {k : Nat} {p : Addr} {o : HO} (h : π[k]? = some p) : Ext F π H F π (upd H p o) :=
  ⟨Same.refl _, List.prefix_refl _, fun a u q n _ => (upd_ne fun z => n (by rw [z]; exact List.mem_of_getElem? h)).trans q, fun _ _ _ n => n, fun a u q _ z _ => .inr z,
    fun a u q n => ⟨u, (upd_ne fun z => n (by rw [z]; exact List.mem_of_getElem? h)).trans q⟩⟩
abbrev SE := List (Option D)
def EnvR (K : PySem.W.Frag) (C : Ctx) (F : Hp) (π : List Addr) (σ : L2.St) (E : SE) : Prop :=
  E.length = σ.length ∧ ∀ (i : Nat) (d : D), E[i]? = some (some d) → ∃ v, σ[i]? = some (some v) ∧ Rep K C F π d v
section
variable {K : PySem.W.Frag} {C : Ctx} {F F' : Hp} {π π' : List Addr} {σ : L2.St} {E : SE}
theorem EnvR.mono (e : Same F F') (h : π <+: π') (r : EnvR K C F π σ E) : EnvR K C F' π' σ E :=
  ⟨r.1, fun i d q => let ⟨v, a, b⟩ := r.2 i d q; ⟨v, a, Rep.mono e h d v b⟩⟩
theorem EnvR.set (r : EnvR K C F π σ E) (i : Nat) {d : D} {v : V} (q : Rep K C F π d v) : EnvR K C F π (σ.set i (some v)) (E.set i (some d)) := by
  refine ⟨by rw [List.length_set, List.length_set]; exact r.1, fun j d' h => ?_⟩
  by_cases e : i = j
  · subst e
    have hi : i < E.length := by
      have := (List.getElem?_eq_some_iff.mp h).1
      rwa [List.length_set] at this
    rw [List.getElem?_set_self hi] at h
    cases h
    exact ⟨v, by rw [List.getElem?_set_self (by rw [← r.1]; exact hi)], q⟩
  · rw [List.getElem?_set_ne e] at h ⊢
    exact r.2 j d' h
theorem EnvR.clear (r : EnvR K C F π σ E) (i : Nat) (x : Option V) : EnvR K C F π (σ.set i x) (E.set i none) := by
  refine ⟨by rw [List.length_set, List.length_set]; exact r.1, fun j d' h => ?_⟩
  by_cases e : i = j
  · subst e
    have hi : i < E.length := by
      have := (List.getElem?_eq_some_iff.mp h).1
      rwa [List.length_set] at this
    rw [List.getElem?_set_self hi] at h
    cases h
  · rw [List.getElem?_set_ne e] at h ⊢
    exact r.2 j d' h
def wipeE (E : SE) : List Nat → SE
  | [] => E
  | v :: vs => (wipeE E vs).set v none
theorem EnvR.wipe (r : EnvR K C F π σ E) : ∀ vs : List Nat, EnvR K C F π (L2.wipe σ vs) (wipeE E vs)
  | [] => r
  | v :: vs => (EnvR.wipe r vs).clear v none
end
abbrev DF (α : Type) := SE → List Ob → Option (α × List Ob)
inductive Out where
  | nx (E : SE) | rt (d : D) | bk (E : SE) | ct (E : SE)
abbrev DFS := SE → List Ob → Option (Out × List Ob)
section
variable (K : PySem.W.Frag) (C : Ctx)
def Post (Λ : Lk) (F : Hp) (π : List Addr) (H : Hp) (S' : List Ob) (d : D) (Q : VK) : Prop :=
  ∀ v F' π' H', Ext F π H F' π' H' → Wd K C Λ F' π' S' H' → Rep K C F' π' d v → Q v H'
def PostA (Λ : Lk) (F : Hp) (π : List Addr) (H : Hp) (S' : List Ob) (ds : List D) (Q : List V → Hp → Prop) : Prop :=
  ∀ vs F' π' H', Ext F π H F' π' H' → Wd K C Λ F' π' S' H' → RepA K C F' π' ds vs → Q vs H'
def PostB (Λ : Lk) (F : Hp) (π : List Addr) (H : Hp) (S' : List Ob) (b : Bool) (Q : Bool → Hp → Prop) : Prop :=
  ∀ F' π' H', Ext F π H F' π' H' → Wd K C Λ F' π' S' H' → Q b H'
def PostO (Λ : Lk) (F : Hp) (π : List Addr) (H : Hp) (S' : List Ob) (b : Option Int) (Q : Option Int → Hp → Prop) : Prop :=
  ∀ F' π' H', Ext F π H F' π' H' → Wd K C Λ F' π' S' H' → Q b H'
def PostS (Λ : Lk) (F : Hp) (π : List Addr) (H : Hp) (S' : List Ob) (o : Out) (Dn : Ends) : Prop :=
  match o with
  | .nx E' => ∀ σ' F' π' H', Ext F π H F' π' H' → Wd K C Λ F' π' S' H' → EnvR K C F' π' σ' E' → Dn.nx σ' H'
  | .rt d => Post K C Λ F π H S' d Dn.rt
  | .bk E' => ∀ σ' F' π' H', Ext F π H F' π' H' → Wd K C Λ F' π' S' H' → EnvR K C F' π' σ' E' → Dn.bk σ' H'
  | .ct E' => ∀ σ' F' π' H', Ext F π H F' π' H' → Wd K C Λ F' π' S' H' → EnvR K C F' π' σ' E' → Dn.ct σ' H'
structure At (Λ : Lk) (F : Hp) (π : List Addr) (S : List Ob) (H : Hp) (σ : L2.St) (E : SE) : Prop where
  w : Wd K C Λ F π S H
  r : EnvR K C F π σ E
def Snd (t : TE) (f : DF D) : Prop := ∀ E S d S', f E S = some (d, S') → ∀ Λ F π H σ, At K C Λ F π S H σ E → ∀ Q : VK, Post K C Λ F π H S' d Q → t σ H Q
def SndA (t : TA) (f : DF (List D)) : Prop := ∀ E S d S', f E S = some (d, S') → ∀ Λ F π H σ, At K C Λ F π S H σ E → ∀ Q : List V → Hp → Prop, PostA K C Λ F π H S' d Q → t σ H Q
def SndT (t : TT) (f : DF Bool) : Prop := ∀ E S d S', f E S = some (d, S') → ∀ Λ F π H σ, At K C Λ F π S H σ E → ∀ Q : Bool → Hp → Prop, PostB K C Λ F π H S' d Q → t σ H Q
def SndS (t : TS) (f : DFS) : Prop := ∀ E S o S', f E S = some (o, S') → ∀ Λ F π H σ, At K C Λ F π S H σ E → ∀ Dn : Ends, PostS K C Λ F π H S' o Dn → t Dn σ H
end
def DE (X : Cx) (C : Ctx) (e : Expr) (f : DF D) : Prop := ∃ t, PE X e t ∧ Snd X.K C t f
def DA (X : Cx) (C : Ctx) (es : List Expr) (f : DF (List D)) : Prop := ∃ t, PA X es t ∧ SndA X.K C t f
def DT (X : Cx) (C : Ctx) (e : Expr) (f : DF Bool) : Prop := ∃ t, PT X e t ∧ SndT X.K C t f
def DSt (X : Cx) (C : Ctx) (s : Stmt) (f : DFS) : Prop := ∃ t, PS X s t ∧ SndS X.K C t f
def DB (X : Cx) (C : Ctx) (s : List Stmt) (f : DFS) : Prop := ∃ t, PSs X s t ∧ SndS X.K C t f
section
variable {K : PySem.W.Frag} {C : Ctx} {Λ : Lk} {F F' : Hp} {π π' : List Addr} {H H' : Hp} {S S' : List Ob} {d : D} {Q : VK}
theorem Post.step (p : Post K C Λ F π H S' d Q) (e : Ext F π H F' π' H') : Post K C Λ F' π' H' S' d Q := fun v F2 π2 H2 e2 => p v F2 π2 H2 (e.trans e2)
theorem PostA.step {ds : List D} {Q : List V → Hp → Prop} (p : PostA K C Λ F π H S' ds Q) (e : Ext F π H F' π' H') : PostA K C Λ F' π' H' S' ds Q := fun v F2 π2 H2 e2 => p v F2 π2 H2 (e.trans e2)
theorem PostB.step {b : Bool} {Q : Bool → Hp → Prop} (p : PostB K C Λ F π H S' b Q) (e : Ext F π H F' π' H') : PostB K C Λ F' π' H' S' b Q := fun F2 π2 H2 e2 => p F2 π2 H2 (e.trans e2)
theorem PostO.step {b : Option Int} {Q : Option Int → Hp → Prop} (p : PostO K C Λ F π H S' b Q) (e : Ext F π H F' π' H') : PostO K C Λ F' π' H' S' b Q := fun F2 π2 H2 e2 => p F2 π2 H2 (e.trans e2)
theorem PostS.step : ∀ {o : Out} {Dn : Ends}, PostS K C Λ F π H S' o Dn → Ext F π H F' π' H' → PostS K C Λ F' π' H' S' o Dn
  | .nx _, _, p, e => fun σ F2 π2 H2 e2 => p σ F2 π2 H2 (e.trans e2)
  | .rt _, _, p, e => Post.step p e
  | .bk _, _, p, e => fun σ F2 π2 H2 e2 => p σ F2 π2 H2 (e.trans e2)
  | .ct _, _, p, e => fun σ F2 π2 H2 e2 => p σ F2 π2 H2 (e.trans e2)
theorem At.step {σ : L2.St} {E : SE} (a : At K C Λ F π S H σ E) (e : Ext F π H F' π' H') (w : Wd K C Λ F' π' S' H') : At K C Λ F' π' S' H' σ E := ⟨w, a.r.mono e.f e.p⟩
theorem Post.val {v : V} (p : Post K C Λ F π H S d Q) (w : Wd K C Λ F π S H) (r : Rep K C F π d v) : Q v H := p v F π H (Ext.refl _ _ _) w r
end
end DL
set_option Elab.async false
set_option linter.all false
set_option maxRecDepth 100000
set_option maxHeartbeats 2000000
namespace DL
open PySem PySem.Spec PyProof.Rows L2
theorem OpR.or {X : Cx} {f : Value → Value → Sem Value} {r r' : R2} (h : OpR X f r) (h' : OpR X f r') : OpR X f (fun x y H Q => r x y H Q ∨ r' x y H Q) := by
  intro pins s σ H x y v u Q I rx ry q
  rcases q with q | q
  · exact h pins s σ H x y v u Q I rx ry q
  · exact h' pins s σ H x y v u Q I rx ry q
def lstOf (S : List Ob) : D → Option (List D)
  | .lst xs => some xs
  | .ptr k => match S[k]? with
    | some (.lst xs) => some xs
    | _ => none
  | _ => none
section
variable {K : PySem.W.Frag} {C : Ctx} {Λ : Lk} {F F' : Hp} {π π' : List Addr} {S S' : List Ob} {H H' : Hp} {d : D} {v : V} {xs : List D}
theorem lstOf_ok (w : Wd K C Λ F π S H) (r : Rep K C F π d v) (h : lstOf S d = some xs) : ∃ a vs, v = .ref a ∧ H a = some (.lst vs) ∧ RepA K C F π xs vs := by
  cases d with
  | lst ys =>
    cases h
    obtain ⟨a, vs, q1, q2, q3⟩ := r
    exact ⟨a, vs, q1, w.ext _ _ q2, q3⟩
  | ptr k =>
    obtain ⟨a, q1, q2⟩ := r
    obtain ⟨o, q3, q4⟩ := w.obj q2
    have h : (match S[k]? with
      | some (.lst xs) => some xs
      | _ => none) = some xs := h
    rw [q3] at h
    cases o with
    | lst ys =>
      cases h
      obtain ⟨vs, q5, q6⟩ := q4
      exact ⟨a, vs, q1, q5, q6⟩
    | _ => cases h
  | _ => cases h
def tupOf : D → Option (List D)
  | .tup xs => some xs
  | .ktp xs => some xs
  | _ => none
theorem tup_ok (w : Wd K C Λ F π S H) (r : Rep K C F π d v) (h : tupOf d = some xs) : ∃ a vs, v = .ref a ∧ SqT K H a vs ∧ RepA K C F π xs vs := by
  cases d with
  | tup ys =>
    cases h
    obtain ⟨a, vs, q1, q2, q3⟩ := r
    exact ⟨a, vs, q1, .inl (.inl (w.ext _ _ q2)), q3⟩
  | ktp ys =>
    cases h
    obtain ⟨a, vs, q1, q2, q4⟩ := r
    exact ⟨a, vs, q1, (q2.same w.ext).sq, q4⟩
  | _ => cases h
def seqOf (S : List Ob) (d : D) : Option (List D) := match tupOf d with
  | some xs => some xs
  | none => lstOf S d
theorem seqOf_ok (w : Wd K C Λ F π S H) (r : Rep K C F π d v) (h : seqOf S d = some xs) : ∃ a vs, v = .ref a ∧ (SqL K H a vs ∨ SqT K H a vs) ∧ RepA K C F π xs vs := by
  unfold seqOf at h
  split at h
  · rename_i ys hy
    cases h
    obtain ⟨a, vs, q1, q2, q3⟩ := tup_ok w r hy
    exact ⟨a, vs, q1, .inr q2, q3⟩
  · obtain ⟨a, vs, q1, q2, q3⟩ := lstOf_ok w r h
    exact ⟨a, vs, q1, .inl (.inl (.inl q2)), q3⟩
theorem same_mid {p : Addr} {o : HO} (e : Same F H) (h : H p = some o) : Same (upd F p o) H := fun a u q => by
  by_cases z : a = p
  · subst z
    rw [upd_same] at q
    cases q
    exact h
  · rw [upd_ne z] at q
    exact e a u q
theorem Wd.freeze (w : Wd K C Λ F π S H) {p : Addr} {o : HO} (hf : F p = none) (hp : p ∉ π) (h : H p = some o) (no : ∀ ps, o ≠ .tbl ps := by intro _ h; cases h) : Wd K C Λ (upd F p o) π S H where
  tb := w.tb
  nt := fun a ps e => by
    by_cases q : a = p
    · subst q
      rw [upd_same] at e
      exact no ps (Option.some.inj e)
    · rw [upd_ne q] at e
      exact w.nt a ps e
  ext := same_mid w.ext h
  len := w.len
  nd := w.nd
  fr := fun q hq => by
    have e : q ≠ p := fun e => hp (by rw [← e]; exact hq)
    rw [upd_ne e]
    exact w.fr q hq
  ob := fun k ob q h1 h2 => ObR.mono (same_new hf) (List.prefix_refl _) (w.ob k ob q h1 h2)
theorem Wd.adopt (w : Wd K C Λ F π S H) {p : Addr} {ob : Ob} (hf : F p = none) (hp : p ∉ π) (r : ObR K C F (π ++ [p]) (Λ S.length) H p ob) : Wd K C Λ F (π ++ [p]) (S ++ [ob]) H where
  tb := w.tb
  nt := w.nt
  ext := w.ext
  len := by rw [List.length_append, List.length_append, w.len]; rfl
  nd := by
    refine List.nodup_append.mpr ⟨w.nd, by simp, fun a ha b hb => ?_⟩
    rw [List.mem_singleton.mp hb]
    exact fun e => hp (e ▸ ha)
  fr := fun q hq => by
    rcases List.mem_append.mp hq with hq | hq
    · exact w.fr q hq
    · rw [List.mem_singleton.mp hq]
      exact hf
  ob := fun k o2 q h1 h2 => by
    by_cases hk : k < S.length
    · rw [List.getElem?_append_left hk] at h1
      have hk' : k < π.length := by rw [w.len]; exact hk
      rw [List.getElem?_append_left hk'] at h2
      exact ObR.mono (fun _ _ z => z) (List.prefix_append _ _) (w.ob k o2 q h1 h2)
    · have hl := (List.getElem?_eq_some_iff.mp h1).1
      rw [List.length_append, List.length_singleton] at hl
      have e : k = S.length := by omega
      subst e
      rw [List.getElem?_append_right (Nat.le_refl _), Nat.sub_self] at h1
      rw [← w.len, List.getElem?_append_right (Nat.le_refl _), Nat.sub_self] at h2
      cases h1
      cases h2
      exact r
end
section
variable (K : PySem.W.Frag) (C : Ctx)
def PostN (Λ : Lk) (F : Hp) (π : List Addr) (H : Hp) (S' : List Ob) (xs : List D) (Q : VK) : Prop :=
  ∀ p vs F' π' H', Ext F π H F' π' H' → Wd K C Λ F' π' S' H' → H p = none → F' p = none → p ∉ π' → H' p = some (.lst vs) → RepA K C F' π' xs vs → Q (.ref p) H'
def SndN (t : TE) (f : DF (List D)) : Prop := ∀ E S xs S', f E S = some (xs, S') → ∀ Λ F π H σ, At K C Λ F π S H σ E → ∀ Q : VK, PostN K C Λ F π H S' xs Q → t σ H Q
end
def DN (X : Cx) (C : Ctx) (e : Expr) (f : DF (List D)) : Prop := ∃ t, PE X e t ∧ SndN X.K C t f
section
variable {K : PySem.W.Frag} {C : Ctx} {Λ : Lk} {F F' : Hp} {π π' : List Addr} {S S' : List Ob} {H H' : Hp} {xs : List D} {Q : VK}
theorem PostN.step (p : PostN K C Λ F π H S' xs Q) (e : Ext F π H F' π' H') : PostN K C Λ F' π' H' S' xs Q := fun a vs F2 π2 H2 e2 w n hf hp => by
  refine p a vs F2 π2 H2 (e.trans e2) w ?_ hf hp
  cases q : H a with
  | none => rfl
  | some o =>
    have z : a ∉ π := fun z => hp ((e.p.trans e2.p).subset z)
    obtain ⟨o', q'⟩ := e.th a o q z
    rw [q'] at n
    cases n
theorem Post.tree (p : Post K C Λ F π H S' (.lst xs) Q) : PostN K C Λ F π H S' xs Q := fun a vs F2 π2 H2 e w n hf hp ha r =>
  p (.ref a) (upd F2 a (.lst vs)) π2 H2 ⟨e.f.trans (same_new hf), e.p, e.k, e.n, fun x o h z q t => (e.m x o h z q t).imp id fun y => (upd_ne (ne_of_none h n)).trans y, e.th⟩ (w.freeze hf hp ha) ⟨a, vs, rfl, upd_same, RepA.mono (same_new hf) (List.prefix_refl _) _ _ r⟩
theorem Post.new (p : Post K C Λ F π H (S' ++ [.lst xs]) (.ptr S'.length) Q) : PostN K C Λ F π H S' xs Q := fun a vs F2 π2 H2 e w n hf hp ha r =>
  p (.ref a) F2 (π2 ++ [a]) H2 ⟨e.f, e.p.trans (List.prefix_append _ _), e.k, fun x o h z q => by
      rcases List.mem_append.mp q with q | q
      · exact e.n x o h z q
      · rw [List.mem_singleton.mp q, n] at h
        exact (nomatch h), e.m, e.th⟩ (w.adopt hf hp ⟨vs, ha, RepA.mono (Same.refl _) (List.prefix_append _ _) _ _ r⟩)
    ⟨a, rfl, by rw [← w.len, List.getElem?_append_right (Nat.le_refl _), Nat.sub_self]; rfl⟩
theorem PostN.at (p : PostN K C Λ F π H S' xs Q) {a : Addr} {vs : List V} (w : Wd K C Λ F π S' H) (h : H a = none) (r : RepA K C F π xs vs) : Q (.ref a) (upd H a (.lst vs)) :=
  p a vs F π (upd H a (.lst vs)) (Ext.junk (same_new h)) (w.junk (same_new h)) h (w.frozen h) (w.notin h) upd_same r
theorem Post.tupAt {ds : List D} (p : Post K C Λ F π H S' (.tup ds) Q) {a : Addr} {vs : List V} (w : Wd K C Λ F π S' H) (h : H a = none) (r : RepA K C F π ds vs) : Q (.ref a) (upd H a (.tup vs)) :=
  p (.ref a) (upd F a (.tup vs)) π (upd H a (.tup vs)) (Ext.tree h (w.frozen h)) (w.tree h) ⟨a, vs, rfl, upd_same, RepA.mono (same_new (w.frozen h)) (List.prefix_refl _) _ _ r⟩
end
section
variable {X : Cx} {C : Ctx} {e a b : Expr} {f fa fb : DF D} {pos : Pos}
def dTree (f : DF (List D)) : DF D := fun E S => (f E S).map fun p => (.lst p.1, p.2)
def dNew (f : DF (List D)) : DF D := fun E S => (f E S).map fun p => (.ptr p.2.length, p.2 ++ [.lst p.1])
theorem de_tree {f : DF (List D)} (h : DN X C e f) : DE X C e (dTree f) := by
  obtain ⟨t, h1, h2⟩ := h
  refine ⟨t, h1, fun E S d S' q Λ F π H σ w Q p => ?_⟩
  obtain ⟨⟨xs, S1⟩, q1, q2⟩ := Option.map_eq_some_iff.mp q
  cases q2
  exact h2 E S xs S1 q1 Λ F π H σ w Q p.tree
theorem de_new {f : DF (List D)} (h : DN X C e f) : DE X C e (dNew f) := by
  obtain ⟨t, h1, h2⟩ := h
  refine ⟨t, h1, fun E S d S' q Λ F π H σ w Q p => ?_⟩
  obtain ⟨⟨xs, S1⟩, q1, q2⟩ := Option.map_eq_some_iff.mp q
  cases q2
  exact h2 E S xs S1 q1 Λ F π H σ w Q p.new
def dVar (i : Nat) : DF D := fun E S => match E[i]? with
  | some (some d) => some (d, S)
  | _ => none
theorem de_var (i : Nat) {x : Str} (hN : X.N[i]? = some x := by rfl) (hv : Vis X.env.scope x := by first | exact Or.inl rfl | exact Or.inr (Or.inl rfl) | exact Or.inr (Or.inr rfl)) (hd : (x == ("__debug__" : Str)) = false := by decide)
    (hcd : (x == ("__classdict__" : Str)) = false := by decide) : DE X C (.Name x pos) (dVar i) := by
  refine ⟨_, pe_var hN hv hd hcd, fun E S d S' q Λ F π H σ w Q p => ?_⟩
  unfold dVar at q
  split at q
  · rename_i d' h
    cases q
    obtain ⟨v, h1, h2⟩ := w.r.2 i d h
    exact ⟨v, h1, p.val w.w h2⟩
  · cases q
def dC (d : D) : DF D := fun _ S => some (d, S)
theorem de_c {t : TE} {d : D} {v : V} (h : PE X e (tC v)) (r : ∀ F π, Rep X.K C F π d v) : DE X C e (dC d) := by
  refine ⟨_, h, fun E S d' S' q Λ F π H σ w Q p => ?_⟩
  cases q
  exact p.val w.w (r F π)
theorem de_int {i : Int} {j} : DE X C (.Constant (.int i) j pos) (dC (.int i)) := de_c (t := tC (.int i)) pe_int fun _ _ => rfl
theorem de_bl {i : Bool} {j} : DE X C (.Constant (.bool i) j pos) (dC (.bl i)) := de_c (t := tC (.bl i)) pe_bl fun _ _ => rfl
theorem de_str {i : Str} {j} : DE X C (.Constant (.str i) j pos) (dC (.str i)) := de_c (t := tC (.str i)) pe_str fun _ _ => rfl
theorem de_non {j} : DE X C (.Constant .none j pos) (dC .non) := de_c (t := tC .non) pe_non fun _ _ => rfl
def Op2 (K : PySem.W.Frag) (C : Ctx) (r : R2) (g : List Ob → D → D → Option D) : Prop :=
  ∀ Λ F π S H dx dy x y d, g S dx dy = some d → Wd K C Λ F π S H → Rep K C F π dx x → Rep K C F π dy y → ∀ Q : VK, Post K C Λ F π H S d Q → r x y H Q
def dBin (g : List Ob → D → D → Option D) (fa fb : DF D) : DF D := fun E S =>
  (fa E S).bind fun p => (fb E p.2).bind fun q => (g q.2 p.1 q.1).map fun d => (d, q.2)
theorem snd_bin {K : PySem.W.Frag} {r : R2} {g : List Ob → D → D → Option D} {ta tb : TE} (ho : Op2 K C r g) (ha : Snd K C ta fa) (hb : Snd K C tb fb) : Snd K C (tOp r ta tb) (dBin g fa fb) := by
  intro E S d S' q Λ F π H σ w Q p
  obtain ⟨⟨x, S1⟩, q1, q⟩ := Option.bind_eq_some_iff.mp q
  obtain ⟨⟨y, S2⟩, q2, q⟩ := Option.bind_eq_some_iff.mp q
  obtain ⟨d', q3, q⟩ := Option.map_eq_some_iff.mp q
  cases q
  refine ha E S x S1 q1 Λ F π H σ w _ fun v F1 π1 H1 e1 w1 r1 => ?_
  refine hb E S1 y _ q2 Λ F1 π1 H1 σ (w.step e1 w1) _ fun u F2 π2 H2 e2 w2 r2 => ?_
  exact ho Λ F2 π2 _ H2 x y v u d q3 w2 (Rep.mono e2.f e2.p _ _ r1) r2 Q (p.step (e1.trans e2))
theorem de_op {op : Operator} {r : R2} {g : List Ob → D → D → Option D} (ho : OpR X (binaryOp op) r) (hg : Op2 X.K C r g) (ha : DE X C a fa) (hb : DE X C b fb) : DE X C (.BinOp a op b pos) (dBin g fa fb) := by
  obtain ⟨ta, a1, a2⟩ := ha
  obtain ⟨tb, b1, b2⟩ := hb
  exact ⟨_, pe_op ho a1 b1, snd_bin hg a2 b2⟩
theorem de_cmp {op : CmpOp} {r : R2} {g : List Ob → D → D → Option D} (ho : OpR X (compareOp op) r) (hg : Op2 X.K C r g) (ha : DE X C a fa) (hb : DE X C b fb) (hm : behindInMarks op b = false := by first | exact nomark _ | rfl) : DE X C (.Compare a [op] [b] pos) (dBin g fa fb) := by
  obtain ⟨ta, a1, a2⟩ := ha
  obtain ⟨tb, b1, b2⟩ := hb
  exact ⟨_, pe_cmpR ho a1 b1 hm, snd_bin hg a2 b2⟩
def dTest (f : DF D) : DF Bool := fun E S => (f E S).bind fun p => match p.1 with
  | .bl b => some (b, p.2)
  | _ => none
theorem snd_test {K : PySem.W.Frag} {t : TE} (h : Snd K C t f) : SndT K C (tTest t) (dTest f) := by
  intro E S d S' q Λ F π H σ w Q p
  obtain ⟨⟨x, S1⟩, q1, q⟩ := Option.bind_eq_some_iff.mp q
  cases x with
  | bl b =>
    cases q
    refine h E S _ S1 q1 Λ F π H σ w _ fun v F1 π1 H1 e1 w1 r1 => ?_
    exact ⟨_, r1, p F1 π1 H1 e1 w1⟩
  | _ => cases q
theorem dt_cmp {op : CmpOp} {r : R2} {g : List Ob → D → D → Option D} (ho : OpR X (compareOp op) r) (hg : Op2 X.K C r g) (ha : DE X C a fa) (hb : DE X C b fb) (hm : behindInMarks op b = false := by first | exact nomark _ | rfl) : DT X C (.Compare a [op] [b] pos) (dTest (dBin g fa fb)) := by
  obtain ⟨ta, a1, a2⟩ := ha
  obtain ⟨tb, b1, b2⟩ := hb
  exact ⟨_, pt_cmpR ho a1 b1 hm, snd_test (snd_bin hg a2 b2)⟩
theorem dt_val (h : DE X C e f) (he : ∀ whole, isTrue e X.env whole = (do let v ← whole; standAt e.pos; holding [v] (truthy v)) := by intro _; rfl) : DT X C e (dTest f) := by
  obtain ⟨t, h1, h2⟩ := h
  exact ⟨_, pt_val h1 he, snd_test h2⟩
def opAdd (S : List Ob) : D → D → Option D
  | .int i, .int j => some (.int (i + j))
  | .str x, .str y => if x.length + y.length ≤ sizeLine then some (.str (x ++ y)) else none
  | x, y => match lstOf S x, lstOf S y with
    | some a, some b => if a.length + b.length ≤ sizeLine then some (.lst (a ++ b)) else none
    | _, _ => none
abbrev rAdd3 : R2 := fun x y H Q => (rI0 fun i j => .int (i + j)) x y H Q ∨ ((fun x y H Q => ∃ i j, x = .str i ∧ y = .str j ∧ i.length + j.length ≤ sizeLine ∧ Q (.str (i ++ j)) H) x y H Q ∨ rCat x y H Q)
theorem or_add : OpR X (binaryOp .Add) rAdd3 := op_add.or (op_add_str.or op_cat)
theorem cat_case {K : PySem.W.Frag} {Λ : Lk} {F : Hp} {π : List Addr} {S : List Ob} {H : Hp} {dx dy d : D} {x y : V} {Q : VK} (w : Wd K C Λ F π S H) (rx : Rep K C F π dx x) (ry : Rep K C F π dy y)
    (h : (match lstOf S dx, lstOf S dy with
      | some a, some b => if a.length + b.length ≤ sizeLine then some (D.lst (a ++ b)) else none
      | _, _ => none) = some d) (p : Post K C Λ F π H S d Q) : rCat x y H Q := by
  split at h
  · rename_i xs ys hx hy
    split at h
    · rename_i hz
      cases h
      obtain ⟨l, vs, rfl, l2, l3⟩ := lstOf_ok w rx hx
      obtain ⟨m, us, rfl, m2, m3⟩ := lstOf_ok w ry hy
      exact ⟨l, m, vs, us, rfl, rfl, l2, m2, by rw [l3.length, m3.length]; exact hz, fun a ha => (Post.tree p).at w ha (l3.append m3)⟩
    · cases h
  · cases h
theorem o2_add {K : PySem.W.Frag} : Op2 K C rAdd3 opAdd := by
  intro Λ F π S H dx dy x y d h w rx ry Q p
  unfold opAdd at h
  split at h
  · cases h
    exact .inl ⟨_, _, rx, ry, p.val w rfl⟩
  · split at h
    · rename_i hz
      cases h
      exact .inr (.inl ⟨_, _, rx, ry, hz, p.val w rfl⟩)
    · cases h
  · exact .inr (.inr (cat_case w rx ry h p))
theorem de_add (ha : DE X C a fa) (hb : DE X C b fb) : DE X C (.BinOp a .Add b pos) (dBin opAdd fa fb) := de_op or_add o2_add ha hb
def opSub (_ : List Ob) : D → D → Option D
  | .int i, .int j => some (.int (i - j))
  | _, _ => none
theorem o2_sub {K : PySem.W.Frag} : Op2 K C (rI0 fun i j => .int (i - j)) opSub := by
  intro Λ F π S H dx dy x y d h w rx ry Q p
  unfold opSub at h
  split at h
  · cases h
    exact ⟨_, _, rx, ry, p.val w rfl⟩
  · cases h
theorem de_sub (ha : DE X C a fa) (hb : DE X C b fb) : DE X C (.BinOp a .Sub b pos) (dBin opSub fa fb) := de_op op_sub o2_sub ha hb
def opMod (_ : List Ob) : D → D → Option D
  | .int i, .int j => if 0 < j then some (.int (i % j)) else none
  | _, _ => none
theorem o2_mod {K : PySem.W.Frag} : Op2 K C (rI (fun _ j => 0 < j) fun i j => .int (i % j)) opMod := by
  intro Λ F π S H dx dy x y d h w rx ry Q p
  unfold opMod at h
  split at h
  · split at h
    · rename_i hz
      cases h
      exact ⟨_, _, rx, ry, hz, p.val w rfl⟩
    · cases h
  · cases h
theorem de_mod (ha : DE X C a fa) (hb : DE X C b fb) : DE X C (.BinOp a .Mod b pos) (dBin opMod fa fb) := de_op op_mod o2_mod ha hb
def opCmp (c : Int → Int → Bool) (_ : List Ob) : D → D → Option D
  | .int i, .int j => some (.bl (c i j))
  | _, _ => none
theorem o2_cmp {K : PySem.W.Frag} (c : Int → Int → Bool) : Op2 K C (rI0 fun i j => .bl (c i j)) (opCmp c) := by
  intro Λ F π S H dx dy x y d h w rx ry Q p
  unfold opCmp at h
  split at h
  · cases h
    exact ⟨_, _, rx, ry, p.val w rfl⟩
  · cases h
abbrev opLt := opCmp fun i j => decide (i < j)
abbrev opGt := opCmp fun i j => decide (j < i)
theorem dt_lt (ha : DE X C a fa) (hb : DE X C b fb) : DT X C (.Compare a [.Lt] [b] pos) (dTest (dBin opLt fa fb)) := dt_cmp op_lt (o2_cmp _) ha hb
theorem dt_gt (ha : DE X C a fa) (hb : DE X C b fb) : DT X C (.Compare a [.Gt] [b] pos) (dTest (dBin opGt fa fb)) := dt_cmp op_gt (o2_cmp _) ha hb
variable {f1 f2 : DF Bool}
def dAnd (f1 f2 : DF Bool) : DF Bool := fun E S => (f1 E S).bind fun p => if p.1 = true then f2 E p.2 else some (false, p.2)
def dOr (f1 f2 : DF Bool) : DF Bool := fun E S => (f1 E S).bind fun p => if p.1 = true then some (true, p.2) else f2 E p.2
def dNot (f1 : DF Bool) : DF Bool := fun E S => (f1 E S).map fun p => (!p.1, p.2)
def DW (X : Cx) (C : Ctx) (e : Expr) (f : DF Bool) : Prop := ∃ t, PW X e t ∧ SndT X.K C t f
theorem DW.dt (h : DW X C e f1) : DT X C e f1 := let ⟨t, h1, h2⟩ := h; ⟨t, h1.pt, h2⟩
theorem dw_or1 (ha : DT X C a f1) : DW X C (.BoolOp .Or [a] pos) f1 := let ⟨_, h1, h2⟩ := ha; ⟨_, pw_or1 h1, h2⟩
theorem dw_or {rest : List Expr} (ha : DT X C a f1) (hb : DW X C (.BoolOp .Or (b :: rest) pos) f2) : DW X C (.BoolOp .Or (a :: b :: rest) pos) (dOr f1 f2) := by
  obtain ⟨ta, a1, a2⟩ := ha
  obtain ⟨tb, b1, b2⟩ := hb
  refine ⟨_, pw_or a1 b1, fun E S d S' q Λ F π H σ w Q p => ?_⟩
  obtain ⟨⟨x, S1⟩, q1, q⟩ := Option.bind_eq_some_iff.mp q
  refine a2 E S x S1 q1 Λ F π H σ w _ fun F1 π1 H1 e1 w1 => ?_
  cases x with
  | false => exact b2 E S1 d S' q Λ F1 π1 H1 σ (w.step e1 w1) Q (p.step e1)
  | true =>
    cases q
    exact p F1 π1 H1 e1 w1
theorem dt_not (ha : DT X C a f1) : DT X C (.UnaryOp .Not a pos) (dNot f1) := by
  obtain ⟨ta, a1, a2⟩ := ha
  refine ⟨_, pt_not a1, fun E S d S' q Λ F π H σ w Q p => ?_⟩
  obtain ⟨⟨x, S1⟩, q1, q⟩ := Option.map_eq_some_iff.mp q
  cases q
  exact a2 E S x _ q1 Λ F π H σ w _ fun F1 π1 H1 e1 w1 => p F1 π1 H1 e1 w1
def dAndV (fa fb : DF D) : DF D := fun E S => (fa E S).bind fun p => match p.1 with
  | .bl true => fb E p.2
  | .bl false => some (.bl false, p.2)
  | _ => none
def dOrV (fa fb : DF D) : DF D := fun E S => (fa E S).bind fun p => match p.1 with
  | .bl false => fb E p.2
  | .bl true => some (.bl true, p.2)
  | _ => none
def dNotV (fa : DF D) : DF D := fun E S => (fa E S).bind fun p => match p.1 with
  | .bl b => some (.bl (!b), p.2)
  | _ => none
theorem de_one {op} (h : DE X C a fa) : DE X C (.BoolOp op [a] pos) fa := let ⟨_, h1, h2⟩ := h; ⟨_, pe_one h1, h2⟩
theorem de_and {rest : List Expr} (ha : DE X C a fa) (hb : DE X C (.BoolOp .And (b :: rest) pos) fb) : DE X C (.BoolOp .And (a :: b :: rest) pos) (dAndV fa fb) := by
  obtain ⟨ta, a1, a2⟩ := ha
  obtain ⟨tb, b1, b2⟩ := hb
  refine ⟨_, pe_and a1 b1, fun E S d S' q Λ F π H σ w Q p => ?_⟩
  obtain ⟨⟨x, S1⟩, q1, q⟩ := Option.bind_eq_some_iff.mp q
  refine a2 E S x S1 q1 Λ F π H σ w _ fun v F1 π1 H1 e1 w1 r1 => ?_
  cases x with
  | bl c =>
    refine ⟨c, r1, ?_⟩
    cases c with
    | true => exact b2 E S1 d S' q Λ F1 π1 H1 σ (w.step e1 w1) Q (p.step e1)
    | false =>
      cases q
      exact p _ F1 π1 H1 e1 w1 rfl
  | _ => cases q
def dIf (f1 : DF Bool) (fa fb : DF D) : DF D := fun E S => (f1 E S).bind fun p => if p.1 = true then fa E p.2 else fb E p.2
def dNil : DF (List D) := fun _ S => some ([], S)
def dCons (f : DF D) (g : DF (List D)) : DF (List D) := fun E S => (f E S).bind fun p => (g E p.2).map fun q => (p.1 :: q.1, q.2)
theorem da_nil : DA X C [] dNil := by
  refine ⟨_, pa_nil, fun E S d S' q Λ F π H σ w Q p => ?_⟩
  cases q
  exact p [] F π H (Ext.refl _ _ _) w.w rfl
theorem da_cons {es : List Expr} {g : DF (List D)} (ha : DE X C a fa) (hr : DA X C es g) (hs : starEach (a :: es) X.env = (false, eval a X.env) :: starEach es X.env := by rfl) : DA X C (a :: es) (dCons fa g) := by
  obtain ⟨ta, a1, a2⟩ := ha
  obtain ⟨tb, b1, b2⟩ := hr
  refine ⟨_, pa_cons a1 b1 hs, fun E S d S' q Λ F π H σ w Q p => ?_⟩
  obtain ⟨⟨x, S1⟩, q1, q⟩ := Option.bind_eq_some_iff.mp q
  obtain ⟨⟨xs, S2⟩, q2, q⟩ := Option.map_eq_some_iff.mp q
  cases q
  refine a2 E S x S1 q1 Λ F π H σ w _ fun v F1 π1 H1 e1 w1 r1 => ?_
  refine b2 E S1 xs _ q2 Λ F1 π1 H1 σ (w.step e1 w1) _ fun vs F2 π2 H2 e2 w2 r2 => ?_
  exact p (v :: vs) F2 π2 H2 (e1.trans e2) w2 ⟨v, vs, rfl, Rep.mono e2.f e2.p _ _ r1, r2⟩
def few (f : DF (List D)) : DF (List D) := fun E S => (f E S).bind fun p => if p.1.length ≤ sizeLine then some p else none
theorem dn_lst {es : List Expr} {g : DF (List D)} (h : DA X C es g) : DN X C (.List es pos) (few g) := by
  obtain ⟨t, h1, h2⟩ := h
  refine ⟨_, pe_lst h1, fun E S d S' q Λ F π H σ w Q p => ?_⟩
  obtain ⟨⟨xs, S1⟩, q1, q⟩ := Option.bind_eq_some_iff.mp q
  split at q
  · rename_i hz
    cases q
    refine h2 E S d S' q1 Λ F π H σ w _ fun vs F1 π1 H1 e1 w1 r1 => ?_
    exact ⟨by rw [r1.length]; exact hz, fun a ha => (p.step e1).at w1 ha r1⟩
  · cases q
def dTup (g : DF (List D)) : DF D := fun E S => (few g E S).map fun p => (.tup p.1, p.2)
theorem de_tup {es : List Expr} {g : DF (List D)} {x1} (h : DA X C es g) : DE X C (.Tuple es x1 pos) (dTup g) := by
  obtain ⟨t, h1, h2⟩ := h
  refine ⟨_, pe_tup h1, fun E S d S' q Λ F π H σ w Q p => ?_⟩
  obtain ⟨⟨xs, S1⟩, q1, q⟩ := Option.map_eq_some_iff.mp q
  cases q
  obtain ⟨⟨xs', S1'⟩, q1, q⟩ := Option.bind_eq_some_iff.mp q1
  split at q
  · rename_i hz
    cases q
    refine h2 E S xs _ q1 Λ F π H σ w _ fun vs F1 π1 H1 e1 w1 r1 => ?_
    exact ⟨by rw [r1.length]; exact hz, fun a ha => (p.step e1).tupAt w1 ha r1⟩
  · cases q
def CallS (K : PySem.W.Frag) (C : Ctx) (r : List V → Hp → VK → Prop) (g : List Ob → List D → Option D) : Prop :=
  ∀ Λ F π S H ds vs d, g S ds = some d → Wd K C Λ F π S H → RepA K C F π ds vs → ∀ Q : VK, Post K C Λ F π H S d Q → r vs H Q
def dCB {α : Type} (g : List Ob → List D → Option α) (fa : DF (List D)) : DF α := fun E S => (fa E S).bind fun p => (g p.2 p.1).map fun d => (d, p.2)
theorem snd_cb {K : PySem.W.Frag} {r : List V → Hp → VK → Prop} {g : List Ob → List D → Option D} {t : TA} {fs : DF (List D)} (hg : CallS K C r g) (ha : SndA K C t fs) : Snd K C (tCB r t) (dCB g fs) := by
  intro E S d S' q Λ F π H σ w Q p
  obtain ⟨⟨x, S1⟩, q1, q⟩ := Option.bind_eq_some_iff.mp q
  obtain ⟨d', q2, q⟩ := Option.map_eq_some_iff.mp q
  cases q
  refine ha E S x _ q1 Λ F π H σ w _ fun vs F1 π1 H1 e1 w1 r1 => ?_
  exact hg Λ F1 π1 _ H1 x vs d q2 w1 r1 Q (p.step e1)
section
variable {es : List Expr} {fs : DF (List D)} {id T : String} {r : List V → Hp → VK → Prop} {x : Str} {p : Pos}
theorem de_callB {g : List Ob → List D → Option D} (hc : CallR X (.builtin id) r) (hS : CallS X.K C r g) (hm : X.mg x = none) (hv : bootBuiltins x = some (.builtin id)) (ha : DA X C (e :: es) fs) (hg : Gl X x := by rfl) (hn : x ≠ "__name__" := by decide) (hdb : (x == ("__debug__" : Str)) = false := by decide)
    (hs : starEach (e :: es) X.env = (false, eval e X.env) :: starEach es X.env := by rfl) (hpl : (backTo pos (starEach es X.env)).any (·.1) = false := by rfl) : DE X C (.Call (.Name x p) (e :: es) [] pos) (dCB g fs) := by
  obtain ⟨t, h1, h2⟩ := ha
  exact ⟨_, pe_callB hc hg hm hv h1 hn hdb hs hpl, snd_cb hS h2⟩
theorem de_callTy {g : List Ob → List D → Option D} (hc : CallR X (.type T) r) (hS : CallS X.K C r g) (hm : X.mg x = none) (hv : bootBuiltins x = some (.type T)) (ha : DA X C (e :: es) fs) (hg : Gl X x := by rfl) (hn : x ≠ "__name__" := by decide) (hdb : (x == ("__debug__" : Str)) = false := by decide)
    (hs : starEach (e :: es) X.env = (false, eval e X.env) :: starEach es X.env := by rfl) (hpl : (backTo pos (starEach es X.env)).any (·.1) = false := by rfl) : DE X C (.Call (.Name x p) (e :: es) [] pos) (dCB g fs) := by
  obtain ⟨t, h1, h2⟩ := ha
  exact ⟨_, pe_callTy hc hg hm hv h1 hn hdb hs hpl, snd_cb hS h2⟩
end
end
end DL
set_option Elab.async false
set_option linter.all false
set_option maxRecDepth 100000
set_option maxHeartbeats 2000000
namespace DL
open PySem PySem.Spec PyProof.Rows L2
section
variable {X : Cx} {C : Ctx} {e a b : Expr} {f fa fb : DF D} {pos : Pos} {st : Stmt} {rest : List Stmt} {g g' : DFS}
def sNil : DFS := fun E S => some (.nx E, S)
def sSeq (f g : DFS) : DFS := fun E S => (f E S).bind fun p => match p.1 with
  | .nx E' => g E' p.2
  | .rt d => some (.rt d, p.2)
  | .bk E' => some (.bk E', p.2)
  | .ct E' => some (.ct E', p.2)
theorem PostS.nxt {K : PySem.W.Frag} {Λ : Lk} {F : Hp} {π : List Addr} {S : List Ob} {H : Hp} {σ : L2.St} {E : SE} {Dn : Ends} (p : PostS K C Λ F π H S (.nx E) Dn) (w : At K C Λ F π S H σ E) : Dn.nx σ H := p σ F π H (Ext.refl _ _ _) w.w w.r
theorem db_nil : DB X C [] sNil := by
  refine ⟨_, pss_nil, fun E S o S' q Λ F π H σ w Dn p => ?_⟩
  cases q
  exact p.nxt w
theorem db_cons (h1 : DSt X C st g) (h2 : DB X C rest g') : DB X C (st :: rest) (sSeq g g') := by
  obtain ⟨t, a1, a2⟩ := h1
  obtain ⟨u, b1, b2⟩ := h2
  refine ⟨_, pss_cons a1 b1, fun E S o S' q Λ F π H σ w Dn p => ?_⟩
  obtain ⟨⟨o1, S1⟩, q1, q⟩ := Option.bind_eq_some_iff.mp q
  refine a2 E S o1 S1 q1 Λ F π H σ w _ ?_
  cases o1 with
  | nx E1 => exact fun σ1 F1 π1 H1 e1 w1 r1 => b2 E1 S1 o S' q Λ F1 π1 H1 σ1 ⟨w1, r1⟩ Dn (p.step e1)
  | rt d =>
    cases q
    exact p
  | bk E1 =>
    cases q
    exact p
  | ct E1 =>
    cases q
    exact p
theorem db_one (h1 : DSt X C st g) : DB X C [st] g := let ⟨_, a1, a2⟩ := h1; ⟨_, pss_one a1, a2⟩
def sAsg (i : Nat) (f : DF D) : DFS := fun E S => (f E S).map fun p => (.nx (E.set i (some p.1)), p.2)
theorem snd_asg {K : PySem.W.Frag} {t : TE} {i : Nat} (h : Snd K C t f) : SndS K C (tAsg t (gName i)) (sAsg i f) := by
  intro E S o S' q Λ F π H σ w Dn p
  obtain ⟨⟨d, S1⟩, q1, q⟩ := Option.map_eq_some_iff.mp q
  cases q
  exact h E S d _ q1 Λ F π H σ w _ fun v F1 π1 H1 e1 w1 r1 => p (σ.set i (some v)) F1 π1 H1 e1 w1 ((w.r.mono e1.f e1.p).set i r1)
theorem ds_set (i : Nat) {x : Str} {pos' : Pos} (hN : X.N.Nodup) (he : DE X C e f) (hi : X.N[i]? = some x := by rfl) (hx : Loc X.env.scope x := by first | exact Or.inl rfl | exact Or.inr rfl) (hs : swapsWith e (some (.Name x pos')) pos.line X.env = pure false := by rfl)
    (hf : X.fn x = true ∨ X.env.scope.names.lookup x = some .local := by first | exact .inl rfl | exact .inr rfl | assumption) : DSt X C (.Assign [.Name x pos'] e pos) (sAsg i f) := by
  obtain ⟨t, h1, h2⟩ := he
  exact ⟨_, ps_set hN hi hx h1 hs hf, snd_asg h2⟩
def sDrop (f : DF D) : DFS := fun E S => (f E S).map fun p => (.nx E, p.2)
theorem ds_expr (he : DE X C e f) (hs : swapsWith e none pos.line X.env = pure false := by rfl) : DSt X C (.Expr e pos) (sDrop f) := by
  obtain ⟨t, h1, h2⟩ := he
  refine ⟨_, ps_expr h1 hs, fun E S o S' q Λ F π H σ w Dn p => ?_⟩
  obtain ⟨⟨d, S1⟩, q1, q⟩ := Option.map_eq_some_iff.mp q
  cases q
  exact h2 E S d _ q1 Λ F π H σ w _ fun v F1 π1 H1 e1 w1 r1 => p σ F1 π1 H1 e1 w1 (w.r.mono e1.f e1.p)
def sRet (f : DF D) : DFS := fun E S => (f E S).map fun p => (.rt p.1, p.2)
theorem ds_ret (he : DE X C e f) : DSt X C (.Return (some e) pos) (sRet f) := by
  obtain ⟨t, h1, h2⟩ := he
  refine ⟨_, ps_ret h1, fun E S o S' q Λ F π H σ w Dn p => ?_⟩
  obtain ⟨⟨d, S1⟩, q1, q⟩ := Option.map_eq_some_iff.mp q
  cases q
  exact h2 E S d _ q1 Λ F π H σ w _ p
def sIf (c : DF Bool) (f g : DFS) : DFS := fun E S => (c E S).bind fun p => if p.1 = true then f E p.2 else g E p.2
theorem ds_if {c : Expr} {fc : DF Bool} {A B : List Stmt} (hc : DT X C c fc) (ha : DB X C A g) (hb : DB X C B g') : DSt X C (.If c A B pos) (sIf fc g g') := by
  obtain ⟨t, c1, c2⟩ := hc
  obtain ⟨u, a1, a2⟩ := ha
  obtain ⟨z, b1, b2⟩ := hb
  refine ⟨_, ps_if c1 a1 b1, fun E S o S' q Λ F π H σ w Dn p => ?_⟩
  obtain ⟨⟨x, S1⟩, q1, q⟩ := Option.bind_eq_some_iff.mp q
  refine c2 E S x S1 q1 Λ F π H σ w _ fun F1 π1 H1 e1 w1 => ?_
  cases x with
  | true => exact a2 E S1 o S' q Λ F1 π1 H1 σ (w.step e1 w1) Dn (p.step e1)
  | false => exact b2 E S1 o S' q Λ F1 π1 H1 σ (w.step e1 w1) Dn (p.step e1)
def sNever : DFS := fun _ _ => none
def sRetN : DFS := fun _ S => some (.rt .non, S)
def sAug (i : Nat) (g : List Ob → D → D → Option D) (f : DF D) : DFS := fun E S => match E[i]? with
  | some (some x) => (f E S).bind fun p => (g p.2 x p.1).map fun d => (.nx (E.set i (some d)), p.2)
  | _ => none
end
abbrev DFG := D → SE → List Ob → Option (SE × List Ob)
def SndG (K : PySem.W.Frag) (C : Ctx) (ws : List Nat) (g : TG) (f : DFG) : Prop := ∀ d E S E' S', f d E S = some (E', S') → ∀ Λ F π H σ v, At K C Λ F π S H σ E → Rep K C F π d v → ∀ Q : L2.St → Hp → Prop,
  (∀ σ' F' π' H', Ext F π H F' π' H' → At K C Λ F' π' S' H' σ' E' → (σ'.length = σ.length ∧ ∀ j, j ∉ ws → σ'[j]? = σ[j]?) → Q σ' H') → g v σ H Q
def DG (X : Cx) (C : Ctx) (ws : List Nat) (e : Expr) (f : DFG) : Prop := ∃ g, PG X e g ∧ SndG X.K C ws g f
abbrev DFGs := List D → SE → List Ob → Option (SE × List Ob)
section
variable {X : Cx} {C : Ctx} {e : Expr} {es : List Expr} {pos : Pos} {ws us : List Nat}
def gN (i : Nat) : DFG := fun d E S => some (E.set i (some d), S)
theorem dg_name (i : Nat) {x : Str} (hN : X.N.Nodup) (hi : X.N[i]? = some x := by rfl) (hx : Loc X.env.scope x := by first | exact Or.inl rfl | exact Or.inr rfl) (hf : X.fn x = true ∨ X.env.scope.names.lookup x = some .local := by first | exact .inl rfl | exact .inr rfl | assumption) : DG X C [i] (.Name x pos) (gN i) := by
  refine ⟨_, pg_name hN hi hx hf, fun d E S E' S' q Λ F π H σ v w r Q p => ?_⟩
  cases q
  refine p (σ.set i (some v)) F π H (Ext.refl _ _ _) ⟨w.w, w.r.set i r⟩ ⟨List.length_set, fun j hj => ?_⟩
  exact List.getElem?_set_ne (fun z => hj (by rw [z]; exact List.mem_singleton_self _))
def gsNil : DFGs := fun ds E S => match ds with
  | [] => some (E, S)
  | _ => none
def gsCons (f : DFG) (g : DFGs) : DFGs := fun ds E S => match ds with
  | d :: r => (f d E S).bind fun p => g r p.1 p.2
  | [] => none
def gTu (n : Nat) (f : DFGs) : DFG := fun d E S => match tupOf d with
  | some xs => if xs.length = n then f xs E S else none
  | none => none
def sAsgG (f : DF D) (g : DFG) : DFS := fun E S => (f E S).bind fun p => (g p.1 E p.2).map fun q => (.nx q.1, q.2)
theorem ds_asg {tg : Expr} {f : DF D} {g : DFG} (he : DE X C e f) (hg : DG X C ws tg g) (hs : swapsWithSole [tg] e pos.line X.env = pure false := by rfl) (hw : swappedStores [tg] e X.env = pure none := by rfl)
    (h1 : (assignEach [tg] X.env).map (·.2) = [assign tg X.env] := by rfl) : DSt X C (.Assign [tg] e pos) (sAsgG f g) := by
  obtain ⟨t, a1, a2⟩ := he
  obtain ⟨u, b1, b2⟩ := hg
  refine ⟨_, ps_asg a1 b1 hs hw h1, fun E S o S' q Λ F π H σ w Dn p => ?_⟩
  obtain ⟨⟨d, S1⟩, q1, q⟩ := Option.bind_eq_some_iff.mp q
  obtain ⟨⟨E2, S2⟩, q2, q⟩ := Option.map_eq_some_iff.mp q
  cases q
  refine a2 E S d S1 q1 Λ F π H σ w _ fun v F1 π1 H1 e1 w1 r1 => ?_
  exact b2 d E S1 E2 _ q2 Λ F1 π1 H1 σ v (w.step e1 w1) r1 _ fun σ2 F2 π2 H2 e2 w2 _ => p σ2 F2 π2 H2 (e1.trans e2) w2.w w2.r
def sPar (i j : Nat) (f : DF (List D)) : DFS := fun E S => (f E S).bind fun p => match p.1 with
  | [x, y] => some (.nx ((E.set i (some x)).set j (some y)), p.2)
  | _ => none
end
inductive Src where
  | fix (xs : List D) | live (d : D) | keys (k : Nat) | vals (k : Nat) | items (k : Nat) | view (g : List Ob → Option (List D))
def dictK (S : List Ob) (k : Nat) : Option (List (D × D)) := match S[k]? with
  | some (.lkK l) => some (l.map fun p => (keyD p.1, p.2))
  | some (.lkT l) => some (l.map fun p => (keyT p.1, p.2))
  | some (.lkN l) => some l
  | _ => none
def Src.at (S : List Ob) (i : Nat) : Src → Option (Option D)
  | .fix xs => some xs[i]?
  | .live d => (lstOf S d).map fun l => l[i]?
  | .keys k => (dictK S k).map fun l => (l[i]?).map fun p => p.1
  | .vals k => (dictK S k).map fun l => (l[i]?).map fun p => p.2
  | .items k => (dictK S k).map fun l => (l[i]?).map fun p => .tup [p.1, p.2]
  | .view g => (g S).map fun l => l[i]?
def Src.len (S : List Ob) : Src → Nat
  | .fix xs => xs.length
  | .live d => ((lstOf S d).map fun l => l.length).getD 0
  | .keys k | .vals k | .items k => ((dictK S k).map fun l => l.length).getD 0
  | .view g => ((g S).map fun l => l.length).getD 0
def Gives (K : PySem.W.Frag) (C : Ctx) (Λ : Lk) (J : It) (s : Src) (F : Hp) (π : List Addr) (H : Hp) : Prop := ∀ i F2 π2 S2 H2, Sub F π F2 π2 → Wd K C Λ F2 π2 S2 H2 →
  (s.at S2 i = some none → J.stop i H2) ∧ ∀ d, s.at S2 i = some (some d) → J.go i H2 ∧ ∀ x H3, J.yld i H2 x H3 → ∃ F3, Ext F2 π2 H2 F3 π2 H3 ∧ Wd K C Λ F3 π2 S2 H3 ∧ Rep K C F3 π2 d x
def SndI (K : PySem.W.Frag) (C : Ctx) (t : TI) (f : DF Src) : Prop := ∀ E S s S', f E S = some (s, S') → ∀ Λ F π H σ, At K C Λ F π S H σ E → ∀ R : It → Hp → Prop,
  (∀ J F' π' H', Ext F π H F' π' H' → Wd K C Λ F' π' S' H' → Gives K C Λ J s F' π' H' → R J H') → t σ H R
def DI (X : Cx) (C : Ctx) (tg e : Expr) (f : DF Src) : Prop := ∃ t, PI X tg e t ∧ SndI X.K C t f
section
variable {X : Cx} {C : Ctx} {e : Expr} {tg : Expr} {es : List Expr} {pos : Pos}
def iLst (f : DF D) : DF Src := fun E S => (f E S).bind fun p => match lstOf p.2 p.1 with
  | some _ => some (.live p.1, p.2)
  | none => none
theorem di_lst {f : DF D} (h : DE X C e f) : DI X C tg e (iLst f) := by
  obtain ⟨t, a1, a2⟩ := h
  refine ⟨_, pi_list a1, fun E S s S' q Λ F π H σ w R p => ?_⟩
  obtain ⟨⟨d, S1⟩, q1, q⟩ := Option.bind_eq_some_iff.mp q
  simp only at q
  split at q
  · rename_i xs hx
    cases q
    refine a2 E S d _ q1 Λ F π H σ w _ fun v F1 π1 H1 e1 w1 r1 => ?_
    obtain ⟨a, vs, rfl, l2, l3⟩ := lstOf_ok w1 r1 hx
    refine ⟨a, rfl, ⟨vs, .inl (.inl l2)⟩, p _ F1 π1 H1 e1 w1 fun i F2 π2 S2 H2 e2 w2 => ?_⟩
    have r2 := Rep.mono e2.f e2.p _ _ r1
    refine ⟨fun z => ?_, fun d' z => ?_⟩
    · obtain ⟨ys, y1, y2⟩ := Option.map_eq_some_iff.mp z
      obtain ⟨b, us, e3, m2, m3⟩ := lstOf_ok w2 r2 y1
      cases e3
      refine ⟨us, .inl (.inl m2), ?_⟩
      rw [m3.length]
      exact List.getElem?_eq_none_iff.mp y2
    · obtain ⟨ys, y1, y2⟩ := Option.map_eq_some_iff.mp z
      obtain ⟨b, us, e3, m2, m3⟩ := lstOf_ok w2 r2 y1
      cases e3
      obtain ⟨u, u1, u2⟩ := m3.get y2
      refine ⟨⟨us, u, .inl (.inl m2), u1⟩, fun x H3 y => ?_⟩
      obtain ⟨rfl, y⟩ := y
      have := y us (.inl (.inl m2))
      rw [u1] at this
      cases this
      exact ⟨F2, Ext.refl _ _ _, w2, u2⟩
  · cases q
def iTu (f : DF D) : DF Src := fun E S => (f E S).bind fun p => (tupOf p.1).map fun xs => (.fix xs, p.2)
def signsOf (x : Str) : List D := x.cps.toList.map fun c => .str ⟨#[c]⟩
def iSt (f : DF D) : DF Src := fun E S => (f E S).bind fun p => match p.1 with
  | .str x => some (.fix (signsOf x), p.2)
  | _ => none
def upto (lo : Int) (n : Nat) : List D := (List.range n).map fun i : Nat => .int (lo + (i : Int))
def iRg1 (f : DF (List D)) : DF Src := fun E S => (f E S).bind fun p => match p.1 with
  | [.int j] => if -(2 ^ 62) ≤ j ∧ j < 2 ^ 62 then some (.fix (upto 0 j.toNat), p.2) else none
  | _ => none
theorem gives_range {K : PySem.W.Frag} {Λ : Lk} {lo : Int} {n : Nat} {F : Hp} {π : List Addr} {H : Hp} : Gives K C Λ (Itr lo n) (.fix (upto lo n)) F π H := by
  intro i F2 π2 S2 H2 e2 w2
  refine ⟨fun y => ?_, fun d' y => ?_⟩
  · have y := List.getElem?_eq_none_iff.mp (Option.some.inj y)
    rw [upto, List.length_map, List.length_range] at y
    exact y
  · have y := Option.some.inj y
    rw [upto, List.getElem?_map] at y
    obtain ⟨c, c1, c2⟩ := Option.map_eq_some_iff.mp y
    have hi : i < n := by
      have := (List.getElem?_eq_some_iff.mp c1).1
      rwa [List.length_range] at this
    rw [List.getElem?_range hi] at c1
    cases c1
    cases c2
    refine ⟨hi, fun x H3 y => ?_⟩
    obtain ⟨rfl, rfl⟩ := y
    exact ⟨F2, Ext.refl _ _ _, w2, rfl⟩
theorem di_range1 {a : Expr} {p : Pos} {f : DF (List D)} (hm : X.mg "range" = none) (ha : DA X C [a] f) (hg : Gl X "range" := by rfl) (hs : starEach [a] X.env = [(false, eval a X.env)] := by rfl) : DI X C tg (.Call (.Name "range" p) [a] [] pos) (iRg1 f) := by
  obtain ⟨t, a1, a2⟩ := ha
  refine ⟨_, pi_range1 hg hm a1 hs, fun E S s S' q Λ F π H σ w R p => ?_⟩
  obtain ⟨⟨ds, S1⟩, q1, q⟩ := Option.bind_eq_some_iff.mp q
  simp only at q
  split at q
  · rename_i j
    split at q
    · rename_i hz
      cases q
      refine a2 E S _ _ q1 Λ F π H σ w _ fun vs F1 π1 H1 e1 w1 r1 => ?_
      obtain ⟨v, vr, rfl, r1, r2⟩ := r1
      cases (show v = .int j from r1)
      cases (show vr = [] from r2)
      exact ⟨j, rfl, hz.1, hz.2, p _ F1 π1 H1 e1 w1 gives_range⟩
    · cases q
  · cases q
def iRg2 (f : DF (List D)) : DF Src := fun E S => (f E S).bind fun p => match p.1 with
  | [.int i, .int j] => if -(2 ^ 62) ≤ i ∧ i < 2 ^ 62 ∧ -(2 ^ 62) ≤ j ∧ j < 2 ^ 62 then some (.fix (upto i (j - i).toNat), p.2) else none
  | _ => none
end
def loopF (tg : DFG) (b : DFS) (s : Src) : Nat → Nat → DFS
  | 0, i => fun E S => match s.at S i with
    | some none => some (.nx E, S)
    | _ => none
  | n + 1, i => fun E S => match s.at S i with
    | some none => some (.nx E, S)
    | some (some d) => (tg d E S).bind fun p => (b p.1 p.2).bind fun q => match q.1 with
      | .nx E' => loopF tg b s n (i + 1) E' q.2
      | .ct E' => loopF tg b s n (i + 1) E' q.2
      | .bk E' => some (.nx E', q.2)
      | .rt d => some (.rt d, q.2)
    | none => none
def sFor (fi : DF Src) (tg : DFG) (b : DFS) : DFS := fun E S => (fi E S).bind fun p => loopF tg b p.1 (p.1.len p.2) 0 E p.2
section
variable {X : Cx} {C : Ctx} {ws : List Nat} {tg iter : Expr} {body : List Stmt} {pos : Pos}
end
theorem wipe_get : ∀ (vs : List Nat) (σ : L2.St) (j : Nat), (L2.wipe σ vs)[j]? = if j ∈ vs then (if j < σ.length then some none else none) else σ[j]?
  | [], σ, j => by simp [L2.wipe]
  | v :: vs, σ, j => by
    unfold L2.wipe
    by_cases h : v = j
    · subst h
      rw [List.getElem?_set]
      simp [L2.wipe_length]
    · rw [List.getElem?_set_ne h, wipe_get vs σ j]
      have : (j ∈ v :: vs) ↔ j ∈ vs := by
        rw [List.mem_cons]
        exact ⟨fun q => q.resolve_left fun e => h e.symm, Or.inr⟩
      simp only [this]
theorem wipe_same {σ σ' : L2.St} {vs : List Nat} (hl : σ'.length = σ.length) (h : ∀ j, j ∉ vs → σ'[j]? = σ[j]?) : L2.wipe σ' vs = L2.wipe σ vs := by
  refine List.ext_getElem? fun j => ?_
  rw [wipe_get, wipe_get, hl]
  by_cases q : j ∈ vs
  · rw [if_pos q, if_pos q]
  · rw [if_neg q, if_neg q, h j q]
theorem wipe_twice (σ : L2.St) (vs : List Nat) : L2.wipe (L2.wipe σ vs) vs = L2.wipe σ vs := wipe_same (wipe_length σ vs) fun j h => by rw [wipe_get, if_neg h]
def lcF (tg : DFG) (t : DF Bool) (el : DF D) (s : Src) (E : SE) : Nat → Nat → List D → List Ob → Option (List D × List Ob)
  | 0, i, acc, S => match s.at S i with
    | some none => some (acc, S)
    | _ => none
  | n + 1, i, acc, S => match s.at S i with
    | some none => some (acc, S)
    | some (some d) => (tg d E S).bind fun p => (t p.1 p.2).bind fun q => if q.1 = true then (el p.1 q.2).bind fun r => if acc.length < sizeLine then lcF tg t el s E n (i + 1) (acc ++ [r.1]) r.2 else none else lcF tg t el s E n (i + 1) acc q.2
    | none => none
def dLc (vs : List Nat) (fi : DF Src) (tg : DFG) (t : DF Bool) (el : DF D) : DF (List D) := fun E S => (fi E S).bind fun p => lcF tg t el p.1 (wipeE E vs) (p.1.len p.2) 0 [] p.2
theorem snd_lc {K : PySem.W.Frag} {C : Ctx} {wi : TI} {g : TG} {tt : TT} {te : TE} {vs ws : List Nat} {fi : DF Src} {fg : DFG} {ft : DF Bool} {fe : DF D} (hi : SndI K C wi fi) (hg : SndG K C ws g fg) (ht : SndT K C tt ft) (he : Snd K C te fe) (hw : ∀ j ∈ ws, j ∈ vs) :
    SndN K C (tLc wi g tt te vs) (dLc vs fi fg ft fe) := by
  intro E S xs S' q Λ F π H σ w Q p
  obtain ⟨⟨s, S1⟩, q1, q⟩ := Option.bind_eq_some_iff.mp q
  simp only at q
  refine hi E S s S1 q1 Λ F π H σ w _ fun J F1 π1 H1 e1 w1 gv => fun D hD => ?_
  have fD : F1 D = none := w1.frozen hD
  have nD : D ∉ π1 := w1.notin hD
  have eD : Ext F1 π1 H1 F1 π1 (upd H1 D (.lst [])) := Ext.junk (same_new hD)
  have wD : Wd K C Λ F1 π1 S1 (upd H1 D (.lst [])) := w1.junk (same_new hD)
  refine ⟨fun i m H' => ∃ F' π' S2 acc us, Ext F1 π1 H1 F' π' H' ∧ Wd K C Λ F' π' S2 H' ∧ H' D = some (.lst us) ∧ F' D = none ∧ D ∉ π' ∧ RepA K C F' π' acc us ∧ lcF fg ft fe s (wipeE E vs) m i acc S2 = some (xs, S'),
    ⟨_, F1, π1, S1, [], [], eD, wD, upd_same, fD, nD, rfl, q⟩, ?_⟩
  rintro i m H' ⟨F', π', S2, acc, us, e', w', hD', fD', nD', ra, l⟩
  have gi := gv i F' π' S2 H' e'.sub w'
  have nH : H D = none := by
    cases z : H D with
    | none => rfl
    | some o =>
      have y : D ∉ π := fun y => nD (e1.p.subset y)
      obtain ⟨o', z'⟩ := e1.th D o z y
      rw [z'] at hD
      cases hD
  -- all that was there ahead stays, the list at D aside
  have ext0 : ∀ {F2 : Hp} {π2 : List Addr} {H2 : Hp}, Ext F1 π1 H1 F2 π2 H2 → Ext F π H F2 π2 H2 := fun z => e1.trans z
  have stop : s.at S2 i = some none → (acc, S2) = (xs, S') → (J.stop i H' ∧ Q (.ref D) H') := fun z y => by
    cases y
    exact ⟨gi.1 z, p D us F' π' H' (ext0 e') w' nH fD' nD' hD' ra⟩
  have env : EnvR K C F' π' (L2.wipe σ vs) (wipeE E vs) := (w.r.mono (ext0 e').f (ext0 e').p).wipe vs
  cases m with
  | zero =>
    simp only [lcF] at l
    split at l
    · rename_i z
      exact .inl (stop z (Option.some.inj l))
    · cases l
  | succ m =>
    simp only [lcF] at l
    split at l
    · rename_i z
      exact .inl (stop z (Option.some.inj l))
    · rename_i d z
      obtain ⟨⟨E3, S3⟩, l1, l⟩ := Option.bind_eq_some_iff.mp l
      obtain ⟨⟨b4, S4⟩, l2, l⟩ := Option.bind_eq_some_iff.mp l
      obtain ⟨go, yl⟩ := gi.2 d z
      refine .inr ⟨go, _, fun H2 h => ⟨m, Nat.lt_succ_self m, h⟩, fun x H3 y => ?_⟩
      obtain ⟨F3, e3, w3, r3⟩ := yl x H3 y
      refine hg d _ S2 E3 S3 l1 Λ F3 π' H3 _ x ⟨w3, env.mono e3.f e3.p⟩ r3 _ fun σ4 F4 π4 H4 e4 w4 k4 => ⟨?_, ?_⟩
      · rw [wipe_same k4.1 fun j hj => k4.2 j fun z => hj (hw j z)]
        exact wipe_twice σ vs
      · refine ht E3 S3 b4 S4 l2 Λ F4 π4 H4 σ4 w4 _ fun F5 π5 H5 e5 w5 => ?_
        have e6 := (e3.trans e4).trans e5
        have m5 : H5 D = some (.lst us) := e6.k D _ hD' nD' nofun
        have n5 : D ∉ π5 := e6.n D _ hD' nD'
        have f5 : F5 D = none := e6.mL hD' nD' fD'
        cases b4 with
        | false => exact ⟨F5, π5, S4, acc, us, e'.trans e6, w5, m5, f5, n5, RepA.mono e6.f e6.p _ _ ra, l⟩
        | true =>
          obtain ⟨⟨d6, S6⟩, l3, l⟩ := Option.bind_eq_some_iff.mp l
          simp only at l
          split at l
          · rename_i hz
            refine he E3 S4 d6 S6 l3 Λ F5 π5 H5 σ4 (w4.step e5 w5) _ fun v F7 π7 H7 e7 w7 r7 => ?_
            have e8 := e6.trans e7
            have m7 : H7 D = some (.lst us) := e8.k D _ hD' nD' nofun
            have n7 : D ∉ π7 := e8.n D _ hD' nD'
            have f7 : F7 D = none := e8.mL hD' nD' fD'
            refine ⟨us, m7, by rw [ra.length]; exact hz, F7, π7, S6, acc ++ [d6], us ++ [v], ?_, ?_, upd_same, f7, n7, (RepA.mono e8.f e8.p _ _ ra).append (RepA.one r7), l⟩
            · -- the list at D has grown
              have e9 := e'.trans e8
              refine ⟨e9.f, e9.p, fun a o h n t => ?_, e9.n, e9.m, fun a o h n => ?_⟩
              · rw [upd_ne (ne_of_none h hD)]
                exact e9.k a o h n t
              · rw [upd_ne (ne_of_none h hD)]
                exact e9.th a o h n
            · refine ⟨fun a o h => ?_, w7.len, w7.nd, w7.fr, fun k ob q h1 h2 => ObR.heap (upd_ne fun c => n7 (by rw [← c]; exact List.mem_of_getElem? h2)) (w7.ob k ob q h1 h2),
                fun t ht => TabS.stay (w7.tb t ht) fun x u e nn => (upd_ne fun c => by subst c; rw [m7] at e; cases e; rcases nn.1 with ⟨_, z⟩ | ⟨_, z⟩ <;> cases z).trans e, w7.nt⟩
              have c : a ≠ D := ne_of_none h f7
              rw [upd_ne c]
              exact w7.ext a o h
          · cases l
    · cases l
end DL
set_option Elab.async false
set_option linter.all false
set_option maxRecDepth 100000
set_option maxHeartbeats 2000000
namespace DL
open PySem PySem.Spec PyProof.Rows L2
section
variable {X : Cx} {C : Ctx}
theorem pe_weak {e : Expr} {t t' : TE} (h : PE X e t) (w : ∀ σ H Q, t' σ H Q → t σ H Q) : PE X e t' := ⟨fun pins s σ H Q I q => h.run pins s σ H Q I (w σ H Q q)⟩
theorem pg_weak {e : Expr} {t t' : TG} (h : PG X e t) (w : ∀ v σ H Q, t' v σ H Q → t v σ H Q) : PG X e t' := ⟨fun pins s σ H v u Q I r q => h.run pins s σ H v u Q I r (w v σ H Q q)⟩
theorem pts_weak {e : List Expr} {t t' : TT} (h : PTs X e t) (w : ∀ σ H Q, t' σ H Q → t σ H Q) : PTs X e t' := ⟨fun pins s σ H Q I q => h.run pins s σ H Q I (w σ H Q q)⟩
variable {P : Type} {Xs : P → Cx} {K : PySem.W.Frag}
theorem de_all (hK : ∀ p, (Xs p).K = K) {e : Expr} {f : DF D} (h : ∀ p, DE (Xs p) C e f) : ∃ t, (∀ p, PE (Xs p) e t) ∧ Snd K C t f := by
  have h' : ∀ p, ∃ t, PE (Xs p) e t ∧ Snd K C t f := fun p => by
    have := h p
    unfold DE at this
    rwa [hK p] at this
  obtain ⟨t, ht⟩ := Classical.axiomOfChoice h'
  exact ⟨fun σ H Q => ∀ p, t p σ H Q, fun p => pe_weak (ht p).1 fun σ H Q q => q p, fun E S d S' q Λ F π H σ w Q z p => (ht p).2 E S d S' q Λ F π H σ w Q z⟩
theorem dg_all (hK : ∀ p, (Xs p).K = K) {ws : List Nat} {e : Expr} {f : DFG} (h : ∀ p, DG (Xs p) C ws e f) : ∃ t, (∀ p, PG (Xs p) e t) ∧ SndG K C ws t f := by
  have h' : ∀ p, ∃ t, PG (Xs p) e t ∧ SndG K C ws t f := fun p => by
    have := h p
    unfold DG at this
    rwa [hK p] at this
  obtain ⟨t, ht⟩ := Classical.axiomOfChoice h'
  exact ⟨fun v σ H Q => ∀ p, t p v σ H Q, fun p => pg_weak (ht p).1 fun v σ H Q q => q p, fun d E S E' S' q Λ F π H σ v w r Q z p => (ht p).2 d E S E' S' q Λ F π H σ v w r Q z⟩
def DTs (X : Cx) (C : Ctx) (es : List Expr) (f : DF Bool) : Prop := ∃ t, PTs X es t ∧ SndT X.K C t f
theorem dts_all (hK : ∀ p, (Xs p).K = K) {e : List Expr} {f : DF Bool} (h : ∀ p, DTs (Xs p) C e f) : ∃ t, (∀ p, PTs (Xs p) e t) ∧ SndT K C t f := by
  have h' : ∀ p, ∃ t, PTs (Xs p) e t ∧ SndT K C t f := fun p => by
    have := h p
    unfold DTs at this
    rwa [hK p] at this
  obtain ⟨t, ht⟩ := Classical.axiomOfChoice h'
  exact ⟨fun σ H Q => ∀ p, t p σ H Q, fun p => pts_weak (ht p).1 fun σ H Q q => q p, fun E S d S' q Λ F π H σ w Q z p => (ht p).2 E S d S' q Λ F π H σ w Q z⟩
def dYes : DF Bool := fun _ S => some (true, S)
theorem dts_nil : DTs X C [] dYes := by
  refine ⟨_, pts_nil, fun E S d S' q Λ F π H σ w Q p => ?_⟩
  cases q
  exact p F π H (Ext.refl _ _ _) w.w
theorem dts_one {e : Expr} {f : DF Bool} (h : DT X C e f) : DTs X C [e] f := let ⟨_, a, b⟩ := h; ⟨_, pts_one a, b⟩
end
structure BP where
  s : Shared
  H : Hp
  A : Addr
  cl : List (Str × Addr)
  fp : List Addr
abbrev blkX (X : Cx) (scope : Scope) (p : BP) : Cx := X.blk p.s p.H scope (compEnvC scope p.cl p.A X.env) p.fp
section
variable {X : Cx} {C : Ctx} {tg iter elt tg1 iter1 : Expr} {ifs ifs1 : List Expr} {scope : Scope} {own : List (Str × Nat)} {ws ws1 : List Nat} {pos spos : Pos} {fi fi1 : DF Src} {fg fg1 : DFG} {ft ft1 : DF Bool} {fe : DF D}
theorem dn_lc (own : List (Str × Nat)) (hN : X.N.Nodup) (hi : DI X C tg iter fi) (hg : ∀ p, DG (blkX X scope p) C ws tg fg) (ht : ∀ p, DTs (blkX X scope p) C ifs ft) (he : ∀ p, DE (blkX X scope p) C elt fe)
    (hw : ∀ j ∈ ws, j ∈ own.map (·.2) := by decide) (ok : blkC X.N X.env.scope scope own = true := by first | decide +kernel | kernel_rfl) (hc : X.calm = true := by rfl) (hs : ∀ x, foldedSetIterable iter X.env x = pure x := by intro _; rfl) :
    DN X C (.ListComp elt [⟨tg, iter, ifs, 0⟩] scope pos) (dLc (own.map (·.2)) fi fg ft fe) := by
  obtain ⟨wi, i1, i2⟩ := hi
  obtain ⟨g, g1, g2⟩ := dg_all (Xs := blkX X scope) (K := X.K) (fun _ => rfl) hg
  obtain ⟨tt, t1, t2⟩ := dts_all (Xs := blkX X scope) (K := X.K) (fun _ => rfl) ht
  obtain ⟨te, e1, e2⟩ := de_all (Xs := blkX X scope) (K := X.K) (fun _ => rfl) he
  exact ⟨_, pe_lc (own := own) hc hN i1 (blkOk_by ok) (fun s H A cl fp => g1 ⟨s, H, A, cl, fp⟩) (fun s H A cl fp => t1 ⟨s, H, A, cl, fp⟩) (fun s H A cl fp => e1 ⟨s, H, A, cl, fp⟩) hs, snd_lc i2 g2 t2 e2 hw⟩
theorem ds_setLc (new : Bool) (i : Nat) {y : Str} {py : Pos} (own : List (Str × Nat)) (hN : X.N.Nodup) (hi : DI X C tg iter fi) (hg : ∀ p, DG (blkX X scope p) C ws tg fg) (ht : ∀ p, DTs (blkX X scope p) C ifs ft) (he : ∀ p, DE (blkX X scope p) C elt fe)
    (hw : ∀ j ∈ ws, j ∈ own.map (·.2) := by decide) (ok : blkC X.N X.env.scope scope own = true := by first | decide +kernel | kernel_rfl) (hy : X.N[i]? = some y := by rfl) (hyl : X.env.scope.names.lookup y = some .local := by rfl)
    (hsw : swapsWith (.ListComp elt [⟨tg, iter, ifs, 0⟩] scope pos) (some (.Name y py)) spos.line X.env = pure true := by exact sw_true rfl rfl rfl (by first | decide +kernel | kernel_rfl)) (hc : X.calm = true := by rfl) (hs : ∀ x, foldedSetIterable iter X.env x = pure x := by intro _; rfl) :
    DSt X C (.Assign [.Name y py] (.ListComp elt [⟨tg, iter, ifs, 0⟩] scope pos) spos) (sAsg i ((if new then dNew else dTree) (dLc (own.map (·.2)) fi fg ft fe))) := by
  obtain ⟨wi, i1, i2⟩ := hi
  obtain ⟨g, g1, g2⟩ := dg_all (Xs := blkX X scope) (K := X.K) (fun _ => rfl) hg
  obtain ⟨tt, t1, t2⟩ := dts_all (Xs := blkX X scope) (K := X.K) (fun _ => rfl) ht
  obtain ⟨te, e1, e2⟩ := de_all (Xs := blkX X scope) (K := X.K) (fun _ => rfl) he
  refine ⟨_, ps_setLc (own := own) hc hN hy hyl hsw i1 (blkOk_by ok) (fun s H A cl fp => g1 ⟨s, H, A, cl, fp⟩) (fun s H A cl fp => t1 ⟨s, H, A, cl, fp⟩) (fun s H A cl fp => e1 ⟨s, H, A, cl, fp⟩) hs, snd_asg ?_⟩
  have sn := snd_lc i2 g2 t2 e2 hw
  cases new with
  | true =>
    intro E S d S' q Λ F π H σ w Q p
    obtain ⟨⟨xs, S1⟩, q1, q2⟩ := Option.map_eq_some_iff.mp q
    cases q2
    exact sn E S xs S1 q1 Λ F π H σ w Q p.new
  | false =>
    intro E S d S' q Λ F π H σ w Q p
    obtain ⟨⟨xs, S1⟩, q1, q2⟩ := Option.map_eq_some_iff.mp q
    cases q2
    exact sn E S xs S1 q1 Λ F π H σ w Q p.tree
end
def spD (K : PySem.W.Frag) (C : Ctx) (n : Nat) (sem : List D → List Ob → Option (D × List Ob)) : Sp := fun vs H Q _ => ∃ Λ F π S ds d S', ds.length = n ∧ Wd K C Λ F π S H ∧ RepA K C F π ds vs ∧ sem ds S = some (d, S') ∧ Post K C Λ F π H S' d Q
def runB (nl : Nat) (g : DFS) (ds : List D) (S : List Ob) : Option (D × List Ob) := (g (ds.map some ++ List.replicate (nl - ds.length) none) S).bind fun p => match p.1 with
  | .nx _ => some (.non, p.2)
  | .rt d => some (d, p.2)
  | _ => none
theorem env_start {K : PySem.W.Frag} {C : Ctx} {F : Hp} {π : List Addr} {N : List Str} : ∀ {ds : List D} {vs : List V}, RepA K C F π ds vs → EnvR K C F π (L2.start N vs) (ds.map some ++ List.replicate (N.length - ds.length) none) := fun {ds vs} r => by
  have hl := r.length
  refine ⟨by simp [L2.start, hl], fun i d h => ?_⟩
  by_cases hi : i < ds.length
  · rw [List.getElem?_append_left (by simpa using hi), List.getElem?_map] at h
    obtain ⟨d', h1, h2⟩ := Option.map_eq_some_iff.mp h
    cases h2
    obtain ⟨v, v1, v2⟩ := r.get h1
    refine ⟨v, ?_, v2⟩
    rw [L2.start, List.getElem?_append_left (by rw [List.length_map, hl]; exact hi), List.getElem?_map, v1]
    rfl
  · rw [List.getElem?_append_right (by rw [List.length_map]; omega), List.getElem?_replicate] at h
    split at h <;> cases h
section
variable {P : Program} {w : World} {K : PySem.W.Frag} {mg : Str → Option Value} {base : Heap} {C : Ctx}
theorem fn_ok {x qual : Str} {st : Stmt} {f : Addr} {fd : FuncData} {N ps : List Str} {k : Nat} {g : DFS} (Fu : Fun K x qual st f fd) (Sc : FnScope N ps (defScope st))
    (hb : ∀ (cdv : Value) (A : Around) (outer : List Env) (s : Shared) (H : Hp) (E : XK), Room k (A.deeper (envOfC qual (defScope st) s.heap.objs.size f cdv)) → DB (cxOf CX0 P w K mg base N qual (defScope st) f cdv A outer s H E).nox C (defBody st) g) :
    FnOk P w K mg base CX0 (k + 1) f fd ps (spD K C ps.length (runB N.length g)) := by
  refine Fu.ok Sc (fun vs H Q E h => ?_) (fun cdv A outer s H vs Q E hr h => ?_)
  · obtain ⟨_, _, _, _, ds, _, _, hl, _, r, _⟩ := h
    rw [r.length, hl]
  · obtain ⟨Λ, F, π, S, ds, d, S', hl, wd, r, q, p⟩ := h
    obtain ⟨t, t1, t2⟩ := hb cdv A outer s H E hr
    refine ⟨t, t1, ?_⟩
    obtain ⟨⟨o, S1⟩, q1, q⟩ := Option.bind_eq_some_iff.mp q
    refine t2 _ S o S1 q1 Λ F π H _ ⟨wd, env_start r⟩ _ ?_
    cases o with
    | nx E' =>
      cases q
      exact fun σ' F' π' H' e' w' _ => p .non F' π' H' e' w' rfl
    | rt d' =>
      cases q
      exact p
    | _ => cases q
structure Fn (P : Program) (w : World) (K : PySem.W.Frag) (mg : Str → Option Value) (base : Heap) (C : Ctx) (k : Nat) (x : Str) (n : Nat) (sem : List D → List Ob → Option (D × List Ob)) : Prop where
  ex : ∃ f fd ps, FnOk P w K mg base CX0 k f fd ps (spD K C n sem) ∧ mg x = some (.ref f) ∧ PySem.W.keepIn K (.ref f) = true ∧ Binds K fd ps []
theorem spD_imp {n : Nat} {sem sem' : List D → List Ob → Option (D × List Ob)} (h : ∀ ds S r, ds.length = n → sem' ds S = some r → sem ds S = some r) : ∀ vs H Q E, spD K C n sem' vs H Q E → spD K C n sem vs H Q E := by
  rintro vs H Q E ⟨Λ, F, π, S, ds, d, S', hl, wd, r, q, p⟩
  exact ⟨Λ, F, π, S, ds, d, S', hl, wd, r, h ds S _ hl q, p⟩
theorem Fn.imp {k : Nat} {x : Str} {n : Nat} {sem sem' : List D → List Ob → Option (D × List Ob)} (h : Fn P w K mg base C k x n sem) (hs : ∀ ds S r, ds.length = n → sem' ds S = some r → sem ds S = some r) : Fn P w K mg base C k x n sem' := by
  obtain ⟨f, fd, ps, a, b, c, d⟩ := h.ex
  exact ⟨f, fd, ps, a.imp (spD_imp hs), b, c, d⟩
end
section
variable {X : Cx} {C : Ctx} {e : Expr} {es : List Expr} {pos p : Pos} {x : Str} {k n : Nat} {fs : DF (List D)} {sem : List D → List Ob → Option (D × List Ob)}
def dCall (n : Nat) (sem : List D → List Ob → Option (D × List Ob)) (fs : DF (List D)) : DF D := fun E S => (fs E S).bind fun p => if p.1.length = n then sem p.1 p.2 else none
theorem snd_call {K : PySem.W.Frag} {t : TA} {E : XK} (h : SndA K C t fs) : Snd K C (tCall (spD K C n sem) [] E t) (dCall n sem fs) := by
  intro En S d S' q Λ F π H σ w Q p
  obtain ⟨⟨ds, S1⟩, q1, q⟩ := Option.bind_eq_some_iff.mp q
  simp only at q
  split at q
  · rename_i hl
    refine h En S ds S1 q1 Λ F π H σ w _ fun vs F1 π1 H1 e1 w1 r1 => ?_
    refine ⟨Λ, F1, π1, S1, ds, d, S', hl, w1, ?_, q, p.step e1⟩
    rw [List.append_nil]
    exact r1
  · cases q
theorem de_call (hF : Fn X.prog X.w X.K X.mg X.base C k x n sem) (hr : Room k X.A) (ha : DA X C (e :: es) fs) (hx : Passes CX0 X E0 := by exact pass0) (hg : Gl X x := by rfl) (hdb : (x == ("__debug__" : Str)) = false := by decide) (he : starEach (e :: es) X.env = (false, eval e X.env) :: starEach es X.env := by rfl)
    (hpl : (backTo pos (starEach es X.env)).any (·.1) = false := by rfl) : DE X C (.Call (.Name x p) (e :: es) [] pos) (dCall n sem fs) := by
  obtain ⟨f, fd, ps, h1, h2, h3, h4⟩ := hF.ex
  obtain ⟨t, t1, t2⟩ := ha
  exact ⟨_, pe_call h1 hr hg h2 h3 h4 .nil hx t1 hdb he hpl, snd_call t2⟩
end
end DL
set_option Elab.async false
set_option linter.all false
set_option maxRecDepth 100000
set_option maxHeartbeats 2000000
namespace DL
open PySem PySem.Spec PyProof.Rows L2
def sclD : D → Option V
  | .non => some .non
  | .bl b => some (.bl b)
  | .int i => some (.int i)
  | .str x => some (.str x)
  | _ => none
section
variable {K : PySem.W.Frag} {C : Ctx} {Λ : Lk} {F F' : Hp} {π π' : List Addr} {S S' : List Ob} {H H' : Hp} {d : D} {v u : V} {xs : List D}
theorem scl_ok (r : Rep K C F π d v) (h : sclD d = some u) : v = u := by
  cases d <;> cases h <;> exact r
def sclAll : List D → Option (List V)
  | [] => some []
  | d :: r => match sclD d, sclAll r with
    | some v, some vs => some (v :: vs)
    | _, _ => none
def strsOf : List D → Option (List Str)
  | [] => some []
  | .str i :: r => (strsOf r).map fun l => i :: l
  | _ => none
def keyOf : D → Option Key
  | .int i => some (.inl i)
  | .str x => some (.inr x)
  | _ => none
def keysOf : List D → Option (List Key)
  | [] => some []
  | d :: r => match keyOf d, keysOf r with
    | some k, some ks => some (k :: ks)
    | _, _ => none
def tkeyOf : D → Option (List Key)
  | .tup xs => keysOf xs
  | _ => none
section
variable {κ : Type} [DecidableEq κ] {α : Type}
def getD' (l : List (κ × α)) (k : κ) : Option α := (l.find? fun p => decide (p.1 = k)).map (·.2)
def putD (l : List (κ × α)) (k : κ) (x : α) : List (κ × α) := if (l.any fun p => decide (p.1 = k)) = true then l.map fun p => if p.1 = k then (p.1, x) else p else l ++ [(k, x)]
end
end
end DL
set_option Elab.async false
set_option linter.all false
set_option maxRecDepth 100000
set_option maxHeartbeats 2000000
namespace DL
open PySem PySem.Spec PyProof.Rows L2
section
variable {κ : Type} [DecidableEq κ] {R : D → V → Prop}
def RepM (R : D → V → Prop) : List (κ × D) → List (κ × V) → Prop
  | [], l => l = []
  | (k, x) :: r, l => ∃ v l', l = (k, v) :: l' ∧ R x v ∧ RepM R r l'
theorem RepM.length : ∀ {xs : List (κ × D)} {l : List (κ × V)}, RepM R xs l → l.length = xs.length
  | [], l, r => by rw [show l = [] from r]; rfl
  | (k, x) :: xs, l, r => by
    obtain ⟨v, t, rfl, _, q⟩ := r
    rw [List.length_cons, List.length_cons, RepM.length q]
theorem RepM.get : ∀ {xs : List (κ × D)} {l : List (κ × V)} (k : κ), RepM R xs l → (match getD' xs k with
    | some d => ∃ v, valV l k = some v ∧ R d v
    | none => valV l k = none)
  | [], l, k, r => by
    rw [show l = [] from r]
    exact rfl
  | (j, x) :: xs, l, k, r => by
    obtain ⟨v, t, rfl, q1, q2⟩ := r
    by_cases e : j = k
    · have h1 : getD' ((j, x) :: xs) k = some x := by simp [getD', e]
      rw [h1]
      exact ⟨v, valV_pos e, q1⟩
    · have h1 : getD' ((j, x) :: xs) k = getD' xs k := by simp [getD', e]
      rw [h1, valV_neg e]
      exact RepM.get k q2
theorem RepM.any : ∀ {xs : List (κ × D)} {l : List (κ × V)} (k : κ), RepM R xs l → (l.any fun p => decide (p.1 = k)) = xs.any fun p => decide (p.1 = k)
  | [], l, k, r => by rw [show l = [] from r]; rfl
  | (j, x) :: xs, l, k, r => by
    obtain ⟨v, t, rfl, q1, q2⟩ := r
    rw [List.any_cons, List.any_cons, RepM.any k q2]
theorem RepM.repl {d : D} {u : V} (hr : R d u) : ∀ {xs : List (κ × D)} {l : List (κ × V)} (k : κ), RepM R xs l → RepM R (xs.map fun p => if p.1 = k then (p.1, d) else p) (l.map fun p => if p.1 = k then (p.1, u) else p)
  | [], l, k, r => by rw [show l = [] from r]; exact rfl
  | (j, x) :: xs, l, k, r => by
    obtain ⟨v, t, rfl, q1, q2⟩ := r
    rw [List.map_cons, List.map_cons]
    by_cases e : j = k
    · rw [if_pos (show (j, x).1 = k from e), if_pos (show (j, v).1 = k from e)]
      exact ⟨_, _, rfl, hr, RepM.repl hr k q2⟩
    · rw [if_neg (show ¬ (j, x).1 = k from e), if_neg (show ¬ (j, v).1 = k from e)]
      exact ⟨_, _, rfl, q1, RepM.repl hr k q2⟩
theorem RepM.snoc {d : D} {u : V} (hr : R d u) : ∀ {xs : List (κ × D)} {l : List (κ × V)} (k : κ), RepM R xs l → RepM R (xs ++ [(k, d)]) (l ++ [(k, u)])
  | [], l, k, r => by rw [show l = [] from r]; exact ⟨_, _, rfl, hr, rfl⟩
  | (j, x) :: xs, l, k, r => by
    obtain ⟨v, t, rfl, q1, q2⟩ := r
    exact ⟨_, _, rfl, q1, RepM.snoc hr k q2⟩
theorem RepM.put {d : D} {u : V} (hr : R d u) {xs : List (κ × D)} {l : List (κ × V)} (k : κ) (r : RepM R xs l) : RepM R (putD xs k d) (putK l k u) := by
  unfold putD putK
  rw [RepM.any k r]
  split
  · exact RepM.repl hr k r
  · exact RepM.snoc hr k r
theorem RepM.at : ∀ {xs : List (κ × D)} {l : List (κ × V)} {i : Nat} {k : κ} {v : V}, RepM R xs l → l[i]? = some (k, v) → ∃ d, xs[i]? = some (k, d) ∧ R d v
  | [], l, i, k, v, r, h => by
    rw [show l = [] from r] at h
    simp at h
  | (j, x) :: xs, l, 0, k, v, r, h => by
    obtain ⟨v', t, rfl, q1, q2⟩ := r
    simp at h
    obtain ⟨rfl, rfl⟩ := h
    exact ⟨x, rfl, q1⟩
  | (j, x) :: xs, l, i + 1, k, v, r, h => by
    obtain ⟨v', t, rfl, q1, q2⟩ := r
    exact RepM.at (i := i) q2 (by simpa using h)
end
section
variable {K : PySem.W.Frag} {C : Ctx} {F : Hp} {π : List Addr}
theorem repK_m : ∀ {xs : List (Key × D)} {l : List (Key × V)}, RepK K C F π xs l ↔ RepM (Rep K C F π) xs l
  | [], l => Iff.rfl
  | (k, x) :: xs, l => ⟨fun ⟨v, t, a, b, c⟩ => ⟨v, t, a, b, repK_m.mp c⟩, fun ⟨v, t, a, b, c⟩ => ⟨v, t, a, b, repK_m.mpr c⟩⟩
theorem repT_m : ∀ {xs : List (List Key × D)} {l : List (List Key × V)}, RepT K C F π xs l ↔ RepM (Rep K C F π) xs l
  | [], l => Iff.rfl
  | (k, x) :: xs, l => ⟨fun ⟨v, t, a, b, c⟩ => ⟨v, t, a, b, repT_m.mp c⟩, fun ⟨v, t, a, b, c⟩ => ⟨v, t, a, b, repT_m.mpr c⟩⟩
end
section
variable {X : Cx} {C : Ctx}
end
def dictGet (S : List Ob) (d key : D) : Option (Option D) := match d with
  | .dK kvs => (keyOf key).map fun k => getD' kvs k
  | .dT kvs => (tkeyOf key).map fun k => getD' kvs k
  | .ptr j => match S[j]? with
    | some (.dK kvs) => (keyOf key).map fun k => getD' kvs k
    | some (.lkK kvs) => (keyOf key).map fun k => getD' kvs k
    | some (.dT kvs) => (tkeyOf key).map fun k => getD' kvs k
    | some (.lkT kvs) => (tkeyOf key).map fun k => getD' kvs k
    | _ => none
  | _ => none
section
variable {K : PySem.W.Frag} {C : Ctx} {Λ : Lk} {F F' : Hp} {π π' : List Addr} {S S' : List Ob} {H H' : Hp} {d key : D} {v u : V}
def Tells (K : PySem.W.Frag) (C : Ctx) (F : Hp) (π : List Addr) (H : Hp) (a : Addr) (u : V) (o : Option D) : Prop := match o with
  | some x => ∃ w, DGet H a u (some w) ∧ Rep K C F π x w
  | none => DGet H a u none
theorem Tells.in {a : Addr} {o : Option D} (t : Tells K C F π H a u o) : ∃ o', DGet H a u o' ∧ o'.isSome = o.isSome := by
  cases o with
  | none => exact ⟨none, t, rfl⟩
  | some x =>
    obtain ⟨w, h, _⟩ := t
    exact ⟨some w, h, rfl⟩
def sign1 (x : Str) : Option Nat := match x.cps.toList with
  | [c] => some c
  | _ => none
def isIn (S : List Ob) (x y : D) : Option Bool := match y with
  | .str z => match x with
    | .str s => (sign1 s).map fun c => decide (c ∈ z.cps.toList)
    | _ => none
  | y => match seqOf S y with
    | some ys => match sclD x, sclAll ys with
      | some v, some vs => some (inV v vs)
      | _, _ => none
    | none => (dictGet S y x).map fun o => o.isSome
def opIn (S : List Ob) (x y : D) : Option D := (isIn S x y).map D.bl
def opNotIn (S : List Ob) (x y : D) : Option D := (isIn S x y).map fun b => D.bl (!b)
end
section
variable {X : Cx} {C : Ctx} {a b : Expr} {fa fb : DF D} {pos : Pos}
end
def toP (S : List Ob) : Nat → D → Option PyData
  | 0, _ => none
  | n + 1, .non => some .none
  | n + 1, .bl b => some (.bool b)
  | n + 1, .int i => some (.int i)
  | n + 1, .str x => some (.str x)
  | n + 1, d => match tupOf d with
    | some xs => (xs.mapM (toP S n)).map .tuple
    | none => match lstOf S d with
      | some xs => (xs.mapM (toP S n)).map .list
      | none => none
section
variable {K : PySem.W.Frag} {C : Ctx} {Λ : Lk} {F F' : Hp} {π π' : List Addr} {S S' : List Ob} {H H' : Hp} {d : D} {v : V}
theorem toP_all {f : D → Option PyData} (hf : ∀ d v p, f d = some p → Rep K C F π d v → Dp K H v p) : ∀ {xs : List D} {vs : List V} {ps : List PyData}, xs.mapM f = some ps → RepA K C F π xs vs → DpAll K H vs ps
  | [], vs, ps, h, r => by
    rw [show vs = [] from r]
    simp at h
    subst h
    exact .nil
  | x :: xs, vs, ps, h, r => by
    obtain ⟨v, t, rfl, q1, q2⟩ := r
    rw [List.mapM_cons] at h
    obtain ⟨p, h1, h⟩ := Option.bind_eq_some_iff.mp h
    obtain ⟨qs, h2, h⟩ := Option.bind_eq_some_iff.mp h
    cases h
    exact .cons (hf x v p h1 q1) (toP_all hf h2 q2)
theorem toP_ok (w : Wd K C Λ F π S H) : ∀ (n : Nat) (d : D) (v : V) (p : PyData), toP S n d = some p → Rep K C F π d v → Dp K H v p := by
  intro n
  induction n with
  | zero =>
    intro d v p h r
    cases h
  | succ n ih =>
    intro d v p h r
    have seq : ∀ {d : D}, Rep K C F π d v → (match tupOf d with
      | some xs => (xs.mapM (toP S n)).map PyData.tuple
      | none => match lstOf S d with
        | some xs => (xs.mapM (toP S n)).map PyData.list
        | none => none) = some p → Dp K H v p := fun {d} r h => by
      split at h
      · rename_i xs hx
        obtain ⟨ps, h1, h2⟩ := Option.map_eq_some_iff.mp h
        obtain ⟨a, vs, rfl, q2, q3⟩ := tup_ok w r hx
        rw [← h2]
        exact .tup q2 (toP_all ih h1 q3)
      · split at h
        · rename_i xs hx
          obtain ⟨ps, h1, h2⟩ := Option.map_eq_some_iff.mp h
          obtain ⟨a, vs, rfl, q2, q3⟩ := lstOf_ok w r hx
          rw [← h2]
          exact .lst (.inl (.inl q2)) (toP_all ih h1 q3)
        · cases h
    cases d with
    | non =>
      cases h
      rw [show v = .non from r]
      exact .non
    | bl b =>
      cases h
      rw [show v = .bl b from r]
      exact .bl b
    | int i =>
      cases h
      rw [show v = .int i from r]
      exact .int i
    | str x =>
      cases h
      rw [show v = .str x from r]
      exact .str x
    | lst xs => exact seq r h
    | tup xs => exact seq r h
    | ktp xs => exact seq r h
    | ptr k => exact seq r h
    | _ => exact seq r h
def eqv (S : List Ob) (x y : D) : Option Bool := match sclD x, sclD y with
  | some v, some u => if scal v u = true then some (decide (v = u)) else none
  | _, _ => match toP S 60 x, toP S 60 y with
    | some p, some q => if (SeqAt.shaped p && SeqAt.shaped q) = true then some (PyData.eqv p q) else none
    | _, _ => none
def opEq (S : List Ob) (x y : D) : Option D := (eqv S x y).map D.bl
def opNe (S : List Ob) (x y : D) : Option D := (eqv S x y).map fun b => D.bl (!b)
abbrev rEqA (K : PySem.W.Frag) : R2 := fun x y H Q => rEq x y H Q ∨ rEqD K x y H Q
abbrev rNeA (K : PySem.W.Frag) : R2 := fun x y H Q => rNe x y H Q ∨ rNeD K x y H Q
theorem o2_eq : Op2 K C (rEqA K) opEq := by
  intro Λ F π S H dx dy x y d h w rx ry Q p
  obtain ⟨b, h1, h2⟩ := Option.map_eq_some_iff.mp h
  cases h2
  unfold eqv at h1
  split at h1
  · rename_i v u e1 e2
    split at h1
    · rename_i hs
      cases h1
      rw [scl_ok rx e1, scl_ok ry e2]
      exact .inl ⟨hs, p.val w rfl⟩
    · cases h1
  · split at h1
    · rename_i d1 d2 e1 e2
      split at h1
      · rename_i hs
        cases h1
        rw [Bool.and_eq_true] at hs
        exact .inr ⟨d1, d2, toP_ok w _ _ _ _ e1 rx, toP_ok w _ _ _ _ e2 ry, hs.1, hs.2, p.val w rfl⟩
      · cases h1
    · cases h1
theorem o2_ne : Op2 K C (rNeA K) opNe := by
  intro Λ F π S H dx dy x y d h w rx ry Q p
  obtain ⟨b, h1, h2⟩ := Option.map_eq_some_iff.mp h
  cases h2
  unfold eqv at h1
  split at h1
  · rename_i v u e1 e2
    split at h1
    · rename_i hs
      cases h1
      rw [scl_ok rx e1, scl_ok ry e2]
      exact .inl ⟨hs, p.val w rfl⟩
    · cases h1
  · split at h1
    · rename_i d1 d2 e1 e2
      split at h1
      · rename_i hs
        cases h1
        rw [Bool.and_eq_true] at hs
        exact .inr ⟨d1, d2, toP_ok w _ _ _ _ e1 rx, toP_ok w _ _ _ _ e2 ry, hs.1, hs.2, p.val w rfl⟩
      · cases h1
    · cases h1
end
section
variable {X : Cx} {C : Ctx} {a b : Expr} {fa fb : DF D} {pos : Pos}
theorem de_eq (hu : X.A.units + 64 < cLine) (ha : DE X C a fa) (hb : DE X C b fb) : DE X C (.Compare a [.Eq] [b] pos) (dBin opEq fa fb) := de_cmp (op_eq.or (op_eqD hu)) o2_eq ha hb
theorem dt_ne (hu : X.A.units + 64 < cLine) (ha : DE X C a fa) (hb : DE X C b fb) : DT X C (.Compare a [.NotEq] [b] pos) (dTest (dBin opNe fa fb)) := dt_cmp (op_ne.or (op_neD hu)) o2_ne ha hb
def isS (x y : D) : Option Bool := match y with
  | .non => match x with
    | .non => some true
    | _ => some false
  | .bl b => match x with
    | .bl a => some (decide (a = b))
    | _ => none
  | _ => none
def opIs (_ : List Ob) (x y : D) : Option D := (isS x y).map D.bl
def opIsNot (_ : List Ob) (x y : D) : Option D := (isS x y).map fun b => D.bl (!b)
end
end DL
set_option Elab.async false
set_option linter.all false
set_option maxRecDepth 100000
set_option maxHeartbeats 2000000
namespace DL
open PySem PySem.Spec PyProof.Rows L2
def atD (S : List Ob) (x y : D) : Option D := match y with
  | .int i => match x with
    | .str z => if z.length ≤ sizeLine then (atI z.cps.toList i).map fun c => .str ⟨#[c]⟩ else none
    | x => match seqOf S x with
      | some xs => atI xs i
      | none => none
  | _ => none
section
variable {X : Cx} {C : Ctx} {a b e : Expr} {fa fb f : DF D} {pos : Pos}
theorem atI_rep {K : PySem.W.Frag} {F : Hp} {π : List Addr} {xs : List D} {vs : List V} {i : Int} {d : D} (r : RepA K C F π xs vs) (h : atI xs i = some d) : ∃ v, atI vs i = some v ∧ Rep K C F π d v := by
  unfold atI at h ⊢
  obtain ⟨j, h1, h2⟩ := Option.bind_eq_some_iff.mp h
  obtain ⟨v, v1, v2⟩ := r.get h2
  refine ⟨v, ?_, v2⟩
  rw [r.length, h1]
  exact v1
theorem o2_ix {K : PySem.W.Frag} : Op2 K C (rIx K) atD := by
  intro Λ F π S H dx dy x y d h w rx ry Q p
  cases dy with
  | int i =>
    have hy : y = .int i := ry
    unfold atD at h
    simp only at h
    split at h
    · split at h
      · rename_i z hz
        obtain ⟨c, c1, c2⟩ := Option.map_eq_some_iff.mp h
        cases c2
        exact .inr (.inr ⟨z, i, c, rx, hy, hz, c1, p.val w rfl⟩)
      · cases h
    · split at h
      · rename_i xs hx
        obtain ⟨q, vs, rfl, q2, q3⟩ := seqOf_ok w rx hx
        obtain ⟨v, v1, v2⟩ := atI_rep q3 h
        rcases q2 with q2 | q2
        · exact .inl ⟨q, vs, i, v, rfl, hy, q2, v1, p.val w v2⟩
        · exact .inr (.inl ⟨q, vs, i, v, rfl, hy, q2, v1, p.val w v2⟩)
      · cases h
  | _ => cases h
theorem de_ix (ha : DE X C a fa) (hb : DE X C b fb) (hs : PlainIx b := by exact fun _ _ => rfl) : DE X C (.Subscript a b pos) (dBin atD fa fb) := by
  obtain ⟨ta, a1, a2⟩ := ha
  obtain ⟨tb, b1, b2⟩ := hb
  exact ⟨_, pe_ix ix_seq a1 b1 hs, snd_bin o2_ix a2 b2⟩
def dDGet (fd fk : DF D) : DF D := fun E S => (fd E S).bind fun p => (fk E p.2).bind fun q => match dictGet q.2 p.1 q.1 with
  | some (some d) => some (d, q.2)
  | _ => none
def dScr (ns : List Int) (fb : DF D) : DF D := fun E S => (fb E S).bind fun q => match q.1 with
  | .int i => (atI ns i).map fun n => (.int n, q.2)
  | _ => none
theorem de_scr {i : Nat} {x : Str} {p1 : Pos} (hb : DE X C b fb) (hN : X.N[i]? = some x := by rfl) (hv : Vis X.env.scope x := by first | exact Or.inl rfl | exact Or.inr (Or.inl rfl) | exact Or.inr (Or.inr rfl)) (hd : (x == ("__debug__" : Str)) = false := by decide)
    (hcd : (x == ("__classdict__" : Str)) = false := by decide) (hs : PlainIx b := by exact fun _ _ => rfl) : DE X C (.Subscript (.Name x p1) b pos) (fun E S => match E[i]? with
      | some (some .scr) => dScr C.ns fb E S
      | _ => none) := by
  obtain ⟨tb, b1, b2⟩ := hb
  refine ⟨_, pe_ix ix_list (pe_var hN hv hd hcd) b1 hs, fun E S d S' q Λ F π H σ w Q p => ?_⟩
  simp only at q
  split at q
  · rename_i hE
    obtain ⟨⟨y, S2⟩, q2, q⟩ := Option.bind_eq_some_iff.mp q
    cases y with
    | int j =>
      obtain ⟨n, n1, n2⟩ := Option.map_eq_some_iff.mp q
      cases n2
      obtain ⟨v, v1, v2⟩ := w.r.2 i .scr hE
      refine ⟨v, v1, b2 E S _ _ q2 Λ F π H σ w _ fun u F2 π2 H2 e2 w2 r2 => ?_⟩
      obtain ⟨a, rfl, r4⟩ := Rep.mono e2.f e2.p _ _ v2
      have n3 : atI (C.ns.map V.int) j = some (.int n) := by
        unfold atI at n1 ⊢
        obtain ⟨k, h1, h2⟩ := Option.bind_eq_some_iff.mp n1
        rw [List.length_map, h1]
        show (C.ns.map V.int)[k]? = _
        rw [List.getElem?_map, h2]
        rfl
      exact ⟨a, _, j, _, rfl, r2, Same.seq w2.ext r4, n3, p.step e2 |>.val w2 rfl⟩
    | _ => cases q
  · cases q
theorem de_lenScr {i : Nat} {x : Str} {p1 p2 : Pos} (hm : X.mg "len" = none) (hN : X.N[i]? = some x := by rfl) (hv : Vis X.env.scope x := by first | exact Or.inl rfl | exact Or.inr (Or.inl rfl) | exact Or.inr (Or.inr rfl)) (hd : (x == ("__debug__" : Str)) = false := by decide)
    (hcd : (x == ("__classdict__" : Str)) = false := by decide) (hg : Gl X "len" := by rfl) (hs : starEach [(.Name x p1 : Expr)] X.env = (false, eval (.Name x p1) X.env) :: starEach [] X.env := by rfl) (hpl : (backTo pos (starEach [] X.env)).any (·.1) = false := by rfl) :
    DE X C (.Call (.Name "len" p2) [.Name x p1] [] pos) (fun E S => match E[i]? with
      | some (some .scr) => some (.int C.ns.length, S)
      | _ => none) := by
  refine ⟨_, pe_callB call_len_seq hg hm PySem.boot_len (pa_cons (pe_var hN hv hd hcd) pa_nil) (by decide) (by decide) hs hpl, fun E S d S' q Λ F π H σ w Q p => ?_⟩
  simp only at q
  split at q
  · rename_i hE
    cases q
    obtain ⟨v, v1, a, rfl, r4⟩ := w.r.2 i .scr hE
    exact ⟨_, v1, a, _, rfl, .inl (Same.seq w.w.ext r4), p.val w.w (by rw [List.length_map]; rfl)⟩
  · cases q
def dNoPart : DF (Option Int) := fun _ S => some (none, S)
def dPart (f : DF D) : DF (Option Int) := fun E S => (f E S).bind fun p => match p.1 with
  | .int i => some (some i, p.2)
  | _ => none
def cutL {α : Type} (xs : List α) (lo hi : Option Int) : List α := (xs.drop (HT.sIx xs.length 0 lo)).take (HT.sIx xs.length xs.length hi - HT.sIx xs.length 0 lo)
def dSlL (f : DF D) (fl fh : DF (Option Int)) : DF (List D) := fun E S => (f E S).bind fun p => (fl E p.2).bind fun l => (fh E l.2).bind fun h => (lstOf h.2 p.1).map fun xs => (cutL xs l.1 h.1, h.2)
def dSlS (f : DF D) (fl fh : DF (Option Int)) : DF D := fun E S => (f E S).bind fun p => (fl E p.2).bind fun l => (fh E l.2).bind fun h => match p.1 with
  | .str z => if z.length ≤ sizeLine then some (.str (cutS z l.1 h.1), h.2) else none
  | _ => none
def gSetL (fo fi : DF D) : DFG := fun d E S => (fo E S).bind fun p => (fi E p.2).bind fun q => match p.1, q.1 with
  | .ptr k, .int i => match q.2[k]? with
    | some (.lst xs) => (ixN xs.length i).map fun j => (E, q.2.set k (.lst (xs.set j d)))
    | _ => none
  | _, _ => none
theorem snd_setL {K : PySem.W.Frag} {to ti : TE} {fo fi : DF D} (ho : Snd K C to fo) (hi : Snd K C ti fi) : SndG K C [] (gSub to ti rSetL) (gSetL fo fi) := by
  intro d E S E' S' q Λ F π H σ v w r Q p
  obtain ⟨⟨x, S1⟩, q1, q⟩ := Option.bind_eq_some_iff.mp q
  obtain ⟨⟨y, S2⟩, q2, q⟩ := Option.bind_eq_some_iff.mp q
  simp only at q
  split at q
  · rename_i k i
    split at q
    · rename_i xs hx
      obtain ⟨j, q3, q⟩ := Option.map_eq_some_iff.mp q
      cases q
      refine ho E S _ S1 q1 Λ F π H σ w _ fun u F1 π1 H1 e1 w1 r1 => ?_
      refine hi E S1 _ S2 q2 Λ F1 π1 H1 σ (w.step e1 w1) _ fun z F2 π2 H2 e2 w2 r2 => ?_
      obtain ⟨a, rfl, hp⟩ := Rep.mono e2.f e2.p _ _ r1
      obtain ⟨ob, o1, o2⟩ := w2.obj hp
      rw [hx] at o1
      cases o1
      obtain ⟨vs, v1, v2⟩ := o2
      have e3 := e1.trans e2
      refine ⟨a, vs, _, j, rfl, r2, v1, by rw [v2.length]; exact q3, ?_⟩
      exact p σ F2 π2 _ (e3.trans (Ext.put hp)) ⟨w2.put hp ⟨_, upd_same, RepA.set (Rep.mono e3.f e3.p _ _ r) j v2⟩, w.r.mono e3.f e3.p⟩ ⟨rfl, fun _ _ => rfl⟩
    · cases q
  · cases q
theorem dg_setL {o i : Expr} {fo fi : DF D} (ho : DE X C o fo) (hi : DE X C i fi) (ha : ∀ v, assign (.Subscript o i pos) X.env v = (do
      let ov ← holding [v] (eval o X.env)
      let iv ← holding [v, ov] (eval i X.env)
      standAt pos
      holding [v, ov, iv] (setItem ov iv v)
      release [v, ov, iv] []) := by intro _; rfl) : DG X C [] (.Subscript o i pos) (gSetL fo fi) := by
  obtain ⟨to, a1, a2⟩ := ho
  obtain ⟨ti, b1, b2⟩ := hi
  exact ⟨_, pg_sub a1 b1 set_list ha, snd_setL a2 b2⟩
def putO (S : List Ob) (d key x : D) : Option (List Ob) := match d with
  | .ptr j => match S[j]? with
    | some (.dK kvs) => match keyOf key with
      | some k => if kvs.length < sizeLine then some (S.set j (.dK (putD kvs k x))) else none
      | none => none
    | some (.dT kvs) => match tkeyOf key with
      | some k => if kvs.length < sizeLine then some (S.set j (.dT (putD kvs k x))) else none
      | none => none
    | _ => none
  | _ => none
def sDP (fd fk fv : DF D) : DFS := fun E S => (fv E S).bind fun v => (fd E v.2).bind fun d => (fk E d.2).bind fun k => (putO k.2 d.1 k.1 v.1).map fun S' => (.nx E, S')
def lenS (S : List Ob) (d : D) : Option Int := match d with
  | .str x => if x.length ≤ sizeLine then some x.length else none
  | .dK kvs => some kvs.length
  | .dT kvs => some kvs.length
  | .ptr k => match S[k]? with
    | some (.lst xs) => some xs.length
    | some (.dK kvs) => some kvs.length
    | some (.dT kvs) => some kvs.length
    | _ => none
  | d => (seqOf S d).map fun xs => xs.length
def fLen (S : List Ob) : List D → Option D
  | [d] => (lenS S d).map D.int
  | _ => none
def rLenRK : List V → Hp → VK → Prop := fun xs H Q => ∃ a kvs, xs = [V.ref a] ∧ Rd H a (.dK kvs) ∧ Q (.int kvs.length) H
def rLenRT : List V → Hp → VK → Prop := fun xs H Q => ∃ a kvs, xs = [V.ref a] ∧ Rd H a (.dT kvs) ∧ Q (.int kvs.length) H
theorem call_lenRK {X : Cx} : CallR X (.builtin "len") rLenRK := by
  intro pins s σ H xs us Q I r h
  obtain ⟨a, kvs, rfl, ha, q⟩ := h
  obtain ⟨u, rfl, ru⟩ := vals1 r
  cases ru
  exact d_len I ha fun t s' I' => ⟨.int kvs.length, H, I', ⟨t, rfl⟩, q⟩
theorem call_lenRT {X : Cx} : CallR X (.builtin "len") rLenRT := by
  intro pins s σ H xs us Q I r h
  obtain ⟨p, kvs, rfl, hp, q⟩ := h
  obtain ⟨u, rfl, rx⟩ := vals1 r
  obtain rfl : u = .ref p := rx
  obtain ⟨z, hd, ys, rel, dd⟩ := dt_rd I.hok hp
  have hl : kvs.length = ys.length := Paired.length rel
  refine call_len_dictH hd dd (by rw [← hl]; rw [sizeLine_eq] at z; omega) ?_
  rw [← hl]
  exact ⟨.int ((kvs.length : Nat) : Int), H, I.tok _, ⟨_, rfl⟩, q⟩
abbrev rLenA (K : PySem.W.Frag) : List V → Hp → VK → Prop := fun xs H Q => (∃ x n, xs = [x] ∧ LenV K x H n ∧ Q (.int n) H) ∨ (rLenRK xs H Q ∨ rLenRT xs H Q)
theorem rep_one {K : PySem.W.Frag} {F : Hp} {π : List Addr} {d : D} {vs : List V} (r : RepA K C F π [d] vs) : ∃ v, vs = [v] ∧ Rep K C F π d v := by
  obtain ⟨v, t, rfl, q, z⟩ := r
  cases (show t = [] from z)
  exact ⟨v, rfl, q⟩
theorem rep_two {K : PySem.W.Frag} {F : Hp} {π : List Addr} {d e : D} {vs : List V} (r : RepA K C F π [d, e] vs) : ∃ v u, vs = [v, u] ∧ Rep K C F π d v ∧ Rep K C F π e u := by
  obtain ⟨v, t, rfl, q, z⟩ := r
  obtain ⟨u, rfl, q2⟩ := rep_one z
  exact ⟨v, u, rfl, q, q2⟩
theorem cs_len {K : PySem.W.Frag} : CallS K C (rLenA K) fLen := by
  intro Λ F π S H ds vs d h w r Q p
  match ds, h with
  | [x], h =>
    obtain ⟨n, h1, h2⟩ := Option.map_eq_some_iff.mp h
    cases h2
    obtain ⟨v, rfl, q⟩ := rep_one r
    have seq : ∀ {x : D}, Rep K C F π x v → (seqOf S x).map (fun xs => (xs.length : Int)) = some n → rLenA K [v] H Q := fun {x} q h1 => by
      obtain ⟨xs, h3, h4⟩ := Option.map_eq_some_iff.mp h1
      obtain ⟨a, vs, rfl, q2, q3⟩ := seqOf_ok w q h3
      refine .inl ⟨.ref a, vs.length, rfl, ?_, p.val w (by rw [q3.length]; exact congrArg V.int h4)⟩
      rcases q2 with q2 | q2
      · exact .inl ⟨vs, q2, rfl⟩
      · exact .inr ⟨vs, q2, rfl⟩
    cases x with
    | str z =>
      simp only [lenS] at h1
      split at h1
      · rename_i hz
        cases h1
        cases (show v = .str z from q)
        exact .inl ⟨_, z.length, rfl, ⟨hz, rfl⟩, p.val w rfl⟩
      · cases h1
    | dK kvs =>
      cases h1
      obtain ⟨a, l, o, rfl, q2, q3⟩ := q
      exact .inr (.inl ⟨a, l, rfl, .inr ⟨o, w.ext _ _ q2⟩, p.val w (by rw [(repK_m.mp q3).length]; rfl)⟩)
    | dT kvs =>
      cases h1
      obtain ⟨a, l, o, rfl, q2, q3⟩ := q
      exact .inr (.inr ⟨a, l, rfl, .inr ⟨o, w.ext _ _ q2⟩, p.val w (by rw [(repT_m.mp q3).length]; rfl)⟩)
    | ptr k =>
      have h1 : (match S[k]? with
        | some (.lst xs) => some (xs.length : Int)
        | some (.dK kvs) => some (kvs.length : Int)
        | some (.dT kvs) => some (kvs.length : Int)
        | _ => none) = some n := h1
      obtain ⟨a, rfl, hp⟩ := q
      obtain ⟨ob, o1, o2⟩ := w.obj hp
      rw [o1] at h1
      cases ob with
      | lst xs =>
        cases h1
        obtain ⟨vs, v1, v2⟩ := o2
        exact .inl ⟨.ref a, vs.length, rfl, .inl ⟨vs, .inl (.inl v1), rfl⟩, p.val w (by rw [v2.length]; rfl)⟩
      | dK kvs =>
        cases h1
        obtain ⟨l, q2, q3⟩ := o2
        exact .inr (.inl ⟨a, l, rfl, .inl q2, p.val w (by rw [(repK_m.mp q3).length]; rfl)⟩)
      | dT kvs =>
        cases h1
        obtain ⟨l, q2, q3⟩ := o2
        exact .inr (.inr ⟨a, l, rfl, .inl q2, p.val w (by rw [(repT_m.mp q3).length]; rfl)⟩)
      | _ => cases h1
    | _ => exact seq q h1
def fInt (_ : List Ob) : List D → Option D
  | [.int i] => some (.int i)
  | [.bl b] => some (.int (if b then 1 else 0))
  | _ => none
theorem cs_int {K : PySem.W.Frag} : CallS K C (fun xs H Q => (∃ i, xs = [.int i] ∧ Q (.int i) H) ∨ ∃ k, xs = [.bl k] ∧ Q (.int (if k then 1 else 0)) H) fInt := by
  intro Λ F π S H ds vs d h w r Q p
  match ds, h with
  | [.int i], h =>
    cases h
    obtain ⟨v, rfl, q⟩ := rep_one r
    cases (show v = .int i from q)
    exact .inl ⟨i, rfl, p.val w rfl⟩
  | [.bl b], h =>
    cases h
    obtain ⟨v, rfl, q⟩ := rep_one r
    cases (show v = .bl b from q)
    exact .inr ⟨b, rfl, p.val w rfl⟩
def fStr (_ : List Ob) : List D → Option D
  | [.str i] => some (.str i)
  | [.int i] => if i.natAbs.log2 < 1920 then some (.str (toString i)) else none
  | _ => none
def fMax2 (_ : List Ob) : List D → Option D
  | [.int i, .int j] => some (.int (if j > i then j else i))
  | _ => none
theorem cs_max2 {K : PySem.W.Frag} : CallS K C (fun xs H Q => ∃ i j, xs = [.int i, .int j] ∧ Q (.int (if j > i then j else i)) H) fMax2 := by
  intro Λ F π S H ds vs d h w r Q p
  match ds, h with
  | [.int i, .int j], h =>
    cases h
    obtain ⟨v, u, rfl, q, q2⟩ := rep_two r
    cases (show v = .int i from q)
    cases (show u = .int j from q2)
    exact ⟨i, j, rfl, p.val w rfl⟩
def leS (a b : Str) : Bool := decide (a.cps.toList ≤ b.cps.toList)
def sortI (l : List Int) : List Int := l.mergeSort fun a b => decide (a ≤ b)
def sortS (l : List Str) : List Str := l.mergeSort leS
end
end DL
set_option Elab.async false
set_option linter.all false
set_option maxRecDepth 100000
set_option maxHeartbeats 2000000
namespace DL
open PySem PySem.Spec PyProof.Rows L2
section
variable {X : Cx} {C : Ctx} {a b e : Expr} {fa fb f : DF D} {pos : Pos}
def fList (S : List Ob) : List D → Option (List D)
  | [d] => seqOf S d
  | _ => none
def fTuple (S : List Ob) : List D → Option D
  | [d] => (lstOf S d).map D.tup
  | _ => none
inductive Tg where
  | b (n : String) | o (c : Nat)
def tgOf (S : List Ob) : D → Option Tg
  | .non => some (.b "NoneType")
  | .bl _ => some (.b "bool")
  | .int _ => some (.b "int")
  | .str _ => some (.b "str")
  | .lst _ => some (.b "list")
  | .tup _ => some (.b "tuple")
  | .dK _ => some (.b "dict")
  | .obj c _ => some (.o c)
  | .ptr k => match S[k]? with
    | some (.lst _) => some (.b "list")
    | some (.dK _) => some (.b "dict")
    | some (.dT _) => some (.b "dict")
    | some (.ins c _) => some (.o c)
    | _ => none
  | _ => none
def tgV (C : Ctx) : Tg → Value
  | .b n => .type n
  | .o c => .ref (C.cls c)
structure ClOk (K : PySem.W.Frag) (C : Ctx) : Prop where
  cl : ∀ c, Cls K (C.cls c)
  ha : ∀ c, PySem.W.findIn K (.ref (C.cls c)) "__class__" = some (some (.builtin "object.__class__"))
  hn : PySem.W.specialIn K (.builtin "object.__class__") "__get__" = some (some (.builtin "getset_descriptor.__get__"))
  htk : PySem.W.takesIn K (.builtin "object.__class__") = some true
  hm : ∀ c, PySem.W.mroIn K (C.cls c) (.type "object") = some true
theorem ClOk.ty {K : PySem.W.Frag} (h : ClOk K C) {H : Hp} {p dx : Addr} {c : Nat} {fs : List (Str × V)} (e : H p = some (.ins (C.cls c) dx fs)) : TyX K H (.ref p) (.ref (C.cls c)) := .base (.ins e (h.cl c) (h.ha c) h.hn h.htk (h.hm c))
def dIsi (g : Tg → Option Bool) (f : DF D) : DF D := fun E S => (f E S).bind fun p => ((tgOf p.2 p.1).bind g).map fun b => (.bl b, p.2)
def isiB (n : String) : Tg → Option Bool
  | .b m => if m ∈ ["NoneType", "bool", "int", "str", "list", "tuple", "dict"] then some (m == n || (m == "bool" && n == "int")) else none
  | .o _ => some false
def isiO (c : Nat) : Tg → Option Bool
  | .b m => if m ∈ ["NoneType", "bool", "int", "str", "list", "tuple", "dict"] then some false else none
  | .o d => if d < nCls ∧ c < nCls then some (d == c) else none
def dApp (fo f : DF D) : DF D := fun E S => (fo E S).bind fun p => (f E p.2).bind fun q => match p.1 with
  | .ptr k => match p.2[k]?, q.2[k]? with
    | some (.lst _), some (.lst xs) => if xs.length < sizeLine then some (.non, q.2.set k (.lst (xs ++ [q.1]))) else none
    | _, _ => none
  | _ => none
theorem ty_list {K : PySem.W.Frag} {H : Hp} {a : Addr} {xs : List V} (h : H a = some (.lst xs)) : tyV K "list" (.ref a) H := .inl ⟨rfl, xs, .inl (.inl h)⟩
theorem de_append {o : Expr} {apos : Pos} {fo : DF D} (ho : DE X C o fo) (he : DE X C e f) (hbase : attributeBase o "append" X.env (eval o X.env) = eval o X.env := by rfl)
    (hfew : ((backTo pos (starEach [e] X.env)).all (fun x => !x.1) && (backToKw pos (keywordEach [] X.env)).all (fun x => x.1.isSome)
      && decide (([e] : List Expr).length + ([] : List Keyword).length + (if ([] : List Keyword).isEmpty then 0 else 1) < 30)) = true := by rfl)
    (hline : (apos.endLine == pos.line) = true := by rfl) (hs : starEach [e] X.env = (false, eval e X.env) :: starEach [] X.env := by rfl) : DE X C (.Call (.Attribute o "append" apos) [e] [] pos) (dApp fo f) := by
  obtain ⟨t, a1, a2⟩ := ho
  obtain ⟨u, b1, b2⟩ := he
  refine ⟨_, pe_bm PySem.F.plainAttrs_list PySem.F.slot_list_append PySem.F.type_list_append mt_append a1 (pa_cons b1 pa_nil hs) hbase hfew hline hs rfl, fun E S d S' q Λ F π H σ w Q p => ?_⟩
  obtain ⟨⟨x, S1⟩, q1, q⟩ := Option.bind_eq_some_iff.mp q
  obtain ⟨⟨y, S2⟩, q2, q⟩ := Option.bind_eq_some_iff.mp q
  cases x with
  | ptr k =>
    simp only at q
    split at q
    · rename_i _ _ xs0 xs h0 h2
      split at q
      · rename_i hz
        cases q
        refine a2 E S _ S1 q1 Λ F π H σ w _ fun v F1 π1 H1 e1 w1 r1 => ?_
        obtain ⟨c, rfl, hp⟩ := r1
        obtain ⟨ob, o1, o2⟩ := w1.obj hp
        rw [h0] at o1
        cases o1
        obtain ⟨vs, v1, _⟩ := o2
        refine ⟨ty_list v1, b2 E S1 y S2 q2 Λ F1 π1 H1 σ (w.step e1 w1) _ fun z F2 π2 H2 e2 w2 r2 => ?_⟩
        have hp2 := pre_get e2.p hp
        obtain ⟨ob, o1, o2⟩ := w2.obj hp2
        rw [h2] at o1
        cases o1
        obtain ⟨us, u1, u2⟩ := o2
        have e3 := (e1.trans e2).trans (Ext.put (o := .lst (us ++ [z])) hp2)
        exact ⟨c, us, z, rfl, rfl, u1, by rw [u2.length]; exact hz, p .non F2 π2 _ e3 (w2.put hp2 ⟨_, upd_same, u2.append (RepA.one r2)⟩) rfl⟩
      · cases q
    · cases q
  | _ => cases q
def dLst0 (g : List D → Option (D × List D)) (fo : DF D) : DF D := fun E S => (fo E S).bind fun p => match p.1 with
  | .ptr k => match p.2[k]? with
    | some (.lst xs) => (g xs).map fun r => (r.1, p.2.set k (.lst r.2))
    | _ => none
  | _ => none
theorem RepA.reverse {K : PySem.W.Frag} {F : Hp} {π : List Addr} : ∀ {xs : List D} {vs : List V}, RepA K C F π xs vs → RepA K C F π xs.reverse vs.reverse
  | [], vs, r => by rw [show vs = [] from r]; exact rfl
  | x :: xs, vs, r => by
    obtain ⟨v, t, rfl, q1, q2⟩ := r
    rw [List.reverse_cons, List.reverse_cons]
    exact (RepA.reverse q2).append (RepA.one q1)
def dNewK : DF D := fun _ S => some (.ptr S.length, S ++ [.dK []])
def dNewT : DF D := fun _ S => some (.ptr S.length, S ++ [.dT []])
theorem Wd.new_at {K : PySem.W.Frag} {Λ : Lk} {F : Hp} {π : List Addr} {S : List Ob} {H : Hp} (w : Wd K C Λ F π S H) {p : Addr} : Rep K C F (π ++ [p]) (.ptr S.length) (.ref p) :=
  ⟨p, rfl, by rw [← w.len, List.getElem?_append_right (Nat.le_refl _), Nat.sub_self]; rfl⟩
theorem de_newK : DE X C (.Dict [] [] pos) dNewK := by
  refine ⟨_, pe_dnewK, fun E S d S' q Λ F π H σ w Q p => ?_⟩
  cases q
  exact fun a ha => p (.ref a) F (π ++ [a]) _ (Ext.new ha) (w.w.new ha ⟨[], upd_same, rfl⟩) w.w.new_at
def isDict (S : List Ob) : D → Bool
  | .dK _ => true
  | .dT _ => true
  | .ptr k => match S[k]? with
    | some (.dK _) => true
    | some (.dT _) => true
    | some (.lkK _) => true
    | some (.lkT _) => true
    | _ => false
  | _ => false
def dGet1 (fd fk : DF D) : DF D := fun E S => (fd E S).bind fun p => if isDict p.2 p.1 = true then (fk E p.2).bind fun q => (dictGet q.2 p.1 q.1).map fun o => (o.getD .non, q.2) else none
def dGet2 (fd fk fx : DF D) : DF D := fun E S => (fd E S).bind fun p => if isDict p.2 p.1 = true then (fk E p.2).bind fun q => (fx E q.2).bind fun r => (dictGet r.2 p.1 q.1).map fun o => (o.getD r.1, r.2) else none
def dSetd (fd fk fx : DF D) : DF D := fun E S => (fd E S).bind fun p => if isDict p.2 p.1 = true then (fk E p.2).bind fun q => (fx E q.2).bind fun r => match p.1 with
  | .ptr j => match r.2[j]?, keyOf q.1 with
    | some (.dK kvs), some k => if kvs.length < sizeLine then match getD' kvs k with
        | some d => some (d, r.2)
        | none => some (r.1, r.2.set j (.dK (putD kvs k r.1)))
      else none
    | _, _ => none
  | _ => none
  else none
end
end DL
set_option Elab.async false
set_option linter.all false
set_option maxRecDepth 100000
set_option maxHeartbeats 2000000
namespace DL
open PySem PySem.Spec PyProof.Rows L2
section
variable {X : Cx} {C : Ctx} {a b e o : Expr} {fa fb f fo : DF D} {pos : Pos}
def fldOf (S : List Ob) (d : D) (x : Str) : Option D := match d with
  | .obj _ fs => fs.lookup x
  | .ptr k => match S[k]? with
    | some (.ins _ fs) => fs.lookup x
    | _ => none
  | _ => none
def dFld (x : Str) (f : DF D) : DF D := fun E S => (f E S).bind fun p => (fldOf p.2 p.1 x).map fun d => (d, p.2)
def putFD (x : Str) (d : D) : List (Str × D) → List (Str × D)
  | [] => [(x, d)]
  | (y, z) :: r => if y = x then (y, d) :: r else (y, z) :: putFD x d r
theorem RepF.put {K : PySem.W.Frag} {F : Hp} {π : List Addr} {x : Str} {d : D} {v : V} (rd : Rep K C F π d v) : ∀ {fs : List (Str × D)} {l : List (Str × V)}, RepF K C F π fs l → RepF K C F π (putFD x d fs) (putF x v l)
  | [], l, r => by
    rw [show l = [] from r]
    exact ⟨v, [], rfl, rd, rfl⟩
  | (y, z) :: fs, l, r => by
    obtain ⟨u, t, rfl, q1, q2⟩ := r
    unfold putFD putF
    split
    · exact ⟨v, t, rfl, rd, q2⟩
    · exact ⟨u, _, rfl, q1, RepF.put rd q2⟩
theorem RepF.length {K : PySem.W.Frag} {F : Hp} {π : List Addr} : ∀ {fs : List (Str × D)} {l : List (Str × V)}, RepF K C F π fs l → l.length = fs.length
  | [], l, r => by rw [show l = [] from r]; rfl
  | (y, z) :: fs, l, r => by
    obtain ⟨u, t, rfl, q1, q2⟩ := r
    rw [List.length_cons, List.length_cons, RepF.length q2]
def sFldD (x : Str) (fo fv : DF D) : DFS := fun E S => (fv E S).bind fun v => (fo E v.2).bind fun p => match p.1 with
  | .ptr k => match p.2[k]? with
    | some (.ins c fs) => if fs.length < 1000 then some (.nx E, p.2.set k (.ins c (putFD x v.1 fs))) else none
    | _ => none
  | _ => none
end
section
variable {X : Cx} {C : Ctx} {e : Expr} {es : List Expr} {fs : DF (List D)} {pos : Pos}
structure ClsFn (P : Program) (w : World) (K : PySem.W.Frag) (mg : Str → Option Value) (base : Heap) (C : Ctx) (k : Nat) (x : Str) (c n : Nat) (sem : List D → List Ob → Option (D × List Ob)) : Prop where
  ex : ∃ f fd ps, Mk K (C.cls c) f ∧ FnOk P w K mg base CX0 k f fd ps (spD K C n sem) ∧ mg x = some (.ref (C.cls c)) ∧ Binds K fd ps []
def dProp (c : Nat) (sem : List D → List Ob → Option (D × List Ob)) (f : DF D) : DF D := fun E S => (f E S).bind fun p => match tgOf p.2 p.1 with
  | some (.o c') => if c' = c then sem [p.1] p.2 else none
  | _ => none
structure PropFn (P : Program) (w : World) (K : PySem.W.Frag) (mg : Str → Option Value) (base : Heap) (C : Ctx) (k : Nat) (x : Str) (c : Nat) (sem : List D → List Ob → Option (D × List Ob)) : Prop where
  ex : ∃ p g fd ps, PropOf K (C.cls c) x p g ∧ FnOk P w K mg base CX0 k g fd ps (spD K C 1 sem) ∧ Binds K fd ps []
def dMeth (c n : Nat) (m : Str) (sem : List D → List Ob → Option (D × List Ob)) (f : DF D) (fs : DF (List D)) : DF D := fun E S => (f E S).bind fun p => match tgOf p.2 p.1 with
  | some (.o c') => if c' = c ∧ fldOf p.2 p.1 m = none then (fs E p.2).bind fun q => if q.1.length + 1 = n then sem (p.1 :: q.1) q.2 else none else none
  | _ => none
structure MethFn (P : Program) (w : World) (K : PySem.W.Frag) (mg : Str → Option Value) (base : Heap) (C : Ctx) (k : Nat) (m : Str) (c n : Nat) (sem : List D → List Ob → Option (D × List Ob)) : Prop where
  ex : ∃ f fd ps, Meth K (C.cls c) m f ∧ FnOk P w K mg base CX0 k f fd ps (spD K C n sem) ∧ Binds K fd ps []
end
section
variable {X : Cx} {C : Ctx} {a b e : Expr} {fa fb f : DF D} {pos : Pos}
def opMul (S : List Ob) : D → D → Option D
  | .int i, .int j => if (-(2 ^ 64) < i ∧ i < 2 ^ 64) ∨ (-(2 ^ 64) < j ∧ j < 2 ^ 64) then some (.int (i * j)) else none
  | x, .int k => match lstOf S x with
    | some xs => if -(2 ^ 63) ≤ k ∧ k < 2 ^ 63 ∧ xs.length * k.toNat ≤ sizeLine then some (.lst (List.replicate k.toNat xs).flatten) else none
    | none => none
  | _, _ => none
theorem RepA.rep {K : PySem.W.Frag} {F : Hp} {π : List Addr} {xs : List D} {vs : List V} (r : RepA K C F π xs vs) : ∀ n : Nat, RepA K C F π (List.replicate n xs).flatten (List.replicate n vs).flatten
  | 0 => rfl
  | n + 1 => by
    rw [List.replicate_succ, List.replicate_succ, List.flatten_cons, List.flatten_cons]
    exact r.append (RepA.rep r n)
theorem o2_mul {K : PySem.W.Frag} : Op2 K C (fun x y H Q => rI CMul (fun i j => .int (i * j)) x y H Q ∨ rRep x y H Q) opMul := by
  intro Λ F π S H dx dy x y d h w rx ry Q p
  unfold opMul at h
  split at h
  · split at h
    · rename_i hz
      cases h
      exact .inl ⟨_, _, rx, ry, hz, p.val w rfl⟩
    · cases h
  · split at h
    · rename_i xs hx
      split at h
      · rename_i hz
        cases h
        obtain ⟨l, vs, rfl, l2, l3⟩ := lstOf_ok w rx hx
        exact .inr ⟨l, _, vs, rfl, ry, l2, hz.1, hz.2.1, by rw [l3.length]; exact hz.2.2, fun z hz' => (Post.tree p).at w hz' (l3.rep _)⟩
      · cases h
    · cases h
  · cases h
theorem de_mul (ha : DE X C a fa) (hb : DE X C b fb) : DE X C (.BinOp a .Mult b pos) (dBin opMul fa fb) := de_op (op_mul.or op_rep) o2_mul ha hb
def dRepN (fa fb : DF D) : DF (List D) := fun E S => (fa E S).bind fun p => (fb E p.2).bind fun q => match lstOf q.2 p.1, q.1 with
  | some xs, .int k => if -(2 ^ 63) ≤ k ∧ k < 2 ^ 63 ∧ xs.length * k.toNat ≤ sizeLine then some ((List.replicate k.toNat xs).flatten, q.2) else none
  | _, _ => none
theorem dn_rep (ha : DE X C a fa) (hb : DE X C b fb) : DN X C (.BinOp a .Mult b pos) (dRepN fa fb) := by
  obtain ⟨ta, a1, a2⟩ := ha
  obtain ⟨tb, b1, b2⟩ := hb
  refine ⟨_, pe_op op_rep a1 b1, fun E S d S' q Λ F π H σ w Q p => ?_⟩
  obtain ⟨⟨x, S1⟩, q1, q⟩ := Option.bind_eq_some_iff.mp q
  obtain ⟨⟨y, S2⟩, q2, q⟩ := Option.bind_eq_some_iff.mp q
  simp only at q
  split at q
  · rename_i xs k hx
    split at q
    · rename_i hz
      cases q
      refine a2 E S x S1 q1 Λ F π H σ w _ fun v F1 π1 H1 e1 w1 r1 => ?_
      refine b2 E S1 _ _ q2 Λ F1 π1 H1 σ (w.step e1 w1) _ fun u F2 π2 H2 e2 w2 r2 => ?_
      obtain ⟨l, vs, rfl, l2, l3⟩ := lstOf_ok w2 (Rep.mono e2.f e2.p _ _ r1) hx
      exact ⟨l, _, vs, rfl, r2, l2, hz.1, hz.2.1, by rw [l3.length]; exact hz.2.2, fun z hz' => (p.step (e1.trans e2)).at w2 hz' (l3.rep _)⟩
    · cases q
  · cases q
def dCatN (fa fb : DF D) : DF (List D) := fun E S => (fa E S).bind fun p => (fb E p.2).bind fun q => match lstOf q.2 p.1, lstOf q.2 q.1 with
  | some xs, some ys => if xs.length + ys.length ≤ sizeLine then some (xs ++ ys, q.2) else none
  | _, _ => none
theorem dn_cat (ha : DE X C a fa) (hb : DE X C b fb) : DN X C (.BinOp a .Add b pos) (dCatN fa fb) := by
  obtain ⟨ta, a1, a2⟩ := ha
  obtain ⟨tb, b1, b2⟩ := hb
  refine ⟨_, pe_op op_cat a1 b1, fun E S d S' q Λ F π H σ w Q p => ?_⟩
  obtain ⟨⟨x, S1⟩, q1, q⟩ := Option.bind_eq_some_iff.mp q
  obtain ⟨⟨y, S2⟩, q2, q⟩ := Option.bind_eq_some_iff.mp q
  simp only at q
  split at q
  · rename_i xs ys hx hy
    split at q
    · rename_i hz
      cases q
      refine a2 E S x S1 q1 Λ F π H σ w _ fun v F1 π1 H1 e1 w1 r1 => ?_
      refine b2 E S1 _ _ q2 Λ F1 π1 H1 σ (w.step e1 w1) _ fun u F2 π2 H2 e2 w2 r2 => ?_
      obtain ⟨l, vs, rfl, l2, l3⟩ := lstOf_ok w2 (Rep.mono e2.f e2.p _ _ r1) hx
      obtain ⟨m, us, rfl, m2, m3⟩ := lstOf_ok w2 r2 hy
      exact ⟨l, m, vs, us, rfl, rfl, l2, m2, by rw [l3.length, m3.length]; exact hz, fun z hz' => (p.step (e1.trans e2)).at w2 hz' (l3.append m3)⟩
    · cases q
  · cases q
def opDiv (_ : List Ob) : D → D → Option D
  | .int i, .int j => if 0 < j ∧ j < 1073741824 then some (.int (i / j)) else none
  | _, _ => none
theorem o2_div {K : PySem.W.Frag} : Op2 K C (rI CDiv fun i j => .int (i / j)) opDiv := by
  intro Λ F π S H dx dy x y d h w rx ry Q p
  unfold opDiv at h
  split at h
  · split at h
    · rename_i hz
      cases h
      exact ⟨_, _, rx, ry, hz, p.val w rfl⟩
    · cases h
  · cases h
theorem de_div (ha : DE X C a fa) (hb : DE X C b fb) : DE X C (.BinOp a .FloorDiv b pos) (dBin opDiv fa fb) := de_op op_fdiv o2_div ha hb
def opPow (_ : List Ob) : D → D → Option D
  | .int i, .int j => if 0 ≤ j ∧ (Builtin.Int.intBits i : Int) * j ≤ 2 ^ 27 then some (.int (i ^ j.toNat)) else none
  | _, _ => none
def CPowB (i j : Int) : Prop := 0 ≤ j ∧ (Builtin.Int.intBits i : Int) * j ≤ 2 ^ 27
theorem op_powB {X : Cx} : OpR X (binaryOp .Pow) (rI CPowB fun i j => .int (i ^ j.toNat)) := opI fun _ _ _ _ _ _ _ hc q => PyProof.Rows.pow_int hc.1 hc.2 q
theorem o2_pow {K : PySem.W.Frag} : Op2 K C (rI CPowB fun i j => .int (i ^ j.toNat)) opPow := by
  intro Λ F π S H dx dy x y d h w rx ry Q p
  unfold opPow at h
  split at h
  · split at h
    · rename_i hz
      cases h
      exact ⟨_, _, rx, ry, hz, p.val w rfl⟩
    · cases h
  · cases h
theorem de_pow (ha : DE X C a fa) (hb : DE X C b fb) : DE X C (.BinOp a .Pow b pos) (dBin opPow fa fb) := de_op op_powB o2_pow ha hb
end
end DL
set_option Elab.async false
set_option linter.all false
set_option maxRecDepth 100000
set_option maxHeartbeats 2000000
namespace DL
open PySem PySem.Spec PyProof.Rows L2
section
variable {prog : Program} {w : World} {M : Model} {A : Around} {E : Value → Shared → Prop} {s : Shared} {K : PySem.W.Frag} {x Cl : Addr} {ox : Obj} {od : Option Obj} {nm : Str} {id : String} {args : List Value}
structure NeOk (K : PySem.W.Frag) (Cl : Addr) : Prop where
  cls : ∃ (nm q : Str) (N : Addr) (bs bm : List Value) (hdct : Bool) (sn : List Str) (sub : List Value) (ab : Bool) (col : Option Bool) (dd : Option Addr) (k0 k1 k2 k3 k5 : Option Value) (newId : String),
    K.lookup Cl = some (excClassObj nm q Cl N bs bm hdct sn sub ab col dd k0 k1 k2 k3 k5 newId) ∧ bm.contains (.type "object") = true
  ne : PySem.W.findIn K (.ref Cl) "__ne__" = some (some (.builtin "object.__ne__"))
end
section
variable {X : Cx} {C : Ctx}
structure EqFn (P : Program) (w : World) (K : PySem.W.Frag) (mg : Str → Option Value) (base : Heap) (C : Ctx) (k c : Nat) (sem : List D → List Ob → Option (D × List Ob)) : Prop where
  ex : ∃ f fd ps, FnOk P w K mg base CX0 k f fd ps (spD K C 2 sem) ∧ PySem.W.findIn K (.ref (C.cls c)) "__eq__" = some (some (.ref f)) ∧ PySem.W.isFn K (.ref f) = true ∧ Binds K fd ps []
  no : NeOk K (C.cls c)
  nf : ∀ t : Tg, (match t with
    | .b m => m ∈ ["NoneType", "bool", "int", "str", "list", "tuple", "dict"]
    | .o d => d < nCls) → PySem.W.notFirst K (C.cls c) (tgV C t) = true
def okT : Tg → Bool
  | .b m => decide (m ∈ ["NoneType", "bool", "int", "str", "list", "tuple", "dict"])
  | .o d => decide (d < nCls)
def dOwn (c : Nat) (sem : List D → List Ob → Option (D × List Ob)) (neg : Bool) (fa fb : DF D) : DF D := fun E S => (fa E S).bind fun p => (fb E p.2).bind fun q => match tgOf q.2 p.1, tgOf q.2 q.1 with
  | some (.o c'), some t => if c' = c ∧ okT t = true then (sem [p.1, q.1] q.2).bind fun r => match r.1 with
      | .bl b => some (.bl (if neg then !b else b), r.2)
      | _ => none
    else none
  | _, _ => none
variable {a b : Expr} {fa fb : DF D} {pos : Pos} {k c : Nat} {sem : List D → List Ob → Option (D × List Ob)}
end
end DL
set_option Elab.async false
set_option linter.all false
set_option maxRecDepth 100000
set_option maxHeartbeats 2000000
namespace DL
open PySem PySem.Spec PyProof.Rows L2
def lockO (S : List Ob) (k : Nat) : Option (List Ob) := match S[k]? with
  | some (.dK l) => some (S.set k (.lkK l))
  | some (.dT l) => some (S.set k (.lkT l))
  | some (.dN l) => some (S.set k (.lkN l))
  | _ => none
def freeO (S : List Ob) (k : Nat) : Option (List Ob) := match S[k]? with
  | some (.lkK l) => some (S.set k (.dK l))
  | some (.lkT l) => some (S.set k (.dT l))
  | some (.lkN l) => some (S.set k (.dN l))
  | _ => none
section
variable {K : PySem.W.Frag} {C : Ctx} {Λ : Lk} {F F' : Hp} {π π' : List Addr} {S S' : List Ob} {H H' : Hp}
end
def lockAt {α : Type} (kf : DF D) (f : DF α) : DF α := fun E S => match (kf E S).map Prod.fst with
  | some (.ptr k) => (lockO S k).bind fun S1 => (f E S1).bind fun r => (freeO r.2 k).map fun S2 => (r.1, S2)
  | _ => none
section
variable {K : PySem.W.Frag} {C : Ctx} {kf : DF D}
end
section
variable {X : Cx} {C : Ctx}
def iDk (g : Nat → Src) (f : DF D) : DF Src := fun E S => (f E S).bind fun p => match p.1 with
  | .ptr k => match p.2[k]? with
    | some (.lkK _) => some (g k, p.2)
    | some (.lkT _) => some (g k, p.2)
    | _ => none
  | _ => none
end
structure Bd (K : PySem.W.Frag) (C : Ctx) (Λ : Lk) (A : Addr) (F : Hp) (π : List Addr) (H : Hp) (F' : Hp) (π' : List Addr) (S' : List Ob) (H' : Hp) (ob : Ob) : Prop where
  e : Ext F π H F' π' H'
  w : Wd K C Λ F' π' S' H'
  f : F' A = none
  n : A ∉ π'
  r : ObR K C F' π' none H' A ob
theorem ObR.some {K : PySem.W.Frag} {C : Ctx} {F : Hp} {π : List Addr} {lo : Option (Obj × HO)} {H : Hp} {p : Addr} : ∀ {o : Ob}, ObR K C F π lo H p o → ∃ x, H p = some x ∧ ∀ us, x ≠ .tup us
  | .lst xs, ⟨vs, q, _⟩ => ⟨_, q, fun _ => nofun⟩
  | .dK xs, ⟨vs, q, _⟩ => ⟨_, q, fun _ => nofun⟩
  | .dT xs, ⟨vs, q, _⟩ => ⟨_, q, fun _ => nofun⟩
  | .ins c xs, ⟨_, vs, q, _⟩ => ⟨_, q, fun _ => nofun⟩
  | .lkK xs, ⟨o, vs, z, q, _⟩ => ⟨_, q, fun _ => nofun⟩
  | .lkT xs, ⟨o, vs, z, q, _⟩ => ⟨_, q, fun _ => nofun⟩
  | .dN xs, ⟨vs, q, _⟩ => ⟨_, q, fun _ z => by unfold NObj at z; cases z⟩
  | .lkN xs, ⟨o, vs, z, q, _⟩ => ⟨_, q, fun _ => nofun⟩
section
variable {K : PySem.W.Frag} {C : Ctx} {Λ : Lk} {A : Addr} {F F' F2 : Hp} {π π' π2 : List Addr} {S' S2 : List Ob} {H H' H2 : Hp} {ob : Ob}
theorem Bd.step (b : Bd K C Λ A F π H F' π' S' H' ob) (e : Ext F' π' H' F2 π2 H2) (w : Wd K C Λ F2 π2 S2 H2) : Bd K C Λ A F π H F2 π2 S2 H2 ob := by
  obtain ⟨x, hx, hn⟩ := b.r.some
  have nt : ∀ ps, x ≠ .tbl ps := fun ps z => ObR.plain hx (TblExt.tbl z) b.r
  exact ⟨b.e.trans e, w, (e.m A x hx b.n b.f nt).resolve_left fun ⟨us, z⟩ => hn us z, e.n A x hx b.n, ObR.mono e.f e.p (ObR.heap ((e.k A x hx b.n nt).trans hx.symm) b.r)⟩
theorem Bd.put (b : Bd K C Λ A F π H F' π' S' H' ob) (hA : H A = none) {o : HO} {ob2 : Ob} (r : ObR K C F' π' none (upd H' A o) A ob2) : Bd K C Λ A F π H F' π' S' (upd H' A o) ob2 := by
  refine ⟨⟨b.e.f, b.e.p, fun a o h n t => ?_, b.e.n, b.e.m, fun a o h n => ?_⟩, ⟨fun a o h => ?_, b.w.len, b.w.nd, b.w.fr, fun k o q h1 h2 => ObR.heap (upd_ne fun c => b.n (by rw [← c]; exact List.mem_of_getElem? h2)) (b.w.ob k o q h1 h2),
    fun t ht => TabS.stay (b.w.tb t ht) fun x u e n => (upd_ne fun z => by subst z; exact ObR.plain e n b.r).trans e, b.w.nt⟩, b.f, b.n, r⟩
  · rw [upd_ne (ne_of_none h hA)]
    exact b.e.k a o h n t
  · rw [upd_ne (ne_of_none h hA)]
    exact b.e.th a o h n
  · rw [upd_ne (ne_of_none h b.f)]
    exact b.w.ext a o h
theorem Bd.start (w : Wd K C Λ F π S' H) (hA : H A = none) {o : HO} (r : ObR K C F π none (upd H A o) A ob) : Bd K C Λ A F π H F π S' (upd H A o) ob :=
  ⟨Ext.junk (same_new hA), w.junk (same_new hA), w.frozen hA, w.notin hA, r⟩
end
def dcF (tg : DFG) (t : DF Bool) (kx vx : DF D) (s : Src) (E : SE) : Nat → Nat → List (Key × D) → List Ob → Option (List (Key × D) × List Ob)
  | 0, i, acc, S => match s.at S i with
    | some none => some (acc, S)
    | _ => none
  | n + 1, i, acc, S => match s.at S i with
    | some none => some (acc, S)
    | some (some d) => (tg d E S).bind fun p => (t p.1 p.2).bind fun q => if q.1 = true then (kx p.1 q.2).bind fun k => (vx p.1 k.2).bind fun r => (keyOf k.1).bind fun key => if acc.length < sizeLine then dcF tg t kx vx s E n (i + 1) (putD acc key r.1) r.2 else none else dcF tg t kx vx s E n (i + 1) acc q.2
    | none => none
def dDc (vs : List Nat) (fi : DF Src) (tg : DFG) (t : DF Bool) (kx vx : DF D) : DF (List (Key × D)) := fun E S => (fi E S).bind fun p => dcF tg t kx vx p.1 (wipeE E vs) (p.1.len p.2) 0 [] p.2
def PostM (K : PySem.W.Frag) (C : Ctx) (Λ : Lk) (F : Hp) (π : List Addr) (H : Hp) (S' : List Ob) (ob : Ob) (Q : VK) : Prop :=
  ∀ p F' π' H', Bd K C Λ p F π H F' π' S' H' ob → H p = none → Q (.ref p) H'
def SndM (K : PySem.W.Frag) (C : Ctx) (t : TE) (f : DF (List (Key × D))) : Prop := ∀ E S l S', f E S = some (l, S') → ∀ Λ F π H σ, At K C Λ F π S H σ E → ∀ Q : VK, PostM K C Λ F π H S' (.dK l) Q → t σ H Q
section
variable {K : PySem.W.Frag} {C : Ctx} {Λ : Lk} {F F' : Hp} {π π' : List Addr} {S S' : List Ob} {H H' : Hp} {l : List (Key × D)} {Q : VK}
theorem PostM.imp {ob : Ob} {R : VK} (p : PostM K C Λ F π H S' ob Q) (h : ∀ v H, Q v H → R v H) : PostM K C Λ F π H S' ob R := fun a F2 π2 H2 b n => h _ _ (p a F2 π2 H2 b n)
theorem Post.treeM (p : Post K C Λ F π H S' (.dK l) Q) : PostM K C Λ F π H S' (.dK l) (Lkd Q) := fun a F2 π2 H2 b n => by
  have bR := b.r
  obtain ⟨vs, ha, r⟩ := b.r
  refine ⟨[a], fun c hc => ⟨.dK vs, (List.mem_singleton.mp hc).symm ▸ ha, trivial⟩, fun H3 hl => ?_⟩
  obtain ⟨u, o, h1, h2, h3⟩ := hl.2 a (List.mem_singleton.mpr rfl)
  rw [ha] at h1
  cases h1
  have ne : ∀ x, x ≠ a → H3 x = H2 x := fun x hx => hl.1 x fun z => hx (List.mem_singleton.mp z)
  have na : ∀ p ∈ π2, p ≠ a := fun p hp z => b.n (z ▸ hp)
  refine p (.ref a) (upd F2 a (.frz o (.dK vs))) π2 H3 ⟨b.e.f.trans (same_new b.f), b.e.p, fun x o' h z t => (ne x (ne_of_none h n)).trans (b.e.k x o' h z t), b.e.n, fun x o' h z q t => (b.e.m x o' h z q t).imp id fun y => (upd_ne (ne_of_none h n)).trans y, fun x o' h z => (b.e.th x o' h z).imp fun _ y => (ne x (ne_of_none h n)).trans y⟩ ⟨fun x u q => ?_, b.w.len, b.w.nd, fun q hq => (upd_ne (na q hq)).trans (b.w.fr q hq), fun k ob q h1 h2 => ?_,
    fun t ht => TabS.stay (b.w.tb t ht) fun x u e nn => (ne x fun z => by subst z; exact ObR.plain e nn bR).trans e, fun x ps q => by
      by_cases hx : x = a
      · subst hx
        rw [upd_same] at q
        cases q
      · rw [upd_ne hx] at q
        exact b.w.nt x ps q⟩ ⟨a, vs, o, rfl, upd_same, RepK.mono (same_new b.f) (List.prefix_refl _) _ _ r⟩
  · by_cases hx : x = a
    · subst hx
      rw [upd_same] at q
      cases q
      exact h3
    · rw [upd_ne hx] at q
      exact (ne x hx).trans (b.w.ext x u q)
  · exact ObR.mono (same_new b.f) (List.prefix_refl _) (ObR.heap (ne q (na q (List.mem_of_getElem? h2))) (b.w.ob k ob q h1 h2))
theorem Post.newM (p : Post K C Λ F π H (S' ++ [.dK l]) (.ptr S'.length) Q) : PostM K C Λ F π H S' (.dK l) Q := fun a F2 π2 H2 b n => by
  obtain ⟨vs, ha, r⟩ := b.r
  exact p (.ref a) F2 (π2 ++ [a]) H2 ⟨b.e.f, b.e.p.trans (List.prefix_append _ _), b.e.k, fun x o h z q => by
      rcases List.mem_append.mp q with q | q
      · exact b.e.n x o h z q
      · rw [List.mem_singleton.mp q, n] at h
        exact (nomatch h), b.e.m, b.e.th⟩ (b.w.adopt b.f b.n ⟨vs, ha, RepK.mono (Same.refl _) (List.prefix_append _ _) _ _ r⟩)
    ⟨a, rfl, by rw [← b.w.len, List.getElem?_append_right (Nat.le_refl _), Nat.sub_self]; rfl⟩
def dTreeK (f : DF (List (Key × D))) : DF D := fun E S => (f E S).map fun p => (.dK p.1, p.2)
def dNewD (f : DF (List (Key × D))) : DF D := fun E S => (f E S).map fun p => (.ptr p.2.length, p.2 ++ [.dK p.1])
theorem SndM.snd {t : TE} {f : DF (List (Key × D))} (h : SndM K C t f) (new : Bool) : Snd K C (fun σ H Q => t σ H (Lkd Q)) (if new then dNewD f else dTreeK f) := by
  cases new with
  | true =>
    intro E S d S' q Λ F π H σ w Q p
    obtain ⟨⟨xs, S1⟩, q1, q2⟩ := Option.map_eq_some_iff.mp q
    cases q2
    exact h E S xs S1 q1 Λ F π H σ w _ (p.newM.imp fun _ _ => Lkd.none)
  | false =>
    intro E S d S' q Λ F π H σ w Q p
    obtain ⟨⟨xs, S1⟩, q1, q2⟩ := Option.map_eq_some_iff.mp q
    cases q2
    exact h E S xs S1 q1 Λ F π H σ w _ p.treeM
def lc2F (vs1 : List Nat) (tg : DFG) (t : DF Bool) (i1 : DF Src) (tg1 : DFG) (t1 : DF Bool) (el : DF D) (s : Src) (E : SE) : Nat → Nat → List D → List Ob → Option (List D × List Ob)
  | 0, i, acc, S => match s.at S i with
    | some none => some (acc, S)
    | _ => none
  | n + 1, i, acc, S => match s.at S i with
    | some none => some (acc, S)
    | some (some d) => (tg d E S).bind fun p => (t p.1 p.2).bind fun q => if q.1 = true then (i1 p.1 q.2).bind fun r => (lcF tg1 t1 el r.1 (wipeE p.1 vs1) (r.1.len r.2) 0 acc r.2).bind fun u => lc2F vs1 tg t i1 tg1 t1 el s E n (i + 1) u.1 u.2 else lc2F vs1 tg t i1 tg1 t1 el s E n (i + 1) acc q.2
    | none => none
def dLc2 (vs vs1 : List Nat) (fi : DF Src) (tg : DFG) (t : DF Bool) (i1 : DF Src) (tg1 : DFG) (t1 : DF Bool) (el : DF D) : DF (List D) := fun E S => (fi E S).bind fun p => lc2F vs1 tg t i1 tg1 t1 el p.1 (wipeE E vs) (p.1.len p.2) 0 [] p.2
end
end DL
set_option Elab.async false
set_option linter.all false
set_option maxRecDepth 100000
set_option maxHeartbeats 2000000
namespace DL
open PySem PySem.Spec PyProof.Rows L2
section
variable {X : Cx} {C : Ctx} {tg iter elt kx tg1 iter1 : Expr} {ifs ifs1 : List Expr} {scope : Scope} {ws ws1 vs1 : List Nat} {pos spos : Pos} {fi fi1 : DF Src} {fg fg1 : DFG} {ft ft1 : DF Bool} {fe fk : DF D}
theorem SndN.snd {K : PySem.W.Frag} {t : TE} {f : DF (List D)} (h : SndN K C t f) (new : Bool) : Snd K C t (if new then dNew f else dTree f) := by
  cases new with
  | true =>
    intro E S d S' q Λ F π H σ w Q p
    obtain ⟨⟨xs, S1⟩, q1, q2⟩ := Option.map_eq_some_iff.mp q
    cases q2
    exact h E S xs S1 q1 Λ F π H σ w Q p.new
  | false =>
    intro E S d S' q Λ F π H σ w Q p
    obtain ⟨⟨xs, S1⟩, q1, q2⟩ := Option.map_eq_some_iff.mp q
    cases q2
    exact h E S xs S1 q1 Λ F π H σ w Q p.tree
end
section
variable (n : Nat) (S : List Ob)
mutual
/-- d' (told first) is d with the things behind n told -/
def Rz : D → D → Prop
  | .non, d => d = .non
  | .bl b, d => d = .bl b
  | .int i, d => d = .int i
  | .str x, d => d = .str x
  | .lst ys, d => (∃ xs, d = .lst xs ∧ RzA ys xs) ∨ ∃ k xs, n ≤ k ∧ d = .ptr k ∧ S[k]? = some (.lst xs) ∧ RzA ys xs
  | .tup ys, d => ∃ xs, d = .tup xs ∧ RzA ys xs
  | .ktp ys, d => ∃ xs, d = .ktp xs ∧ RzA ys xs
  | .dK ys, d => (∃ xs, d = .dK xs ∧ RzK ys xs) ∨ ∃ k xs, n ≤ k ∧ d = .ptr k ∧ S[k]? = some (.dK xs) ∧ RzK ys xs
  | .dT ys, d => (∃ xs, d = .dT xs ∧ RzT ys xs) ∨ ∃ k xs, n ≤ k ∧ d = .ptr k ∧ S[k]? = some (.dT xs) ∧ RzT ys xs
  | .obj c ys, d => (∃ xs, d = .obj c xs ∧ RzF ys xs) ∨ ∃ k xs, n ≤ k ∧ d = .ptr k ∧ S[k]? = some (.ins c xs) ∧ RzF ys xs
  | .ptr k, d => d = .ptr k ∧ k < n
  | .scr, d => d = .scr
  | .ty m, d => d = .ty m
  | .cls c, d => d = .cls c
  | .fn, d => d = .fn
  | .exc c y, d => ∃ x, d = .exc c x ∧ Rz y x
termination_by structural x => x
def RzA : List D → List D → Prop
  | [], xs => xs = []
  | y :: ys, xs => ∃ x r, xs = x :: r ∧ Rz y x ∧ RzA ys r
termination_by structural x => x
def RzK : List (Key × D) → List (Key × D) → Prop
  | [], xs => xs = []
  | (k, y) :: ys, xs => ∃ x r, xs = (k, x) :: r ∧ Rz y x ∧ RzK ys r
termination_by structural x => x
def RzT : List (List Key × D) → List (List Key × D) → Prop
  | [], xs => xs = []
  | (k, y) :: ys, xs => ∃ x r, xs = (k, x) :: r ∧ Rz y x ∧ RzT ys r
termination_by structural x => x
def RzF : List (Str × D) → List (Str × D) → Prop
  | [], xs => xs = []
  | (k, y) :: ys, xs => ∃ x r, xs = (k, x) :: r ∧ Rz y x ∧ RzF ys r
termination_by structural x => x
end
def RzN : List (D × D) → List (D × D) → Prop
  | [], xs => xs = []
  | (k, y) :: ys, xs => ∃ x r, xs = (k, x) :: r ∧ Rz n S k k ∧ Rz n S y x ∧ RzN ys r
def RzO : Ob → Ob → Prop
  | .dN ys, .dN xs => RzN n S ys xs
  | .lkN ys, .lkN xs => RzN n S ys xs
  | .lst ys, .lst xs => RzA n S ys xs
  | .dK ys, .dK xs => RzK n S ys xs
  | .dT ys, .dT xs => RzT n S ys xs
  | .ins c ys, .ins c' xs => c = c' ∧ RzF n S ys xs
  | .lkK ys, .lkK xs => RzK n S ys xs
  | .lkT ys, .lkT xs => RzT n S ys xs
  | _, _ => False
end
section
variable {K : PySem.W.Frag} {C : Ctx} {Λ : Lk} {n : Nat} {S : List Ob} {F F' H : Hp} {π π' : List Addr}
structure Frz (K : PySem.W.Frag) (C : Ctx) (n : Nat) (S : List Ob) (F : Hp) (π : List Addr) (H F' : Hp) (π' : List Addr) : Prop where
  s : Same F F'
  lo : ∀ k a, k < n → π[k]? = some a → π'[k]? = some a
  hi : ∀ k ob a, n ≤ k → S[k]? = some ob → π[k]? = some a → (∀ u, H a = some u → (¬ DictO u → F' a = some u) ∧ (DictO u → ∃ o, F' a = some (.frz o u))) ∧ ∃ lo, ObR K C F π lo H a ob
mutual
theorem Rz.rep (z : Frz K C n S F π H F' π') : ∀ (d' d : D) (v : V), Rz n S d' d → Rep K C F π d v → Rep K C F' π' d' v
  | .non, d, v, h, r => by cases (show d = .non from h); exact r
  | .bl b, d, v, h, r => by cases (show d = .bl b from h); exact r
  | .int b, d, v, h, r => by cases (show d = .int b from h); exact r
  | .str b, d, v, h, r => by cases (show d = .str b from h); exact r
  | .scr, d, v, h, r => by
    cases (show d = .scr from h)
    obtain ⟨a, q1, q2⟩ := r
    exact ⟨a, q1, Same.seq z.s q2⟩
  | .ty b, d, v, h, r => by cases (show d = .ty b from h); exact r
  | .cls b, d, v, h, r => by cases (show d = .cls b from h); exact r
  | .fn, d, v, h, r => by cases (show d = .fn from h); exact r
  | .exc c y, d, v, h, r => by
    obtain ⟨x, rfl, h⟩ := h
    obtain ⟨a, dx, u, q1, q2, q3, q⟩ := r
    exact ⟨a, dx, u, q1, z.s _ _ q2, z.s _ _ q3, Rz.rep z y x u h q⟩
  | .ptr k, d, v, h, r => by
    obtain ⟨rfl, hk⟩ := h
    obtain ⟨a, q1, q2⟩ := r
    exact ⟨a, q1, z.lo k a hk q2⟩
  | .tup ys, d, v, h, r => by
    obtain ⟨xs, rfl, h⟩ := h
    obtain ⟨a, vs, q1, q2, q3⟩ := r
    exact ⟨a, vs, q1, z.s _ _ q2, RzA.rep z ys xs vs h q3⟩
  | .ktp ys, d, v, h, r => by
    obtain ⟨xs, rfl, h⟩ := h
    obtain ⟨a, vs, q1, q2, q4⟩ := r
    exact ⟨a, vs, q1, q2.same z.s, RzA.rep z ys xs vs h q4⟩
  | .lst ys, d, v, h, r => by
    rcases h with ⟨xs, rfl, h⟩ | ⟨k, xs, hk, rfl, hs, h⟩
    · obtain ⟨a, vs, q1, q2, q3⟩ := r
      exact ⟨a, vs, q1, z.s _ _ q2, RzA.rep z ys xs vs h q3⟩
    · obtain ⟨a, q1, q2⟩ := r
      obtain ⟨e, lo, vs, q3, q4⟩ := z.hi k _ a hk hs q2
      exact ⟨a, vs, q1, (e _ q3).1 id, RzA.rep z ys xs vs h q4⟩
  | .dK ys, d, v, h, r => by
    rcases h with ⟨xs, rfl, h⟩ | ⟨k, xs, hk, rfl, hs, h⟩
    · obtain ⟨a, vs, o, q1, q2, q3⟩ := r
      exact ⟨a, vs, o, q1, z.s _ _ q2, RzK.rep z ys xs vs h q3⟩
    · obtain ⟨a, q1, q2⟩ := r
      obtain ⟨e, lo, vs, q3, q4⟩ := z.hi k _ a hk hs q2
      obtain ⟨o, q5⟩ := (e _ q3).2 trivial
      exact ⟨a, vs, o, q1, q5, RzK.rep z ys xs vs h q4⟩
  | .dT ys, d, v, h, r => by
    rcases h with ⟨xs, rfl, h⟩ | ⟨k, xs, hk, rfl, hs, h⟩
    · obtain ⟨a, vs, o, q1, q2, q3⟩ := r
      exact ⟨a, vs, o, q1, z.s _ _ q2, RzT.rep z ys xs vs h q3⟩
    · obtain ⟨a, q1, q2⟩ := r
      obtain ⟨e, lo, vs, q3, q4⟩ := z.hi k _ a hk hs q2
      obtain ⟨o, q5⟩ := (e _ q3).2 trivial
      exact ⟨a, vs, o, q1, q5, RzT.rep z ys xs vs h q4⟩
  | .obj c ys, d, v, h, r => by
    rcases h with ⟨xs, rfl, h⟩ | ⟨k, xs, hk, rfl, hs, h⟩
    · obtain ⟨a, dx, vs, q1, q2, q3⟩ := r
      exact ⟨a, dx, vs, q1, z.s _ _ q2, RzF.rep z ys xs vs h q3⟩
    · obtain ⟨a, q1, q2⟩ := r
      obtain ⟨e, lo, dx, vs, q3, q4⟩ := z.hi k _ a hk hs q2
      exact ⟨a, dx, vs, q1, (e _ q3).1 id, RzF.rep z ys xs vs h q4⟩
theorem RzA.rep (z : Frz K C n S F π H F' π') : ∀ (ys xs : List D) (vs : List V), RzA n S ys xs → RepA K C F π xs vs → RepA K C F' π' ys vs
  | [], xs, vs, h, r => by cases (show xs = [] from h); exact r
  | y :: ys, xs, vs, h, r => by
    obtain ⟨x, t, rfl, h1, h2⟩ := h
    obtain ⟨v, us, q1, q2, q3⟩ := r
    exact ⟨v, us, q1, Rz.rep z y x v h1 q2, RzA.rep z ys t us h2 q3⟩
theorem RzK.rep (z : Frz K C n S F π H F' π') : ∀ (ys xs : List (Key × D)) (vs : List (Key × V)), RzK n S ys xs → RepK K C F π xs vs → RepK K C F' π' ys vs
  | [], xs, vs, h, r => by cases (show xs = [] from h); exact r
  | (k, y) :: ys, xs, vs, h, r => by
    obtain ⟨x, t, rfl, h1, h2⟩ := h
    obtain ⟨v, us, q1, q2, q3⟩ := r
    exact ⟨v, us, q1, Rz.rep z y x v h1 q2, RzK.rep z ys t us h2 q3⟩
theorem RzT.rep (z : Frz K C n S F π H F' π') : ∀ (ys xs : List (List Key × D)) (vs : List (List Key × V)), RzT n S ys xs → RepT K C F π xs vs → RepT K C F' π' ys vs
  | [], xs, vs, h, r => by cases (show xs = [] from h); exact r
  | (k, y) :: ys, xs, vs, h, r => by
    obtain ⟨x, t, rfl, h1, h2⟩ := h
    obtain ⟨v, us, q1, q2, q3⟩ := r
    exact ⟨v, us, q1, Rz.rep z y x v h1 q2, RzT.rep z ys t us h2 q3⟩
theorem RzF.rep (z : Frz K C n S F π H F' π') : ∀ (ys xs : List (Str × D)) (vs : List (Str × V)), RzF n S ys xs → RepF K C F π xs vs → RepF K C F' π' ys vs
  | [], xs, vs, h, r => by cases (show xs = [] from h); exact r
  | (k, y) :: ys, xs, vs, h, r => by
    obtain ⟨x, t, rfl, h1, h2⟩ := h
    obtain ⟨v, us, q1, q2, q3⟩ := r
    exact ⟨v, us, q1, Rz.rep z y x v h1 q2, RzF.rep z ys t us h2 q3⟩
end
theorem RzN.rep (z : Frz K C n S F π H F' π') : ∀ (ys xs : List (D × D)) (l : List NE), RzN n S ys xs → RepN K C F π xs l → RepN K C F' π' ys l
  | [], xs, l, h, r => by
    rw [show xs = [] from h] at r
    exact r
  | (kd, y) :: ys, xs, l, h, r => by
    obtain ⟨x, t, rfl, h1, h2, h3⟩ := h
    obtain ⟨k, b, v, l', q1, q2, q3, q4, q5, q6⟩ := r
    exact ⟨k, b, v, l', q1, q2, q3, Rz.rep z kd kd _ h1 q4, Rz.rep z y x v h2 q5, RzN.rep z ys t l' h3 q6⟩
theorem RzO.ob (z : Frz K C n S F π H F' π') {lo : Option (Obj × HO)} {p : Addr} : ∀ (o' o : Ob), RzO n S o' o → ObR K C F π lo H p o → ObR K C F' π' lo H p o'
  | .lst ys, o, h, r => by
    cases o with
    | lst xs => obtain ⟨vs, a, b⟩ := r; exact ⟨vs, a, RzA.rep z ys xs vs h b⟩
    | _ => exact h.elim
  | .dK ys, o, h, r => by
    cases o with
    | dK xs => obtain ⟨vs, a, b⟩ := r; exact ⟨vs, a, RzK.rep z ys xs vs h b⟩
    | _ => exact h.elim
  | .dT ys, o, h, r => by
    cases o with
    | dT xs => obtain ⟨vs, a, b⟩ := r; exact ⟨vs, a, RzT.rep z ys xs vs h b⟩
    | _ => exact h.elim
  | .ins c ys, o, h, r => by
    cases o with
    | ins c' xs => obtain ⟨dx, vs, a, b⟩ := r; obtain ⟨rfl, h⟩ := h; exact ⟨dx, vs, a, RzF.rep z ys xs vs h b⟩
    | _ => exact h.elim
  | .lkK ys, o, h, r => by
    cases o with
    | lkK xs => obtain ⟨oo, vs, a, b, c⟩ := r; exact ⟨oo, vs, a, b, RzK.rep z ys xs vs h c⟩
    | _ => exact h.elim
  | .lkT ys, o, h, r => by
    cases o with
    | lkT xs => obtain ⟨oo, vs, a, b, c⟩ := r; exact ⟨oo, vs, a, b, RzT.rep z ys xs vs h c⟩
    | _ => exact h.elim
  | .dN ys, o, h, r => by
    cases o with
    | dN xs => obtain ⟨vs, a, b⟩ := r; exact ⟨vs, a, RzN.rep z ys xs vs h b⟩
    | _ => exact h.elim
  | .lkN ys, o, h, r => by
    cases o with
    | lkN xs => obtain ⟨oo, vs, a, b, c⟩ := r; exact ⟨oo, vs, a, b, RzN.rep z ys xs vs h c⟩
    | _ => exact h.elim
end
mutual
def bndD (n : Nat) : D → Bool
  | .lst xs | .tup xs | .ktp xs => bndA n xs
  | .dK xs => bndK n xs
  | .dT xs => bndT n xs
  | .obj _ xs => bndF n xs
  | .ptr k => decide (k < n)
  | .exc _ x => bndD n x
  | _ => true
termination_by structural x => x
def bndA (n : Nat) : List D → Bool
  | [] => true
  | x :: xs => bndD n x && bndA n xs
termination_by structural x => x
def bndK (n : Nat) : List (Key × D) → Bool
  | [] => true
  | (_, x) :: xs => bndD n x && bndK n xs
termination_by structural x => x
def bndT (n : Nat) : List (List Key × D) → Bool
  | [] => true
  | (_, x) :: xs => bndD n x && bndT n xs
termination_by structural x => x
def bndF (n : Nat) : List (Str × D) → Bool
  | [] => true
  | (_, x) :: xs => bndD n x && bndF n xs
termination_by structural x => x
end
def bndN (n : Nat) : List (D × D) → Bool
  | [] => true
  | (k, x) :: xs => bndD n k && (bndD n x && bndN n xs)
def bndO (n : Nat) : Ob → Bool
  | .dN xs | .lkN xs => bndN n xs
  | .lst xs => bndA n xs
  | .dK xs | .lkK xs => bndK n xs
  | .dT xs | .lkT xs => bndT n xs
  | .ins _ xs => bndF n xs
section
variable {n : Nat} {S : List Ob}
mutual
theorem rz_bnd : ∀ d : D, bndD n d = true → Rz n S d d
  | .non, _ => rfl
  | .bl _, _ => rfl
  | .int _, _ => rfl
  | .str _, _ => rfl
  | .scr, _ => rfl
  | .ty _, _ => rfl
  | .cls _, _ => rfl
  | .fn, _ => rfl
  | .exc c x, h => ⟨x, rfl, rz_bnd x h⟩
  | .ptr _, h => ⟨rfl, of_decide_eq_true h⟩
  | .lst xs, h => .inl ⟨xs, rfl, rzA_bnd xs h⟩
  | .tup xs, h => ⟨xs, rfl, rzA_bnd xs h⟩
  | .ktp xs, h => ⟨xs, rfl, rzA_bnd xs h⟩
  | .dK xs, h => .inl ⟨xs, rfl, rzK_bnd xs h⟩
  | .dT xs, h => .inl ⟨xs, rfl, rzT_bnd xs h⟩
  | .obj c xs, h => .inl ⟨xs, rfl, rzF_bnd xs h⟩
theorem rzA_bnd : ∀ d : List D, bndA n d = true → RzA n S d d
  | [], _ => rfl
  | x :: xs, h => by
    obtain ⟨h1, h2⟩ := Bool.and_eq_true_iff.mp h
    exact ⟨x, xs, rfl, rz_bnd x h1, rzA_bnd xs h2⟩
theorem rzK_bnd : ∀ d : List (Key × D), bndK n d = true → RzK n S d d
  | [], _ => rfl
  | (k, x) :: xs, h => by
    obtain ⟨h1, h2⟩ := Bool.and_eq_true_iff.mp h
    exact ⟨x, xs, rfl, rz_bnd x h1, rzK_bnd xs h2⟩
theorem rzT_bnd : ∀ d : List (List Key × D), bndT n d = true → RzT n S d d
  | [], _ => rfl
  | (k, x) :: xs, h => by
    obtain ⟨h1, h2⟩ := Bool.and_eq_true_iff.mp h
    exact ⟨x, xs, rfl, rz_bnd x h1, rzT_bnd xs h2⟩
theorem rzF_bnd : ∀ d : List (Str × D), bndF n d = true → RzF n S d d
  | [], _ => rfl
  | (k, x) :: xs, h => by
    obtain ⟨h1, h2⟩ := Bool.and_eq_true_iff.mp h
    exact ⟨x, xs, rfl, rz_bnd x h1, rzF_bnd xs h2⟩
end
theorem rzN_bnd : ∀ d : List (D × D), bndN n d = true → RzN n S d d
  | [], _ => rfl
  | (k, x) :: xs, h => by
    obtain ⟨h1, h2⟩ := Bool.and_eq_true_iff.mp h
    obtain ⟨h3, h4⟩ := Bool.and_eq_true_iff.mp h2
    exact ⟨x, xs, rfl, rz_bnd k h1, rz_bnd x h3, rzN_bnd xs h4⟩
theorem rzO_bnd : ∀ o : Ob, bndO n o = true → RzO n S o o
  | .lst xs, h => rzA_bnd xs h
  | .dK xs, h => rzK_bnd xs h
  | .dT xs, h => rzT_bnd xs h
  | .lkK xs, h => rzK_bnd xs h
  | .lkT xs, h => rzT_bnd xs h
  | .dN xs, h => rzN_bnd xs h
  | .lkN xs, h => rzN_bnd xs h
  | .ins c xs, h => ⟨rfl, rzF_bnd xs h⟩
end
section
variable {n m : Nat} (hm : n ≤ m)
include hm
mutual
theorem bndD.mono : ∀ d : D, bndD n d = true → bndD m d = true
  | .non, _ => rfl
  | .bl _, _ => rfl
  | .int _, _ => rfl
  | .str _, _ => rfl
  | .scr, _ => rfl
  | .ty _, _ => rfl
  | .cls _, _ => rfl
  | .fn, _ => rfl
  | .exc c x, h => bndD.mono x h
  | .ptr _, h => decide_eq_true (Nat.lt_of_lt_of_le (of_decide_eq_true h) hm)
  | .lst xs, h => bndA.mono xs h
  | .tup xs, h => bndA.mono xs h
  | .ktp xs, h => bndA.mono xs h
  | .dK xs, h => bndK.mono xs h
  | .dT xs, h => bndT.mono xs h
  | .obj c xs, h => bndF.mono xs h
theorem bndA.mono : ∀ d : List D, bndA n d = true → bndA m d = true
  | [], _ => rfl
  | x :: xs, h => by
    obtain ⟨h1, h2⟩ := Bool.and_eq_true_iff.mp h
    exact Bool.and_eq_true_iff.mpr ⟨bndD.mono x h1, bndA.mono xs h2⟩
theorem bndK.mono : ∀ d : List (Key × D), bndK n d = true → bndK m d = true
  | [], _ => rfl
  | (k, x) :: xs, h => by
    obtain ⟨h1, h2⟩ := Bool.and_eq_true_iff.mp h
    exact Bool.and_eq_true_iff.mpr ⟨bndD.mono x h1, bndK.mono xs h2⟩
theorem bndT.mono : ∀ d : List (List Key × D), bndT n d = true → bndT m d = true
  | [], _ => rfl
  | (k, x) :: xs, h => by
    obtain ⟨h1, h2⟩ := Bool.and_eq_true_iff.mp h
    exact Bool.and_eq_true_iff.mpr ⟨bndD.mono x h1, bndT.mono xs h2⟩
theorem bndF.mono : ∀ d : List (Str × D), bndF n d = true → bndF m d = true
  | [], _ => rfl
  | (k, x) :: xs, h => by
    obtain ⟨h1, h2⟩ := Bool.and_eq_true_iff.mp h
    exact Bool.and_eq_true_iff.mpr ⟨bndD.mono x h1, bndF.mono xs h2⟩
end
end
section
variable {K : PySem.W.Frag} {C : Ctx} {F : Hp} {π : List Addr}
mutual
theorem rep_bnd : ∀ (d : D) (v : V), Rep K C F π d v → bndD π.length d = true
  | .non, _, _ => rfl
  | .bl _, _, _ => rfl
  | .int _, _, _ => rfl
  | .str _, _, _ => rfl
  | .scr, _, _ => rfl
  | .ty _, _, _ => rfl
  | .cls _, _, _ => rfl
  | .fn, _, _ => rfl
  | .exc c x, _, h => let ⟨_, _, u, _, _, _, q⟩ := h; rep_bnd x u q
  | .ptr k, v, h => by
    obtain ⟨a, _, h⟩ := h
    exact decide_eq_true (List.getElem?_eq_some_iff.mp h).1
  | .lst xs, v, h => let ⟨_, _, _, _, q⟩ := h; repA_bnd xs _ q
  | .tup xs, v, h => let ⟨_, _, _, _, q⟩ := h; repA_bnd xs _ q
  | .ktp xs, v, h => let ⟨_, _, _, _, q⟩ := h; repA_bnd xs _ q
  | .dK xs, v, h => let ⟨_, _, _, _, _, q⟩ := h; repK_bnd xs _ q
  | .dT xs, v, h => let ⟨_, _, _, _, _, q⟩ := h; repT_bnd xs _ q
  | .obj c xs, v, h => let ⟨_, _, _, _, _, q⟩ := h; repF_bnd xs _ q
theorem repA_bnd : ∀ (d : List D) (v : List V), RepA K C F π d v → bndA π.length d = true
  | [], _, _ => rfl
  | x :: xs, v, h => by
    obtain ⟨_, _, _, h1, h2⟩ := h
    exact Bool.and_eq_true_iff.mpr ⟨rep_bnd x _ h1, repA_bnd xs _ h2⟩
theorem repK_bnd : ∀ (d : List (Key × D)) (v : List (Key × V)), RepK K C F π d v → bndK π.length d = true
  | [], _, _ => rfl
  | (k, x) :: xs, v, h => by
    obtain ⟨_, _, _, h1, h2⟩ := h
    exact Bool.and_eq_true_iff.mpr ⟨rep_bnd x _ h1, repK_bnd xs _ h2⟩
theorem repT_bnd : ∀ (d : List (List Key × D)) (v : List (List Key × V)), RepT K C F π d v → bndT π.length d = true
  | [], _, _ => rfl
  | (k, x) :: xs, v, h => by
    obtain ⟨_, _, _, h1, h2⟩ := h
    exact Bool.and_eq_true_iff.mpr ⟨rep_bnd x _ h1, repT_bnd xs _ h2⟩
theorem repF_bnd : ∀ (d : List (Str × D)) (v : List (Str × V)), RepF K C F π d v → bndF π.length d = true
  | [], _, _ => rfl
  | (k, x) :: xs, v, h => by
    obtain ⟨_, _, _, h1, h2⟩ := h
    exact Bool.and_eq_true_iff.mpr ⟨rep_bnd x _ h1, repF_bnd xs _ h2⟩
end
theorem repN_bnd : ∀ (d : List (D × D)) (v : List NE), RepN K C F π d v → bndN π.length d = true
  | [], _, _ => rfl
  | (kd, x) :: xs, l, r => by
    obtain ⟨k, b, v, t, q1, q2, q3, q4, q5, q6⟩ := r
    exact Bool.and_eq_true_iff.mpr ⟨rep_bnd kd _ q4, Bool.and_eq_true_iff.mpr ⟨rep_bnd x v q5, repN_bnd xs t q6⟩⟩
theorem obR_bnd {lo : Option (Obj × HO)} {H : Hp} {p : Addr} : ∀ o : Ob, ObR K C F π lo H p o → bndO π.length o = true
  | .lst xs, ⟨_, _, q⟩ => repA_bnd xs _ q
  | .dK xs, ⟨_, _, q⟩ => repK_bnd xs _ q
  | .dT xs, ⟨_, _, q⟩ => repT_bnd xs _ q
  | .lkK xs, ⟨_, _, _, _, q⟩ => repK_bnd xs _ q
  | .lkT xs, ⟨_, _, _, _, q⟩ => repT_bnd xs _ q
  | .dN xs, ⟨_, _, q⟩ => repN_bnd xs _ q
  | .lkN xs, ⟨_, _, _, _, q⟩ => repN_bnd xs _ q
  | .ins c xs, ⟨_, _, _, q⟩ => repF_bnd xs _ q
end
structure RzS (S0 S S' : List Ob) : Prop where
  len : S'.length = S0.length
  ob : ∀ (k : Nat) (o : Ob), S'[k]? = some o → ∃ o1, S[k]? = some o1 ∧ (RzO S0.length S o o1 ∨ (S0[k]? = some o ∧ o1 = o))
def RzR (S0 : List Ob) (r r' : D × List Ob) : Prop := Rz S0.length r.2 r'.1 r.1 ∧ RzS S0 r.2 r'.2
theorem Post.frz {K : PySem.W.Frag} {C : Ctx} {Λ : Lk} {F H : Hp} {π : List Addr} {S0 S S' : List Ob} {d d' : D} {Q : VK} (w0 : Wd K C Λ F π S0 H) (p : Post K C Λ F π H S' d' Q) (h : RzR S0 (d, S) (d', S')) : Post K C Λ F π H S d (Lkd Q) := fun v F1 π1 H1 e w r => by
  obtain ⟨h1, h2⟩ := h
  simp only at h1 h2
  obtain ⟨ρ, hρ⟩ := e.p
  have hlen : π.length = S0.length := w0.len
  have hnd : (π ++ ρ).Nodup := by rw [hρ]; exact w.nd
  have hdis : ∀ a ∈ π, a ∉ ρ := fun a h3 h4 => (List.nodup_append.mp hnd).2.2 a h3 a h4 rfl
  classical
  refine ⟨ρ.filter fun a => decide (∃ u, H1 a = some u ∧ DictO u), fun a ha => of_decide_eq_true (List.mem_filter.mp ha).2, fun HL hl => ?_⟩
  have hout : ∀ a, a ∉ ρ → HL a = H1 a := fun a ha => hl.1 a fun z => ha (List.mem_filter.mp z).1
  have hn : ∀ a u, H1 a = some u → ¬ DictO u → HL a = some u := fun a u q nd => (hl.1 a fun z => by
    obtain ⟨u', q', d'⟩ := of_decide_eq_true (List.mem_filter.mp z).2
    rw [q] at q'
    cases q'
    exact nd d').trans q
  have hd : ∀ a u, a ∈ ρ → H1 a = some u → DictO u → ∃ o, HL a = some (.frz o u) := fun a u ha q dd => by
    obtain ⟨u', o, q', _, q2⟩ := hl.2 a (List.mem_filter.mpr ⟨ha, decide_eq_true ⟨u, q, dd⟩⟩)
    rw [q] at q'
    cases q'
    exact ⟨o, q2⟩
  let F2 : Hp := fun a => if a ∈ ρ then HL a else F1 a
  have f_in : ∀ a, a ∈ ρ → F2 a = HL a := fun a h => if_pos h
  have f_out : ∀ a, a ∉ ρ → F2 a = F1 a := fun a h => if_neg h
  have s12 : Same F1 F2 := fun a o q => by
    have : a ∉ ρ := fun h => by
      have := w.fr a (by rw [← hρ]; exact List.mem_append_right _ h)
      rw [q] at this
      cases this
    rw [f_out a this]
    exact q
  have z : Frz K C S0.length S F1 π1 H1 F2 π := by
    refine ⟨s12, fun k a hk q => ?_, fun k ob a hk q1 q2 => ?_⟩
    · rw [← hρ, List.getElem?_append_left (by rw [hlen]; exact hk)] at q
      exact q
    · have ha : a ∈ ρ := by
        have q2' := q2
        rw [← hρ, List.getElem?_append_right (by rw [hlen]; exact hk)] at q2'
        exact List.mem_of_getElem? q2'
      refine ⟨fun u q => ⟨fun nd => (f_in a ha).trans (hn a u q nd), fun dd => ?_⟩, Λ k, w.ob k ob a q1 q2⟩
      obtain ⟨o, q3⟩ := hd a u ha q dd
      exact ⟨o, (f_in a ha).trans q3⟩
  refine p v F2 π HL ⟨e.f.trans s12, List.prefix_refl _, fun a o q n t => ?_, fun a o _ n => n, fun a o q n y t => ?_, fun a o q n => ?_⟩ ⟨fun a o q => ?_, hlen.trans h2.len.symm, w0.nd, fun a ha => ?_, fun k o a q1 q2 => ?_, ?_, ?_⟩ (Rz.rep z _ _ _ h1 r)
  · have : a ∉ ρ := fun h => e.n a o q n (by rw [← hρ]; exact List.mem_append_right _ h)
    exact (hout a this).trans (e.k a o q n t)
  · have : a ∉ ρ := fun h => e.n a o q n (by rw [← hρ]; exact List.mem_append_right _ h)
    rw [f_out a this]
    exact e.m a o q n y t
  · have : a ∉ ρ := fun h => e.n a o q n (by rw [← hρ]; exact List.mem_append_right _ h)
    obtain ⟨o', q'⟩ := e.th a o q n
    exact ⟨o', (hout a this).trans q'⟩
  · by_cases ha : a ∈ ρ
    · rw [f_in a ha] at q
      exact q
    · rw [f_out a ha] at q
      exact (hout a ha).trans (w.ext a o q)
  · rw [f_out a (hdis a ha)]
    exact w.fr a (by rw [← hρ]; exact List.mem_append_left _ ha)
  · have na : HL a = H1 a := hout a (hdis a (List.mem_of_getElem? q2))
    obtain ⟨o1, q3, q4⟩ := h2.ob k o q1
    have r2 := w.ob k o1 a q3 (pre_get e.p q2)
    rcases q4 with q4 | ⟨q4, rfl⟩
    · exact ObR.heap na (RzO.ob z o o1 q4 r2)
    · refine ObR.heap na (RzO.ob z o1 o1 (rzO_bnd o1 ?_) r2)
      have := obR_bnd o1 (w0.ob k o1 a q4 q2)
      rwa [hlen] at this
  · exact fun t ht => TabS.stay (w.tb t ht) fun b u q nn => hn b u q fun dd => by rcases nn.1 with ⟨_, rfl⟩ | ⟨_, rfl⟩ <;> exact dd
  · intro a ps q
    by_cases ha : a ∈ ρ
    · rw [f_in a ha] at q
      have hm : a ∈ π1 := by rw [← hρ]; exact List.mem_append_right _ ha
      obtain ⟨k, hk, ek⟩ := List.mem_iff_getElem.mp hm
      obtain ⟨ob, _, r2⟩ := w.obj (k := k) (p := a) (by rw [List.getElem?_eq_getElem hk, ek])
      obtain ⟨x, hx⟩ := r2.there
      by_cases dd : DictO x
      · obtain ⟨o, q3⟩ := hd a x ha hx dd
        rw [q] at q3
        cases q3
      · have q3 := hn a x hx dd
        rw [q] at q3
        cases q3
        exact ObR.plain hx (TblExt.tbl rfl) r2
    · rw [f_out a ha] at q
      exact w.nt a ps q
theorem RzR.same {S0 T : List Ob} {d d' : D} (h : Rz S0.length (S0 ++ T) d' d) : RzR S0 (d, S0 ++ T) (d', S0) :=
  ⟨h, rfl, fun k o q => ⟨o, by rw [List.getElem?_append_left (List.getElem?_eq_some_iff.mp q).1]; exact q, .inr ⟨q, rfl⟩⟩⟩
theorem RzR.set {S0 T : List Ob} {d d' : D} {k : Nat} {ob : Ob} (h : Rz S0.length (S0.set k ob ++ T) d' d) (hb : bndO S0.length ob = true) : RzR S0 (d, S0.set k ob ++ T) (d', S0.set k ob) := by
  refine ⟨h, List.length_set, fun j o q => ⟨o, by rw [List.getElem?_append_left (List.getElem?_eq_some_iff.mp q).1]; exact q, ?_⟩⟩
  by_cases e : k = j
  · subst e
    have hk := (List.getElem?_eq_some_iff.mp q).1
    rw [List.length_set] at hk
    rw [List.getElem?_set_self hk] at q
    cases q
    exact .inl (rzO_bnd _ hb)
  · rw [List.getElem?_set_ne e] at q
    exact .inr ⟨q, rfl⟩
theorem Fn.frz {P : Program} {w : World} {K : PySem.W.Frag} {mg : Str → Option Value} {base : Heap} {C : Ctx} {k : Nat} {x : Str} {n : Nat} {sem sem' : List D → List Ob → Option (D × List Ob)} (h : Fn P w K mg base C k x n sem) (hs : ∀ ds S r, ds.length = n → sem' ds S = some r → ∃ r', sem ds S = some r' ∧ RzR S r' r) : Fn P w K mg base C k x n sem' := by
  obtain ⟨f, fd, ps, a, b, c, d⟩ := h.ex
  refine ⟨f, fd, ps, (FnOk.locks a).imp ?_, b, c, d⟩
  rintro vs H Q E ⟨Λ, F, π, S, ds, d, S', hl, wd, r, q, p⟩
  obtain ⟨⟨d1, S1⟩, q1, q2⟩ := hs ds S _ hl q
  exact ⟨Λ, F, π, S, ds, d1, S1, hl, wd, r, q1, p.frz wd q2⟩
end DL
set_option Elab.async false
set_option linter.all false
set_option maxRecDepth 100000
set_option maxHeartbeats 2000000
namespace DL
open PySem PySem.Spec PyProof.Rows L2
def okP (p : PyData) : Prop := p.showable = true ∧ p.hasDict = false ∧ p.depth ≤ 60 ∧ p.shown.length ≤ sizeLine
instance (p : PyData) : Decidable (okP p) := by unfold okP; infer_instance
def fRepr (S : List Ob) : List D → Option D
  | [d] => (toP S 60 d).bind fun p => if okP p then some (.str p.shown) else none
  | _ => none
def rRepr (K : PySem.W.Frag) : List V → Hp → VK → Prop := fun xs H Q => ∃ v p, xs = [v] ∧ Dp K H v p ∧ okP p ∧ Q (.str p.shown) H
theorem call_repr {X : Cx} {k : Nat} (hr : Room k X.A) (hg : X.A.guards = some []) : CallR X (.builtin "repr") (rRepr X.K) := by
  rintro pins s σ H xs us Q I r ⟨v, p, rfl, hd, ⟨h1, h2, h3, h4⟩, q⟩
  obtain ⟨u, rfl, ru⟩ := vals1 r
  have done : ∀ (tk : Nat) (t : Tok), EP X pins σ Q (.str p.shown t) { s with toks := tk } := fun tk t => ⟨.str p.shown, H, I.tok _, ⟨t, rfl⟩, q⟩
  obtain ⟨as, rd⟩ := Dp.reads I p v u hd ru
  have room := hr.units
  have byref : ∀ a, u = .ref a → wpAny (model X.prog X.w) X.A (call (.builtin "repr") [u]) (EP X pins σ Q) X.xe s := by
    rintro a rfl
    refine repr_of_reads' rd h1 (PyData.noDict_hsm h2) hg (by omega) (fun _ _ e => e) (fun h' t tk hk => ?_) h4
    exact ⟨.str p.shown, H, I.kept (t' := tk) fun b o e => hk b o e, ⟨t, rfl⟩, q⟩
  cases rd with
  | none => exact PySem.P.repr_of_none (done _ _)
  | bool b => exact PySem.P.repr_of_bool (by cases b <;> exact done _ _)
  | int i t => exact PySem.P.repr_of_int (of_decide_eq_true h1) (done _ _)
  | str x t => exact PySem.P.repr_of_str (done _ _) h4
  | _ => exact byref _ rfl
theorem cs_repr {K : PySem.W.Frag} {C : Ctx} : CallS K C (rRepr K) fRepr := by
  intro Λ F π S H ds vs d h w r Q p
  match ds, h with
  | [x], h =>
    obtain ⟨y, h1, h2⟩ := Option.bind_eq_some_iff.mp h
    split at h2
    · rename_i hy
      cases h2
      obtain ⟨v, rfl, q⟩ := rep_one r
      exact ⟨v, y, rfl, toP_ok w _ _ _ _ h1 q, hy, p.val w rfl⟩
    · cases h2
structure FnG (P : Program) (w : World) (K : PySem.W.Frag) (mg : Str → Option Value) (base : Heap) (k : Nat) (f : Addr) (fd : FuncData) (ps : List Str) (sp : Sp) : Prop where
  len : ∀ vs H Q, sp vs H Q E0 → vs.length = ps.length
  run : ∀ (A : Around) (outer : List Env) (s : Shared) (H : Hp) (args : Args) (us : List Value) (vs : List V) (Q : VK), Room k A → A.guards = some [] → Env0 P w K mg base A outer s H → BindsTo s fd args (ps.zip us) → Vals vs us → sp vs H Q E0 →
    codeAny (model P w) A (.call (.ref f) args) (CR CX0 outer P w H s Q E0) s
section
variable {P : Program} {w : World} {K : PySem.W.Frag} {mg : Str → Option Value} {base : Heap} {f : Addr} {fd : FuncData} {ps : List Str} {sp : Sp}
theorem FnG.of {k : Nat} (h : FnOk P w K mg base CX0 k f fd ps sp) : FnG P w K mg base k f fd ps sp := ⟨fun vs H Q => h.len vs H Q E0, fun A outer s H args us vs Q r _ => h.run A outer s H args us vs Q E0 r⟩
theorem okG {x qual : Str} {st : Stmt} {N : List Str} {k : Nat} (Fu : Fun K x qual st f fd) (Sc : FnScope N ps (defScope st)) (len : ∀ vs H Q, sp vs H Q E0 → vs.length = ps.length)
    (body : ∀ (cdv : Value) (A : Around) (outer : List Env) (s : Shared) (H : Hp) (vs : List V) (Q : VK), Room k (A.deeper (envOfC qual (defScope st) s.heap.objs.size f cdv)) → A.guards = some [] → sp vs H Q E0 →
      ∃ t, PSs (cxOf CX0 P w K mg base N qual (defScope st) f cdv A outer s H E0).nox (defBody st) t ∧ t { nx := fun _ H' => Q .non H', rt := Q } (L2.start N vs) H) : FnG P w K mg base (k + 1) f fd ps sp := by
  obtain ⟨oc, od, kV, doc, pm, an, cdv, ct, osl, rfl, lk, hcd⟩ := Fu.ex
  constructor
  · exact len
  intro A outer s H args us vs Q hr hG e0 hb rv hsp
  have hl := len vs H Q hsp
  have stands : ∀ b o, base.get? b = some o → s.heap.get? b = some o := fun b o e => (e0.bs b o e).1
  have KX : K.In s.heap := e0.mod.kin.keeps stands
  have lim := e0.mod.nolimit.keeps stands
  refine codeAny_call_function hr.depth (KX _ _ lk) rfl Sc.co Sc.gen rfl (PySem.W.codeRec_of KX hcd) (hb _ _ _ _ ?_)
  refine wpAny_newFunctionEnv_cells Sc.kind (fun y hy => ?_) fun env he s1 x => ?_
  · obtain ⟨n, v⟩ := y
    exact (Sc.par n (List.of_mem_zip hy).1).imp id fun q => ⟨q, PySem.W.cellsFrom_some _ _ _ (.inl q)⟩
  subst he
  refine ⟨lim.keeps x.toInCall.keep, codeAny_func ?_⟩
  obtain ⟨t, ht, hq⟩ := body cdv A outer s H vs Q (hr.deeper _) hG hsp
  have I := inv_start (CX := CX0) (E := E0) Sc hr.hd e0 hl rv x
  refine wpAny_mono ((PSs.nox ht).run [] s1 (L2.start N vs) H _ I hq) (fun fl s' hs => ?_) fun _ _ z => z
  cases fl with
  | next =>
    obtain ⟨σ', H', J, q⟩ := hs
    exact ⟨.non, H', J.os, J.bare, J.base, J.hok, rfl, q⟩
  | ret u =>
    obtain ⟨v, σ', H', J, rv, q⟩ := hs
    exact ⟨v, H', J.os, J.bare, J.base, J.hok, rv, q⟩
  | brk => exact hs.elim fun _ z => z.elim fun _ z => z.2.elim
  | cont => exact hs.elim fun _ z => z.elim fun _ z => z.2.elim
theorem fnG_ok {x qual : Str} {st : Stmt} {N : List Str} {k : Nat} {g : DFS} {C : Ctx} (Fu : Fun K x qual st f fd) (Sc : FnScope N ps (defScope st))
    (hb : ∀ (cdv : Value) (A : Around) (outer : List Env) (s : Shared) (H : Hp), Room k (A.deeper (envOfC qual (defScope st) s.heap.objs.size f cdv)) → A.guards = some [] → DB (cxOf CX0 P w K mg base N qual (defScope st) f cdv A outer s H E0).nox C (defBody st) g) :
    FnG P w K mg base (k + 1) f fd ps (spD K C ps.length (runB N.length g)) := by
  refine okG Fu Sc (fun vs H Q h => ?_) (fun cdv A outer s H vs Q hr hG h => ?_)
  · obtain ⟨_, _, _, _, ds, _, _, hl, _, r, _⟩ := h
    rw [r.length, hl]
  · obtain ⟨Λ, F, π, S, ds, d, S', hl, wd, r, q, p⟩ := h
    obtain ⟨t, t1, t2⟩ := hb cdv A outer s H hr hG
    refine ⟨t, t1, ?_⟩
    obtain ⟨⟨o, S1⟩, q1, q⟩ := Option.bind_eq_some_iff.mp q
    refine t2 _ S o S1 q1 Λ F π H _ ⟨wd, env_start r⟩ _ ?_
    cases o with
    | nx E' =>
      cases q
      exact fun σ' F' π' H' e' w' _ => p .non F' π' H' e' w' rfl
    | rt d' =>
      cases q
      exact p
    | _ => cases q
end
section
variable {X : Cx} {C : Ctx} {e : Expr} {es : List Expr} {pos p : Pos} {x : Str} {k n : Nat} {fs : DF (List D)} {sem : List D → List Ob → Option (D × List Ob)}
structure FnL (P : Program) (w : World) (K : PySem.W.Frag) (mg : Str → Option Value) (base : Heap) (C : Ctx) (k : Nat) (x : Str) (n : Nat) (sem : List D → List Ob → Option (D × List Ob)) : Prop where
  ex : ∃ f fd ps, FnG P w K mg base k f fd ps (spD K C n sem) ∧ mg x = some (.ref f) ∧ PySem.W.keepIn K (.ref f) = true ∧ Binds K fd ps []
theorem FnL.frz {P : Program} {w : World} {K : PySem.W.Frag} {mg : Str → Option Value} {base : Heap} {sem' : List D → List Ob → Option (D × List Ob)} (h : FnL P w K mg base C k x n sem) (hs : ∀ ds S r, ds.length = n → sem' ds S = some r → ∃ r', sem ds S = some r' ∧ RzR S r' r) : FnL P w K mg base C k x n sem' := by
  obtain ⟨f, fd, ps, a, b, c, d⟩ := h.ex
  have imp : ∀ vs H Q, spD K C n sem' vs H Q E0 → spD K C n sem vs H (Lkd Q) E0 := by
    rintro vs H Q ⟨Λ, F, π, S, ds, d, S', hl, wd, r, q, p⟩
    obtain ⟨⟨d1, S1⟩, q1, q2⟩ := hs ds S _ hl q
    exact ⟨Λ, F, π, S, ds, d1, S1, hl, wd, r, q1, p.frz wd q2⟩
  refine ⟨f, fd, ps, ⟨fun vs H Q q => a.len vs H _ (imp _ _ _ q), fun A outer s H args us vs Q r g e0 b v q => ?_⟩, b, c, d⟩
  refine codeAny_mono (a.run A outer s H args us vs _ r g e0 b v (imp _ _ _ q)) fun r s' hq => ?_
  cases r with
  | error e => exact hq
  | ok fl =>
    cases fl with
    | ret u =>
      obtain ⟨v, H1, h1, h2, un, ok, rv, L, q1, q2⟩ := hq
      obtain ⟨H2, l, un2, ok2⟩ := ce_locks un ok L q1
      exact ⟨v, H2, h1, h2, un2, ok2, rv, q2 H2 l⟩
    | next => exact hq
    | brk => exact hq
    | cont => exact hq
theorem pe_callG {f : Addr} {fd : FuncData} {ps : List Str} {sp : Sp} {t : TA} (F : FnG X.prog X.w X.K X.mg X.base k f fd ps sp) (hr : Room k X.A) (hG : X.A.guards = some []) (hg : Gl X x) (hm : X.mg x = some (.ref f)) (hk : PySem.W.keepIn X.K (.ref f) = true) (hb : Binds X.K fd ps [])
    (ha : PA X (e :: es) t) (hdb : (x == ("__debug__" : Str)) = false) (he : starEach (e :: es) X.env = (false, eval e X.env) :: starEach es X.env) (hpl : (backTo pos (starEach es X.env)).any (·.1) = false) :
    PE X (.Call (.Name x p) (e :: es) [] pos) (tCall sp [] E0 t) := by
  constructor
  intro pins s σ H Q I h
  apply wpAny_Call_Name_kw
  refine ld_glob I hg hm ?_ hdb
  refine PySem.W.callWith_K (h₀ := X.base) I.ok.mod.kin hk (thn (ha.run pos pins s σ H _ I h) ?_) he hpl
  rintro us s1 ⟨vs, H1, I1, r1, q⟩
  refine ⟨I1.kIn, ?_⟩
  rw [List.append_nil] at q
  have hl : us.length = ps.length := by rw [← r1.length]; exact F.len vs H1 Q q
  have hb1 := hb s1 us I1.kIn (by rw [List.append_nil]; exact hl)
  rw [List.append_nil] at hb1
  refine wpAny_call (codeAny_mono (F.run X.A X.stack s1 H1 ⟨us, []⟩ us vs Q hr hG I1.env0 hb1 r1 q) ?_)
  intro rr s2 hq
  cases rr with
  | error z => exact False.elim hq
  | ok fl =>
    cases fl with
    | ret u => exact I1.after hq
    | next => exact hq.elim
    | brk => exact hq.elim
    | cont => exact hq.elim
theorem de_callG (hF : FnL X.prog X.w X.K X.mg X.base C k x n sem) (hr : Room k X.A) (hG : X.A.guards = some []) (ha : DA X C (e :: es) fs) (hg : Gl X x := by rfl) (hdb : (x == ("__debug__" : Str)) = false := by decide) (he : starEach (e :: es) X.env = (false, eval e X.env) :: starEach es X.env := by rfl)
    (hpl : (backTo pos (starEach es X.env)).any (·.1) = false := by rfl) : DE X C (.Call (.Name x p) (e :: es) [] pos) (dCall n sem fs) := by
  obtain ⟨f, fd, ps, h1, h2, h3, h4⟩ := hF.ex
  obtain ⟨t, t1, t2⟩ := ha
  exact ⟨_, pe_callG h1 hr hG hg h2 h3 h4 t1 hdb he hpl, snd_call t2⟩
end
abbrev tab0 : Obj := { cls := .none, data := .fields #[] }
theorem lawT {P : Program} {w : World} {K : PySem.W.Frag} {mg mb : Str → Option Value} {k : Nat} {fa a : Addr} {cs : List (Addr × Addr)} {fd : FuncData} {x : Str} {sp : Sp} {s₁ : Shared} {vs : List Value} {ns : List Int}
    (KX : K.In s₁.heap) (hns : s₁.heap.Ns mainGlobals mg) (hb : s₁.heap.Ns builtinsNs mb) (hbb : ∀ x : Str, x ≠ "__name__" → mb x = bootBuiltins x) (hlim : s₁.heap.NoLimit) (hg : s₁.gens = #[])
    (hT : ∀ p ∈ cs, s₁.heap.get? p.2 = some tab0) (nT : ∀ p ∈ cs, K.lookup p.2 = none) (hC : ∀ p ∈ cs, PySem.W.codeHdIn K p.1 p.2 = true)
    (hbm : ∃ bm ob, mg "__builtins__" = some (.ref bm) ∧ bm ≠ builtinsNs ∧ s₁.heap.get? bm = some ob ∧ ob.cls = .type "module" ∧ ob.dict = some builtinsNs ∧ ob.data = .plain)
    (ha : s₁.heap.get? a = some { cls := .type "list", data := .seq vs.toArray }) (hi : IntsAre vs ns) (hl : ns.length ≤ sizeLine) (hr : Room k callerA)
    (F : ∀ base : Heap, K.In base → base.Ns mainGlobals mg → (∀ p ∈ cs, LamX.TabB base mg p.1 p.2) → FnG P w K mg base k fa fd [x] sp) (hbind : ∀ (s : Shared) (u : Value), BindsTo s fd ⟨[u], []⟩ [(x, u)])
    (hsp : ∀ H : Hp, (∀ p ∈ cs, H p.2 = some (.tbl #[])) → (∀ ps, H a ≠ some (.tbl ps)) → SqL K H a (ns.map V.int) → sp [.ref a] H (fun v _ => v = .bl true) E0) :
    codeAny (model P w) callerA (.call (.ref fa) ⟨[.ref a], []⟩) (fun r s' => r = .ok (.ret (.bool true)) ∧ OldK s₁.heap s'.heap ∧ s'.os = s₁.os ∧ AllBare s'.gens) s₁ := by
  have rv := vals_ints hi
  have at_t : ∀ b, b ∈ cs.map Prod.snd → s₁.heap.get? b = some tab0 ∧ K.lookup b = none := fun b hb => by
    obtain ⟨p, hp, rfl⟩ := List.mem_map.mp hb
    exact ⟨hT p hp, nT p hp⟩
  have a_t : a ∉ cs.map Prod.snd := fun z => by
    have y := (at_t a z).1
    rw [ha] at y
    cases y
  have main : ∀ H : Hp, (∀ b ∈ cs.map Prod.snd, H b = some (.tbl #[])) → (∀ b, b ∉ cs.map Prod.snd → H b = none ∨ b = a ∧ ∃ o xs, H b = some (.frz o (.lst xs))) → SqL K H a (ns.map V.int) → HOk P w H s₁.heap → (H a ≠ none → K.lookup a = none) →
      codeAny (model P w) callerA (.call (.ref fa) ⟨[.ref a], []⟩) (fun r s' => r = .ok (.ret (.bool true)) ∧ OldK s₁.heap s'.heap ∧ s'.os = s₁.os ∧ AllBare s'.gens) s₁ := by
    intro H hO hA hS hok hK
    have alone : ∀ {b : Addr} {o : Obj}, s₁.heap.get? b = some o → b ≠ a → b ∉ cs.map Prod.snd → (hidT s₁.heap H).get? b = some o := fun {b o} e n m => hidT_get e ((hA b m).resolve_right fun z => n z.1)
    have dict : ∀ {b : Addr} {o : Obj}, s₁.heap.get? b = some o → (∀ us n, o.data ≠ .seq us n) → o.data ≠ .fields #[] → (hidT s₁.heap H).get? b = some o := fun {b o} e h1 h2 => by
      refine alone e (fun z => ?_) fun z => ?_
      · subst z
        rw [ha] at e
        cases e
        exact h1 _ _ rfl
      · have y := (at_t b z).1
        rw [e] at y
        cases y
        exact h2 rfl
    have space : ∀ {b : Addr} {m : Str → Option Value}, s₁.heap.Ns b m → (hidT s₁.heap H).Ns b m := by
      rintro b m ⟨o, es, ep, e, d, r⟩
      exact ⟨o, es, ep, dict e (fun us n z => by rw [d] at z; cases z) (fun z => by rw [d] at z; cases z), d, r⟩
    have hKb : K.In (hidT s₁.heap H) := fun b o e => by
      refine hidT_get (KX b o e) ?_
      cases q : H b with
      | none => rfl
      | some u =>
        by_cases m : b ∈ cs.map Prod.snd
        · rw [(at_t b m).2] at e
          cases e
        · obtain ⟨rfl, _⟩ := (hA b m).resolve_left (by rw [q]; exact nofun)
          rw [hK (by rw [q]; exact nofun)] at e
          cases e
    have hM : Mod K mg (hidT s₁.heap H) := by
      obtain ⟨mc, h1, h2⟩ := hlim
      exact ⟨hKb, space hns, ⟨mb, space hb, hbb⟩, mc, space h1, h2⟩
    have e0 : Env0 P w K mg (hidT s₁.heap H) callerA [] s₁ H := ⟨rfl, hM, fun b o e => of_hidT e, Nat.le_of_eq (hidT_size _ _), trivial, fun b hb => absurd (show b ∈ ([] : List Addr) from hb) (by simp), hok, .of_eq hg⟩
    have glob : ∀ b, s₁.heap.Ns b mg → ∀ o, s₁.heap.get? b = some o → ∃ es ep, o.data = .dict es ep := by
      rintro b ⟨o, es, ep, e, d, _⟩ o' e'
      rw [e] at e'
      cases e'
      exact ⟨es, ep, d⟩
    have TB : ∀ p ∈ cs, LamX.TabB (hidT s₁.heap H) mg p.1 p.2 := fun p hp => by
      obtain ⟨bm, ob, b1, b2, b3, b4, b5, b6⟩ := hbm
      refine ⟨PySem.W.codeHd_of_K hKb (hC p hp), ⟨bm, ob, b1, b2, fun z => ?_, fun z => ?_, dict b3 (fun us n z => by rw [b6] at z; cases z) (fun z => by rw [b6] at z; cases z), b4, b5, b6⟩, fun z => ?_⟩
      · subst z
        obtain ⟨es, ep, d⟩ := glob _ hns _ b3
        rw [b6] at d
        cases d
      · subst z
        rw [hT p hp] at b3
        cases b3
        cases b6
      · obtain ⟨es, ep, d⟩ := glob _ hns _ (z ▸ hT p hp)
        cases d
    have run := (F _ hKb (space hns) TB).run callerA [] s₁ H ⟨[.ref a], []⟩ [.ref a] [.ref a] (fun v _ => v = .bl true) hr rfl e0 (hbind s₁ (.ref a)) (.cons rfl .nil) (hsp H (fun p hp => hO _ (List.mem_map_of_mem hp)) (fun ps z => by
      rcases hA a a_t with y | ⟨_, o, xs, y⟩ <;> rw [z] at y <;> cases y) hS)
    refine codeAny_mono run ?_
    intro r s' h
    cases r with
    | error e => exact False.elim h
    | ok fl =>
      cases fl with
      | ret u =>
        obtain ⟨v, H', os, bare, un, hok', r', q⟩ := h
        subst q
        cases (show u = Value.bool true from r')
        have stay : ∀ b o, b ∉ cs.map Prod.snd → s₁.heap.get? b = some o → s'.heap.get? b = some o := fun b o m e => by
          rcases hA b m with z | ⟨_, ob, xs, z⟩
          · exact un.keep b o e z (fun y => absurd (show b ∈ ([] : List Addr) from y) (by simp)) (by simp)
          · obtain ⟨e1, _⟩ := hok b _ z
            obtain ⟨e2, _⟩ := hok' b _ (un.frzs b ob _ z)
            rw [e] at e1
            cases e1
            exact e2
        have more : ∀ b, b ∈ cs.map Prod.snd → ∃ us : Array Value, s'.heap.get? b = some { cls := .none, data := .fields us } := fun b m => by
          obtain ⟨us, z⟩ := un.tbls b #[] (hO b m)
          exact ⟨_, hok' b _ z⟩
        refine ⟨rfl, ⟨fun b o e => ?_, fun b o e => ?_⟩, os, bare⟩
        · by_cases m : b ∈ cs.map Prod.snd
          · obtain ⟨us, z⟩ := more b m
            obtain ⟨p, hp, rfl⟩ := List.mem_map.mp m
            rw [hT p hp] at e
            cases e
            exact .inr (.inl ⟨((PySem.W.codeHd_of_K KX (hC p hp)).tab (hT p hp)).isCodeTable, rfl, #[], us, rfl, by rw [Array.empty_append]; exact z⟩)
          · exact .inl (stay b o m e)
        · by_cases m : b ∈ cs.map Prod.snd
          · obtain ⟨us, z⟩ := more b m
            exact ⟨_, z⟩
          · exact ⟨o, stay b o m e⟩
      | next => exact h.elim
      | brk => exact h.elim
      | cont => exact h.elim
  cases hk : K.lookup a with
  | some o =>
    have e := KX a o hk
    rw [ha] at e
    cases e
    refine main (fun b => if b ∈ cs.map Prod.snd then some (.tbl #[]) else none) (fun b m => if_pos m) (fun b m => .inl (if_neg m)) (.inr ⟨_, vs.toArray, _, hk, rfl, rfl, rfl, ?_, by simpa using rv⟩) (fun b u z => ?_) fun z => absurd (if_neg a_t) z
    · rw [List.size_toArray, hi.length]
      exact hl
    · by_cases m : b ∈ cs.map Prod.snd
      · cases (if_pos m).symm.trans z
        exact (at_t b m).1
      · cases (if_neg m).symm.trans z
  | none =>
    refine main (fun b => if b ∈ cs.map Prod.snd then some (.tbl #[]) else if b = a then some (.frz { cls := .type "list", data := .seq vs.toArray } (.lst (ns.map V.int))) else none) (fun b m => if_pos m) (fun b m => ?_) (.inl (.inr ⟨_, (if_neg a_t).trans (if_pos rfl)⟩)) (fun b u z => ?_) fun _ => hk
    · by_cases hb : b = a
      · exact .inr ⟨hb, _, _, (if_neg m).trans (if_pos hb)⟩
      · exact .inl ((if_neg m).trans (if_neg hb))
    · by_cases m : b ∈ cs.map Prod.snd
      · cases (if_pos m).symm.trans z
        exact (at_t b m).1
      · have z2 := (if_neg m).symm.trans z
        by_cases hb : b = a
        · have y := (if_pos hb).symm.trans z2
          cases y
          subst hb
          exact ⟨ha, by rw [List.length_map]; exact hl, vs, _, rv, ha⟩
        · exact nomatch (if_neg hb).symm.trans z2
theorem walkG {l : PySem.W.OpenLaw} {n k : Nat} {q : Program} {loose : List Str} {XP : (Str → Option Value) → Heap → Prop} {YP : World → Heap → Prop} {d : DefRec} {K : Params → PySem.W.Frag} (x : Str) (cs : List (Addr × Addr)) (C : World → List Int → Ctx) (sem : World → List Int → List D → List Ob → Option (D × List Ob))
    (hn : l.most = some n) (hn2 : n ≤ sizeLine) (hdf : d.params.defaults = []) (hr : Room k callerA) (hY : ∀ (w : World) (h : Heap), YP w h → (K w.params).In h) (hC : ∀ p ns, (C p ns).ns = ns ∧ ∀ t ∈ (C p ns).T, ∃ c, (c, t.1) ∈ cs)
    (hT : ∀ (w : World) (h : Heap), YP w h → ∀ p ∈ cs, h.get? p.2 = some tab0) (nT : ∀ w : World, ∀ p ∈ cs, (K w.params).lookup p.2 = none ∧ PySem.W.codeHdIn (K w.params) p.1 p.2 = true)
    (F : ∀ (w : World) (mg : Str → Option Value) (fa : Addr) (h : Heap), (K w.params).In h → h.Ns mainGlobals mg → mg d.name = some (.ref fa) →
      ∃ fd : FuncData, (∀ (s : Shared) (u : Value), BindsTo s fd ⟨[u], []⟩ [(x, u)]) ∧ ∀ (base : Heap) (ns : List Int), (K w.params).In base → base.Ns mainGlobals mg → (∀ p ∈ cs, LamX.TabB base mg p.1 p.2) → FnG l.prog w (K w.params) mg base k fa fd [x] (spD (K w.params) (C w ns) 1 (sem w ns)))
    (T : ∀ (w : World) (ns : List Int), ns.length ≤ n → ∃ S', sem w ns [.scr] [] = some (.bl true, S')) : PySem.W.WalkO q loose XP YP l.row.toRowW d [] (fun f vs => PySem.call f vs) := by
  refine Att.attach_call hn hdf fun w s₀ s₁ mg mb fa o pm cd doc a vs ns G Y ho hd hcd hmg hobj hints hlen hg => ?_
  obtain ⟨fd, hb, hF⟩ := F w mg fa _ (hY w _ Y) G.T.g hmg
  refine lawT (hY w _ Y) G.T.g G.T.b G.T.builtins G.T.nolimit hg (hT w _ Y) (fun p hp => (nT w p hp).1) (fun p hp => (nT w p hp).2) G.T.bmain hobj hints (Nat.le_trans hlen hn2) hr (fun base h1 h2 h3 => hF base ns h1 h2 h3) hb fun H hO hnt hS => ?_
  obtain ⟨S', hT'⟩ := T w ns hlen
  refine ⟨fun _ => none, fun b => if b = a then H b else none, [], [], [.scr], .bl true, S', rfl, ⟨fun b u e => ?_, rfl, List.nodup_nil, fun _ z => (nomatch z), fun k o p z => (nomatch z), fun t ht => ?_, fun b ps e => ?_⟩, ⟨.ref a, [], rfl, ⟨a, rfl, ?_⟩, rfl⟩, hT', fun v F' π' H' e w' r => r⟩
  · split at e
    · exact e
    · cases e
  · obtain ⟨c, hc⟩ := ((hC w ns).2 t ht)
    exact LamX.TabS.nil (hO _ hc)
  · split at e
    · rename_i z
      subst z
      exact hnt ps e
    · cases e
  · rw [(hC w ns).1]
    have e : (fun b => if b = a then H b else none) a = H a := if_pos rfl
    rcases hS with (y | ⟨o, y⟩) | y
    · exact .inl (.inl (e.trans y))
    · exact .inl (.inr ⟨o, e.trans y⟩)
    · exact .inr y
end DL
set_option Elab.async false
set_option linter.all false
set_option maxRecDepth 100000
set_option maxHeartbeats 2000000
namespace DL
open PySem PySem.Spec PyProof.Rows L2
section
variable {P : Program} {w : World} {K : PySem.W.Frag} {mg : Str → Option Value} {base : Heap} {C : Ctx}
theorem spD_frz {n : Nat} {sem sem' : List D → List Ob → Option (D × List Ob)} (h : ∀ ds S r, ds.length = n → sem' ds S = some r → ∃ r', sem ds S = some r' ∧ RzR S r' r) : ∀ vs H Q E, spD K C n sem' vs H Q E → spD K C n sem vs H (Lkd Q) E := by
  rintro vs H Q E ⟨Λ, F, π, S, ds, d, S', hl, wd, r, q, p⟩
  obtain ⟨⟨d1, S1⟩, q1, q2⟩ := h ds S _ hl q
  exact ⟨Λ, F, π, S, ds, d1, S1, hl, wd, r, q1, p.frz wd q2⟩
theorem PropFn.frz {k c : Nat} {x : Str} {sem sem' : List D → List Ob → Option (D × List Ob)} (h : PropFn P w K mg base C k x c sem) (hs : ∀ ds S r, ds.length = 1 → sem' ds S = some r → ∃ r', sem ds S = some r' ∧ RzR S r' r) : PropFn P w K mg base C k x c sem' := by
  obtain ⟨p, g, fd, ps, a, b, z⟩ := h.ex
  exact ⟨p, g, fd, ps, a, (FnOk.locks b).imp (spD_frz hs), z⟩
theorem MethFn.frz {k c n : Nat} {x : Str} {sem sem' : List D → List Ob → Option (D × List Ob)} (h : MethFn P w K mg base C k x c n sem) (hs : ∀ ds S r, ds.length = n → sem' ds S = some r → ∃ r', sem ds S = some r' ∧ RzR S r' r) : MethFn P w K mg base C k x c n sem' := by
  obtain ⟨f, fd, ps, a, b, z⟩ := h.ex
  exact ⟨f, fd, ps, a, (FnOk.locks b).imp (spD_frz hs), z⟩
theorem EqFn.frz {k c : Nat} {sem sem' : List D → List Ob → Option (D × List Ob)} (h : EqFn P w K mg base C k c sem) (hs : ∀ ds S r, ds.length = 2 → sem' ds S = some r → ∃ r', sem ds S = some r' ∧ RzR S r' r) : EqFn P w K mg base C k c sem' := by
  obtain ⟨f, fd, ps, a, b⟩ := h.ex
  exact ⟨⟨f, fd, ps, (FnOk.locks a).imp (spD_frz hs), b⟩, h.no, h.nf⟩
end
section
variable {X : Cx} {C : Ctx} {e : Expr} {es : List Expr} {fs : DF (List D)} {pos : Pos}
end
end DL
set_option Elab.async false
set_option linter.all false
set_option maxRecDepth 100000
set_option maxHeartbeats 2000000
namespace DL
open PySem PySem.Spec PyProof.Rows L2
theorem u1 {k : Nat} {A : Around} (r : Room k A) : A.units + 1 < cLine := by
  have := r.un
  omega
structure Bt (mg : Str → Option Value) : Prop where
  len : mg "len" = none
  range : mg "range" = none
  sorted : mg "sorted" = none
  int : mg "int" = none
  str : mg "str" = none
  max : mg "max" = none
  min : mg "min" = none
  sum : mg "sum" = none
  abs : mg "abs" = none
  list : mg "list" = none
  tuple : mg "tuple" = none
  dict : mg "dict" = none
  isinstance : mg "isinstance" = none
  repr : mg "repr" = none
  zip : mg "zip" = none
  enumerate : mg "enumerate" = none
  bool : mg "bool" = none
section
variable {X : Cx} {C : Ctx} {e : Expr} {es : List Expr} {pos p : Pos} {fs : DF (List D)} {k : Nat}
theorem de_len (B : Bt X.mg) (ha : DA X C (e :: es) fs) (hg : Gl X "len" := by rfl) (hs : starEach (e :: es) X.env = (false, eval e X.env) :: starEach es X.env := by rfl) (hpl : (backTo pos (starEach es X.env)).any (·.1) = false := by rfl) : DE X C (.Call (.Name "len" p) (e :: es) [] pos) (dCB fLen fs) :=
  de_callB (call_len.or (call_lenRK.or call_lenRT)) cs_len B.len PySem.boot_len ha hg (by decide) (by decide) hs hpl
theorem de_intC (B : Bt X.mg) (ha : DA X C (e :: es) fs) (hg : Gl X "int" := by rfl) (hs : starEach (e :: es) X.env = (false, eval e X.env) :: starEach es X.env := by rfl) (hpl : (backTo pos (starEach es X.env)).any (·.1) = false := by rfl) : DE X C (.Call (.Name "int" p) (e :: es) [] pos) (dCB fInt fs) :=
  de_callTy call_int1 cs_int B.int (by decide +kernel) ha hg (by decide) (by decide) hs hpl
theorem de_max2 (B : Bt X.mg) (ha : DA X C (e :: es) fs) (hc : X.calm = true := by rfl) (hg : Gl X "max" := by rfl) (hs : starEach (e :: es) X.env = (false, eval e X.env) :: starEach es X.env := by rfl) (hpl : (backTo pos (starEach es X.env)).any (·.1) = false := by rfl) : DE X C (.Call (.Name "max" p) (e :: es) [] pos) (dCB fMax2 fs) :=
  de_callB (call_max2 hc) cs_max2 B.max (by decide +kernel) ha hg (by decide) (by decide) hs hpl
structure IsOk (K : PySem.W.Frag) (C : Ctx) : Prop where
  bo : ∀ d n, n ∈ ["int", "str", "list", "tuple", "bool"] → PySem.W.kitOne K (.ref (C.cls d)) (.type n) = some false
  ob : ∀ c m, m ∈ ["NoneType", "bool", "int", "str", "list", "tuple", "dict"] → PySem.W.kitOne K (.type m) (.ref (C.cls c)) = some false
  oo : ∀ d c, d < nCls → c < nCls → PySem.W.kitOne K (.ref (C.cls d)) (.ref (C.cls c)) = some (d == c)
variable {a : Expr} {f : DF D} {y : Str} {p1 p2 : Pos}
end
end DL
set_option Elab.async false
set_option linter.all false
set_option maxRecDepth 100000
set_option maxHeartbeats 2000000
namespace DL
open PySem PySem.Spec PyProof.Rows L2
section
variable {K : PySem.W.Frag} {C : Ctx} {F : Hp} {π : List Addr} {σ : L2.St} {E : SE}
theorem EnvR.drop (r : EnvR K C F π σ E) (i : Nat) : EnvR K C F π σ (E.set i none) := by
  refine ⟨by rw [List.length_set]; exact r.1, fun j d' h => ?_⟩
  by_cases e : i = j
  · subst e
    have hi : i < E.length := by
      have := (List.getElem?_eq_some_iff.mp h).1
      rwa [List.length_set] at this
    rw [List.getElem?_set_self hi] at h
    cases h
  · rw [List.getElem?_set_ne e] at h
    exact r.2 j d' h
end
def wOut (vs : List Nat) : Out → Out
  | .nx E => .nx (wipeE E vs)
  | .ct E => .ct (wipeE E vs)
  | .bk E => .bk (wipeE E vs)
  | .rt d => .rt d
def sW (vs : List Nat) (g : DFS) : DFS := fun E S => (g E S).map fun p => (wOut vs p.1, p.2)
def sV (vs : List Nat) (g : DFS) : DFS := fun E S => g (wipeE E vs) S
section
variable {X : Cx} {C : Ctx} {st : Stmt} {b : List Stmt} {g : DFS}
end
end DL
set_option Elab.async false
set_option linter.all false
set_option maxRecDepth 100000
set_option maxHeartbeats 2000000
namespace DL
open PySem PySem.Spec PyProof.Rows L2
section
variable {X : Cx} {C : Ctx} {o e : Expr} {fo f : DF D} {pos : Pos}
def joinO (S : List Ob) (a : D) (d : D) : Option D := match a with
  | .str x => match (seqOf S d).bind strsOf with
    | some ys => if (ys.map (·.length)).sum + ys.length * x.length ≤ 16777216 then some (.str (PySem.Txt.join x ys)) else none
    | none => none
  | _ => none
def dJoin (fo f : DF D) : DF D := fun E S => (fo E S).bind fun p => match p.1 with
  | .str _ => (f E p.2).bind fun q => (joinO q.2 p.1 q.1).map fun d => (d, q.2)
  | _ => none
end
end DL
set_option Elab.async false
set_option linter.all false
set_option maxRecDepth 100000
set_option maxHeartbeats 2000000
namespace DL
open PySem PySem.Spec PyProof.Rows L2
section
variable (K : PySem.W.Frag) (C : Ctx) (F : Hp) (π : List Addr)
end
section
variable {X : Cx} {C : Ctx} {pos : Pos} {k v : Expr} {ks : List (Option Expr)} {vs : List Expr} {fk fv : DF D} {f : DF (List (D × D))}
end
end DL
set_option Elab.async false
set_option linter.all false
set_option maxRecDepth 100000
set_option maxHeartbeats 2000000
namespace DL
open PySem PySem.Spec PyProof.Rows L2
section
variable {X : Cx} {C : Ctx} {a b : Expr} {fa fb : DF D} {pos : Pos}
end
end DL
set_option Elab.async false
set_option linter.all false
set_option maxRecDepth 100000
set_option maxHeartbeats 4000000
namespace DL
open PySem PySem.Spec PyProof.Rows L2
namespace EX
open PySem.W PySem.Calls
structure XiF (K : PySem.W.Frag) (prog : Program) (C f cda cc : Addr) (fd : FuncData) (p0 p1 p2 p3 p4 p5 p6 p7 p8 p9 : Pos) (scope : Scope) (qual : Str) (pl : Sem Bool) : Prop where
  iC : findIn K (.ref C) "__init__" = some (some (.ref f))
  tI : typeIn K (.ref f) = some (.type "function")
  fn : ∃ (oc : Value) (od : Option Addr) (sl : Array (Option Value)), K.lookup f = some ⟨oc, od, .func fd, sl⟩
  env : ∀ L, callEnv fd L f = ksEnv qual scope L f (.ref cda) cc
  body : fd.body = .stmts [.Expr (.Call (.Attribute (.Call (.Name "super" p0) [] [] p1) "__init__" p2) [.Name "value" p3] [] p4) p5, .Assign [.Attribute (.Name "self" p6) "value" p7] (.Name "value" p8) p9]
  sc : fd.scope = scope
  par : ∃ ar : Arg, (fd.params.posonlyargs ++ fd.params.args).head? = some ar ∧ ar.arg = "self"
  code : codeIn K (.ref cda) qual = true
  cod : fd.code = .ref cda ∧ fd.qualname = qual
  cobj : ∃ (ccl : Value) (cdd : Option Addr) (vs : Array Value) (ccs : Array (Option Value)) (tf : Tok), K.lookup cda = some ⟨ccl, cdd, .fields vs, ccs⟩ ∧ vs[2]? = some (.str prog.main.file tf)
  cell : ∃ (cl : Value) (cld : Option Addr) (csl : Array (Option Value)), K.lookup cc = some ⟨cl, cld, .cell (some (.ref C)), csl⟩
  kd : scope.kind = .function
  co : scope.isCoroutine = false
  gen : scope.isGenerator = false
  ncell : ∀ x ∈ scope.names, x.2 ≠ .cell
  nS : scope.names.lookup ("super" : Str) = some .globalImplicit
  nK : scope.names.lookup ("__class__" : Str) = some .free
  nV : scope.names.lookup ("value" : Str) = some .local
  nF : scope.names.lookup ("self" : Str) = some .local
  top : (prog.main.scope.names.lookup ("super" : Str)).isSome = false
  sup : nsIn K mainGlobals "super" = some none
  tp : nsIn K cStatics "thirdparty.any" = some none
  vi : ks_superIn K C C "__init__" = some (some (.builtin "ValueError.__init__"))
  ve : subIn K (.ref C) (.type "ValueError") = some true
  self : mroIn K C (.ref C) = some true
  noV : findIn K (.ref C) "value" = some none
  ev : ∀ env : Env, eval (.Call (.Attribute (.Call (.Name "super" p0) [] [] p1) "__init__" p2) [.Name "value" p3] [] p4) env = (do
      let ov ← attributeBase (.Call (.Name "super" p0) [] [] p1) "__init__" env (eval (.Call (.Name "super" p0) [] [] p1) env)
      standAt p2.atName
      let (f, first) ← holding [ov] (getMethod ov "__init__" pl)
      callWith p4 f first (backTo p4 (starEach [.Name "value" p3] env)) [])
  sw : ∀ env : Env, swapsWith (.Name "value" p8) (some (.Attribute (.Name "self" p6) "value" p7)) p9.line env = pure false
section
variable {prog : Program} {w : World} {A : Around} {E : Value → Shared → Prop} {h : Heap} {g : Array GenState} {d : Drawn} {t : Nat} {os : OsState}
theorem call_mw {K : PySem.W.Frag} {C : Addr} {u e t0 : Addr} {rest : List Value} {Q : Value → Shared → Prop} (T : OexC K C) (X : K.In h) (he : h.get? e = some (HandSPX.excO C t0)) (hu : h.get? u = some (kxs_mw "ValueError.__init__" e)) (hrest : rest.length ≤ sizeLine)
    (hq : ∀ h' t1, (∀ b o, b ≠ e → h.get? b = some o → h'.get? b = some o) → h'.get? e = some (HandSPX.excO C t1) → Q .none ⟨h', g, d, t, os⟩) :
    wpAny (model prog w) A (call (.ref u) rest) Q E ⟨h, g, d, t, os⟩ := by
  obtain ⟨nm, q, N, bs, bm, sn, sub, ab, col, dd, k0, k1, k2, k3, k5, hC, hbm⟩ := T.cls
  refine wpAny_call (codeAny_of_tree ?_)
  show wpAny _ A.in1 (callAny (.ref u) ⟨rest, []⟩) _ _ _
  simp only [callAny]
  refine wpAny_bind (wpAny_load hu ?_)
  simp only [kxs_mw, show (Value.type "method-wrapper" == Value.type "method" || Value.type "method-wrapper" == Value.type "builtin_function_or_method" || Value.type "method-wrapper" == Value.type "method-wrapper") = true by decide, if_true]
  refine KFB.if_so (by decide) ?_
  refine wpAny_bind (check_bound_init F.excBase_ValueError.toExcCallFacts (X _ _ hC) he rfl ?_)
  refine wpAny_bind (wpAny_pure (wpAny_pure ?_))
  refine ⟨Code.quiet_builtin _ (by decide +kernel), codeAny_builtin F.excBase_ValueError.initEntry ?_⟩
  rw [Around.under_plainId F.excBase_ValueError.init.plain _]
  wp_walk
  refine hq _ h.objs.size (fun b o hb ho => ?_) ?_
  · rw [Heap.get?_update_other _ _ (Ne.symm hb)]
    exact Heap.get?_push_of_some _ ho
  · rw [Heap.get?_update_self _ (Heap.get?_push_of_some _ he) rfl]
    rfl
theorem init_run {K : PySem.W.Frag} {C f cda cc e t0 : Addr} {fd : FuncData} {p0 p1 p2 p3 p4 p5 p6 p7 p8 p9 : Pos} {scope : Scope} {qual : Str} {pl : Sem Bool} {args : Args} {v : Value} {mg mb : Str → Option Value} {R : Result → Shared → Prop}
    (T : OexC K C) (F : XiF K prog C f cda cc fd p0 p1 p2 p3 p4 p5 p6 p7 p8 p9 scope qual pl) (X : K.In h) (G : h.Ns mainGlobals mg) (Bl : h.Ns builtinsNs mb) (hbb : ∀ x : Str, x ≠ "__name__" → mb x = bootBuiltins x) (nl : h.NoLimit) (hroom : A.depth < recursionLimit)
    (he : h.get? e = some (HandSPX.excO C t0)) (hKe : K.lookup e = none) (hb : BindsTo ⟨h, g, d, t, os⟩ fd args [("self", .ref e), ("value", v)])
    (hq : ∀ h' t' dx t1, (∀ b o, b ≠ e → h.get? b = some o → h'.get? b = some o) → h.objs.size ≤ dx → dx ≠ e → h'.get? e = some { cls := .ref C, dict := some dx, data := .fields #[.ref t1, .none, .none, .none, .bool false, .none] } → h'.Ns1 dx (fun y => if y = ("value" : Str) then some v else none) → R (.ok (.ret .none)) ⟨h', g, d, t', os⟩) :
    codeAny (model prog w) A (.call (.ref f) args) R ⟨h, g, d, t, os⟩ := by
  obtain ⟨nm, q, N, bs, bm, sn, sub, ab, col, dd, k0, k1, k2, k3, k5, hC, hbm⟩ := T.cls
  have hcl : clsIn K C = some { name := nm, bases := bs, mro := .ref C :: bm, ns := N, qualname := q, hasDict := true, slotNames := sn, subclasses := sub, abstract := ab, collection := col, hasDel := false } := by unfold clsIn; rw [hC] <;> rfl
  obtain ⟨oc, od, sl, hf⟩ := F.fn
  obtain ⟨ar, har, hself⟩ := F.par
  obtain ⟨ccl, cdd, vs, ccs, tf, hcda, hvs⟩ := F.cobj
  obtain ⟨cl, cld, csl, hcell⟩ := F.cell
  have eC : e ≠ C := fun z => by
    have := X _ _ hC
    rw [← z, he] at this
    cases this
  refine ks_codeAny_call_defAt hroom (X _ _ hf) rfl nl (by rw [F.cod.1, F.cod.2]; exact codeRec_of X F.code) F.body hb (by rw [F.sc]; exact F.ncell) (fun x hx => ?_) (fun h₁ hns hk => ?_) (by rw [F.sc]; exact F.co) (by rw [F.sc]; exact F.gen) (by rw [F.sc]; exact F.kd)
  · rw [F.sc]
    rcases List.mem_cons.mp hx with rfl | hx
    · exact F.nF
    · rw [List.mem_singleton.mp hx]
      exact F.nV
  rw [F.env]
  have X1 : K.In h₁ := X.keeps hk
  have he1 := hk _ _ he
  have hL : ∀ b o, h.get? b = some o → b ≠ h.objs.size := fun b o z => Nat.ne_of_lt (Heap.lt_size z)
  refine ks_wpAt_execs_cons (ks_wpAt_Expr_any (ks_wpAt_MethodCall (pl := pl) ?_ (F.ev _)) ?_)
  refine ks_wpAt_super_base F.nS F.nK (by rfl) rfl (X1 _ _ hf) rfl har rfl (X1 _ _ hcda) rfl hvs (beq_self_eq_true _) F.top ?_
  refine ks_loadName_global F.kd F.nS (loadGlobal_builtin (G.at fun o z => hk _ _ z) (mg_none_of X G F.sup) (Bl.at fun o z => hk _ _ z) ((hbb _ (by decide)).trans (show bootBuiltins "super" = some (.type "super") from by decide +kernel)) ⟨rfl, ?_⟩)
  refine wpAny_loadName_free F.kd F.nK rfl ⟨_, X1 _ _ hcell, rfl⟩ ?_
  rw [hself]
  refine wpAny_loadName_local F.kd F.nF hns (v := .ref e) rfl ?_
  refine ks_wpAny_isType_cls (X1 _ _ hC) rfl ⟨rfl, ?_⟩
  refine ks_wpAny_call_super (X1 _ _ hC) rfl he1 rfl (fun c z => by cases z) (looks_mroIn X1 F.self) (fun h2 e2 k2 => ?_)
  have X2 : K.In h2 := X1.keeps k2
  have he2 := k2 _ _ he1
  have hC2 := X2 _ _ hC
  have sb : ∀ (Y : Heap), K.In Y → Y.get? e = some (HandSPX.excO C t0) → Looks (model prog w) Y (isInstance (.ref e) (.type "ValueError")) true := fun Y XY hY => by
    have L0 : Looks (model prog w) Y (typeOf (.ref e)) (.ref C) := fun A Q E s k q => wpAny_typeOf_ref (k _ _ hY) q
    exact L0.andThen (looks_subIn XY F.ve)
  have hvi := F.vi
  unfold ks_superIn at hvi
  rw [hcl] at hvi
  refine kxs_getMethod kxs_ValueError e2 (looks_opaque X2 F.tp) (l₀ := .ref C :: bm) (fun A Q E s k q => wpAny_bind ((looks_clsIn X2 hcl) A _ E s k (wpAny_pure q))) rfl X2 hvi (sb _ X2 he2) eC (by decide) ?_
  have X3 : K.In (h2.push (kxs_mw "ValueError.__init__" e)) := X2.keeps fun b o z => Heap.get?_push_of_some _ z
  have ns2 : (h2.push (kxs_mw "ValueError.__init__" e)).Ns h.objs.size (fun x => List.lookup x [(("self" : Str), Value.ref e), (("value" : Str), v)].reverse) := hns.at fun o z => Heap.get?_push_of_some _ (k2 _ _ z)
  refine kxs_callWith (i := "ValueError.__init__") (x := e) rfl (evalArgs_plain ?_)
  refine spliced_cons (wpAny_Name (wpAny_loadName_local F.kd F.nV ns2 (v := v) rfl ?_))
  refine spliced_nil ⟨Heap.get?_push_at rfl rfl, ?_⟩
  refine call_mw T X3 (Heap.get?_push_of_some _ he2) (Heap.get?_push_at rfl rfl) (by show 1 ≤ sizeLine; decide) fun h4 t1 k4 he4 => ?_
  have kk : ∀ b o, b ≠ e → h₁.get? b = some o → h4.get? b = some o := fun b o hb z => k4 b o hb (Heap.get?_push_of_some _ (k2 _ _ z))
  have X4 : K.In h4 := fun b o z => kk b o (fun y => by
    rw [y, hKe] at z
    cases z) (X1 b o z)
  have eL : h.objs.size ≠ e := fun z => absurd (Heap.lt_size he) (by rw [← z]; exact Nat.lt_irrefl _)
  have ns4 : h4.Ns h.objs.size (fun x => List.lookup x [(("self" : Str), Value.ref e), (("value" : Str), v)].reverse) := by
    obtain ⟨o, es, ep, ho, r⟩ := hns
    exact ⟨o, es, ep, kk _ _ eL ho, r⟩
  refine ks_wpAt_execs_cons ?_
  refine wpAt_of_wpAny (plainObj_wpAny_Assign_Attribute ?_ (F.sw _))
  refine wpAny_Name (wpAny_loadName_local F.kd F.nV ns4 (v := v) rfl ?_)
  refine wpAny_Name (wpAny_loadName_local F.kd F.nF ns4 (v := .ref e) rfl ?_)
  refine PySem.W.set_plain X4 (ox := HandSPX.excO C t1) (od := none) ⟨he4, rfl, rfl, trivial⟩ T.sa ?_
  refine HandSPX.exc_osa X4 he4 hcl (show HandSPX.refsVE (.ref C :: bm) = true from hbm) rfl F.noV (fun h5 t5 dx k5' dn dne hx hn => ?_)
  refine wpAt_of_wpAny (wpAny_execs_nil ?_)
  · obtain ⟨oL, _, _, hoL, _⟩ := id ns4
    refine hq h5 t5 dx t1 (fun b o hb z => k5' b o hb (kk b o hb (hk b o z))) (Nat.le_trans (Nat.le_of_lt (Heap.lt_size hoL)) dn) dne hx hn
  · show (scope.kind == .module && _) = false
    rw [F.kd]
    rfl
end
end EX
end DL
set_option Elab.async false
set_option linter.all false
set_option maxRecDepth 100000
set_option maxHeartbeats 4000000
namespace DL
open PySem PySem.Spec PyProof.Rows L2
namespace EX
open PySem.W PySem.Calls
section
variable {prog : Program} {w : World} {A : Around} {E : Value → Shared → Prop} {h : Heap} {g : Array GenState} {d : Drawn} {t : Nat} {os : OsState}
end
end EX
end DL
set_option Elab.async false
set_option linter.all false
set_option maxRecDepth 100000
set_option maxHeartbeats 4000000
namespace PySem
namespace HandSPX
open PySem.W PySem.Calls PyProof.Rows
section
variable {M : Model} {A : Around} {E : Value → Shared → Prop} {h : Heap} {g : Array GenState} {d : Drawn} {t : Nat} {os : OsState}
variable {nm q : Str} {C N : Addr} {bs bm bmB : List Value} {hdct : Bool} {sn : List Str} {sub : List Value} {ab : Bool} {col : Option Bool} {dd : Option Addr} {k0 k1 k2 k3 k5 : Option Value} {B newId initId : String} {kw : List (Str × Value)}
theorem check_new_kw (F : ExcBaseFacts B newId initId bmB) (hT : ∀ X : String, bm.contains (.type X) = bmB.contains (.type X)) {rest : List Value} {Q : Unit → Shared → Prop}
    (hC : h.get? C = some (excClassObj nm q C N bs bm hdct sn sub ab col dd k0 k1 k2 k3 k5 newId)) (hq : Q () ⟨h, g, d, t, os⟩) : wpAny M A (checkBuiltinCall newId ⟨.ref C :: rest, kw⟩) Q E ⟨h, g, d, t, os⟩ := by
  have hcont : (Value.ref C :: bm).contains (.type B) = true := by rw [List.contains_cons, hT, F.hasB, Bool.or_true]
  have hstar := F.noStar
  simp only [checkBuiltinCall, F.newKind, F.newSplit, F.newRow]
  repeat (first | refine wpAny_loadPart_at hC ?_ | (refine wpAny_isSubtype_exc hC ?_; rw [hcont]) | refine wpAny_staticBase_exc hC ?_ | refine wpAny_madeBy_exc hC ?_ | simp only [bne_self_eq_false, Bool.false_eq_true, if_false] | wp_step)
  exact hq
end
section
variable {prog : Program} {w : World} {A : Around} {E : Value → Shared → Prop} {R : Result → Shared → Prop} {h : Heap} {g : Array GenState} {d : Drawn} {t : Nat} {os : OsState}
variable {nm q : Str} {C N : Addr} {bs bm bmB : List Value} {hdct : Bool} {sn : List Str} {sub : List Value} {ab : Bool} {col : Option Bool} {dd : Option Addr} {k0 k1 k2 k3 k5 : Option Value} {B newId initId : String} {kw : List (Str × Value)}
theorem new_kw (F : ExcBaseFacts B newId initId bmB) (hT : ∀ X : String, bm.contains (.type X) = bmB.contains (.type X)) {rest : List Value}
    (hC : h.get? C = some (excClassObj nm q C N bs bm hdct sn sub ab col dd k0 k1 k2 k3 k5 newId))
    (hq : R (.ok (.ret (.ref (h.objs.size + 1)))) ⟨(h.push { cls := .type "tuple", data := .seq rest.toArray }).push
      { cls := .ref C, data := .fields #[.ref h.objs.size, .none, .none, .none, .bool false, .none] }, g, d, t, os⟩) (hrest : rest.length ≤ sizeLine) :
    codeAny (model prog w) A (.builtin newId ⟨.ref C :: rest, kw⟩) R ⟨h, g, d, t, os⟩ := by
  have hends := F.ends
  have hcB : (Value.ref C :: bm).contains (.type B) = true := by rw [List.contains_cons, hT, F.hasB, Bool.or_true]
  have hcA : (Value.ref C :: bm).contains (.type "AttributeError") = false := by rw [List.contains_cons, hT, F.noAttr]; rfl
  have hcN : (Value.ref C :: bm).contains (.type "NameError") = false := by rw [List.contains_cons, hT, F.noName]; rfl
  refine codeAny_builtinAt F.entry ?_
  unfold Builtin.«BaseException.__new__»
  refine wpAt_bind ?_
  show wpAt _ _ _ (stack >>= _) _ _ _
  refine wpAt_bind (wpAt_stack fun p below => wpAt_of_wpAny ?_)
  wp_walk
  refine wpAt_of_wpAny ?_
  rw [F.owner]
  repeat (first | with_reducible refine wpAny_madeHere_exc F.canon hC ?_ | with_reducible refine wpAny_loadPart_at hC ?_ | (with_reducible refine wpAny_isSubtype_exc hC ?_; first | rw [hcB] | rw [hcA] | rw [hcN]) | wp_step)
  show R _ _
  rw [Heap.size_push]
  exact hq
theorem type_call_kw (F : ExcBaseFacts B newId initId bmB) (hT : ∀ X : String, bm.contains (.type X) = bmB.contains (.type X)) {rest : List Value} {fI : Addr} {Q : Fin → Shared → Prop}
    (hC : h.get? C = some (excClassObj nm q C N bs bm hdct sn sub ab col dd k0 k1 k2 k3 k5 newId))
    (hi : W.Looks (model prog w) h (typeLookup (.ref C) "__init__") (some (.ref fI))) (hb : ∀ self, W.Looks (model prog w) h (bindSpecial (.ref fI) self) (.ref fI, [self])) (hrest : rest.length ≤ sizeLine)
    (hq : codeAny (model prog w) A (.call (.ref fI) ⟨.ref (h.objs.size + 1) :: rest, kw⟩)
      (fun r s' => match r with | .ok (.ret v) => v = .none ∧ Q (.done (.ret (.ref (h.objs.size + 1)))) s' | .ok _ => False | .error e => E e s')
      ⟨(h.push (W.kdv_tup rest)).push (excO C h.objs.size), g, d, t, os⟩) :
    wpAny (model prog w) A (Builtin.«type.__call__» ⟨.ref C :: rest, kw⟩) Q E ⟨h, g, d, t, os⟩ := by
  repeat (first | with_reducible refine wpAny_loadPart_at hC ?_ | with_reducible refine wpAny_madeBy_exc hC ?_ | wp_step)
  refine codeAny_call_builtin_code (Code.quiet_builtin _ F.quiet) (check_new_kw F hT hC ?_)
  refine new_kw F hT hC ?_ hrest
  show wpAny _ _ _ _ _ _
  have k : ∀ b o, h.get? b = some o → ((h.push (W.kdv_tup rest)).push (excO C h.objs.size)).get? b = some o := fun b o e => Heap.get?_push_of_some _ (Heap.get?_push_of_some _ e)
  have hC₁ := k _ _ hC
  have hget : ((h.push (W.kdv_tup rest)).push (excO C h.objs.size)).get? (h.objs.size + 1) = some (excO C h.objs.size) := by heap_get
  have hcC : (Value.ref C :: bm).contains (.ref C) = true := by simp
  have i1 := hi.keeps k
  have b1 := (hb (.ref (h.objs.size + 1))).keeps k
  unfold isInstance
  repeat (first | with_reducible refine wpAny_loadPart_at hget ?_ | (with_reducible refine wpAny_isSubtype_exc hC₁ ?_; rw [hcC]) | wp_step)
  show wpAny _ _ (typeLookup (.ref C) _) _ _ _
  refine i1.at ?_
  refine wpAny_holding (wpAny_bind (b1.at ?_))
  refine wpAny_bind (wpAny_call (codeAny_mono hq fun r s' z => ?_))
  rcases r with e | (v | _ | _ | _) <;> first | exact z | exact z.elim | skip
  obtain ⟨rfl, z⟩ := z
  first
    | exact wpAny_pure (wpAny_pure z)
    | (wp_walk; exact z)
theorem call_kw (F : ExcBaseFacts B newId initId bmB) (hT : ∀ X : String, bm.contains (.type X) = bmB.contains (.type X)) {rest : List Value} {fI : Addr}
    (hC : h.get? C = some (excClassObj nm q C N bs bm hdct sn sub ab col dd k0 k1 k2 k3 k5 newId))
    (hi : W.Looks (model prog w) h (typeLookup (.ref C) "__init__") (some (.ref fI))) (hb : ∀ self, W.Looks (model prog w) h (bindSpecial (.ref fI) self) (.ref fI, [self])) (hrest : rest.length ≤ sizeLine)
    (hq : codeAny (model prog w) (A.under (.builtin "type.__call__" ⟨.ref C :: rest, kw⟩)) (.call (.ref fI) ⟨.ref (h.objs.size + 1) :: rest, kw⟩) (W.InitBack (h.objs.size + 1) R)
      ⟨(h.push (W.kdv_tup rest)).push (excO C h.objs.size), g, d, t, os⟩) :
    codeAny (model prog w) A (.call (.ref C) ⟨rest, kw⟩) R ⟨h, g, d, t, os⟩ := by
  have f1 := tc_lookup
  have f2 := tc_bind (.ref C)
  have hTy : (⟨h, g, d, t, os⟩ : Shared).TypeIs (.ref C) "type" := ⟨_, hC, rfl⟩
  refine codeAny_of_tree ?_
  show wpAny _ _ (callAny (.ref C) _) _ _ _
  repeat (any_goals (first | assumption | with_reducible refine wpAny_loadPart_at hC ?_ | wp_step))
  refine ⟨rfl, ?_⟩
  refine codeAny_call_builtin_at (Code.quiet_builtin _ (by decide +kernel)) entry_typeCall (wpAny_check_type_call_sub hC (type_call_kw F hT hC hi hb hrest ?_))
  refine codeAny_mono hq fun r s' z => ?_
  rcases r with e | (v | _ | _ | _) <;> exact z
end
end HandSPX
end PySem
set_option Elab.async false
set_option linter.all false
set_option maxRecDepth 100000
set_option maxHeartbeats 2000000
namespace DL
open PySem PySem.Spec PyProof.Rows L2
section
variable {X : Cx} {C : Ctx} {a b : Expr} {fa fb : DF D} {pos : Pos}
def repS (z : Str) (n : Nat) : Str := ⟨(List.replicate n z.cps).foldl (· ++ ·) #[]⟩
theorem rep_fold (z : Array CodePoint) : ∀ (n : Nat) (acc : Array CodePoint), (List.replicate n z).foldl (· ++ ·) acc = acc ++ (List.replicate n z).foldl (· ++ ·) #[]
  | 0, acc => by simp
  | n + 1, acc => by
    rw [List.replicate_succ, List.foldl_cons, List.foldl_cons, rep_fold z n, rep_fold z n (#[] ++ z)]
    simp [Array.append_assoc]
theorem repS_len (z : Str) : ∀ n : Nat, (repS z n).length = z.length * n
  | 0 => by simp [repS, Str.length]
  | n + 1 => by
    have h := repS_len z n
    simp only [repS, Str.length, List.replicate_succ, List.foldl_cons] at h ⊢
    rw [rep_fold, Array.size_append, h]
    simp [Nat.mul_succ, Nat.add_comm]
def rRepS : R2 := fun x y H Q => ∃ z k, x = .str z ∧ y = .int k ∧ 2 ≤ k ∧ k ≤ 1000 ∧ 0 < z.length ∧ z.length * k.toNat ≤ sizeLine ∧ Q (.str (repS z k.toNat)) H
theorem op_repS : OpR X (binaryOp .Mult) rRepS := by
  intro pins s σ H x y v u Q I rx ry h
  obtain ⟨z, k, rfl, rfl, k2, k3, hz0, hz, q⟩ := h
  obtain ⟨t, rfl⟩ := rx
  obtain ⟨t', rfl⟩ := ry
  have n1 : ¬ k < 1 := by omega
  have n2 : (k == 1 || z.length == 0) = false := by
    simp only [Bool.or_eq_false_iff, beq_eq_false_iff_ne, ne_eq]
    omega
  have hl : z.length ≤ sizeLine := Nat.le_trans (Nat.le_mul_of_pos_right _ (by omega)) hz
  refine P.mul_str ?_ (fun _ _ => ?_) (fun _ _ => ?_) ?_
  · rw [decide_eq_false (by omega), decide_eq_false (by omega)]; rfl
  · intro hgt
    have h1 : (2 ^ 63 - 1 : Int) / k ≥ (2 ^ 63 - 1) / 1000 := by
      apply Int.le_ediv_of_mul_le (by omega)
      have : ((2 ^ 63 - 1 : Int) / 1000) * k ≤ ((2 ^ 63 - 1) / 1000) * 1000 := Int.mul_le_mul_of_nonneg_left k3 (by decide)
      exact Int.le_trans this (by decide)
    have : (sizeLine : Int) ≤ (2 ^ 63 - 1) / 1000 := by decide
    omega
  · have : sizeLine = 2 ^ 24 := by decide
    refine decide_eq_false ?_
    omega
  · rw [if_neg n1, if_neg (by rw [n2]; decide)]
    exact ⟨by rw [← repS] ; rw [repS_len]; exact hz, .str _, H, I.tok _, ⟨_, rfl⟩, q⟩
end
end DL
set_option Elab.async false
set_option linter.all false
set_option maxRecDepth 100000
set_option maxHeartbeats 2000000
namespace DL
open PySem PySem.Spec PyProof.Rows L2
section
variable {X : Cx} {C : Ctx} {o e : Expr} {fo fv : DF D} {pos tpos : Pos}
end
end DL
set_option Elab.async false
set_option linter.all false
set_option maxRecDepth 100000
set_option maxHeartbeats 2000000
namespace DL
open PySem PySem.Spec PyProof.Rows L2
section
variable {P : Program} {w : World} {A : Around} {E : Value → Shared → Prop} {s : Shared} {α : Type} {Q : α → Shared → Prop}
end
structure Inn (P : Program) (w : World) (it : Addr) (st : Nat → Heap → Prop) (ok : Heap → Prop) (items : Nat → Option Value) : Prop where
  item : ∀ (A : Around) (E : Value → Shared → Prop) (s : Shared) (i : Nat) (x : Value) (Q : Value → Shared → Prop), st i s.heap → ok s.heap → items i = some x → (∀ h', st (i + 1) h' → Heap.SameBut it s.heap h' → Q x { s with heap := h' }) → wpAny (model P w) A (Builtin.SmallTypes.nextOf (.ref it)) Q E s
  done : ∀ (A : Around) (E : Value → Shared → Prop) (s : Shared) (i : Nat) (Q : Value → Shared → Prop), A.handled = none → st i s.heap → ok s.heap → items i = none → (∀ h' e, Heap.ExtBut it s.heap h' → (∃ o, h'.get? e = some o ∧ o.cls = .type "StopIteration") → E (.ref e) { s with heap := h' }) → wpAny (model P w) A (Builtin.SmallTypes.nextOf (.ref it)) Q E s
  keep : ∀ i h h', st i h → (∀ o, h.get? it = some o → h'.get? it = some o) → st i h'
section
variable {P : Program} {w : World} {A : Around} {E : Value → Shared → Prop} {s : Shared} {it e : Addr} {st : Nat → Heap → Prop} {ok : Heap → Prop} {items : Nat → Option Value} {i : Nat} {x old : Value}
structure Lent (it e : Addr) (st : Nat → Heap → Prop) (i : Nat) (x : Value) (s : Shared) (h : Heap) : Prop where
  out : IsEnumOut h e it ((i : Int) + 1) x s.heap.objs.size
  st : st (i + 1) h
  pair : h.get? s.heap.objs.size = some { cls := .type "tuple", data := .seq #[.int i s.toks, x] }
  size : h.objs.size = s.heap.objs.size + 1
  keep : ∀ b o, b ≠ e → b ≠ it → s.heap.get? b = some o → h.get? b = some o
end
end DL
set_option Elab.async false
set_option linter.all false
set_option maxRecDepth 100000
set_option maxHeartbeats 2000000
namespace DL
open PySem PySem.Spec PyProof.Rows L2
structure Enu (h h' : Heap) (l : Addr) : Prop where
  e : IsEnum h' (h.objs.size + 1) h.objs.size 0 .none
  i : h'.IsTupleIter h.objs.size l 0
  keep : ∀ b o, h.get? b = some o → h'.get? b = some o
section
variable {X : Cx} {e : Expr} {ta : TA} {p pos tp : Pos} {ts : List Expr} {kk : Nat}
end
def enumD (xs : List D) : List D := xs.zipIdx.map fun p => .tup [.int (p.2 : Nat), p.1]
def iEnu (f : DF (List D)) : DF Src := fun E S => (f E S).bind fun p => match p.1 with
  | [d] => (seqOf p.2 d).map fun _ => (.view fun S' => (seqOf S' d).map enumD, p.2)
  | _ => none
section
variable {X : Cx} {C : Ctx} {e : Expr} {p pos tpos : Pos} {elts : List Expr} {kk : Nat}
end
end DL
set_option Elab.async false
set_option linter.all false
set_option maxRecDepth 100000
set_option maxHeartbeats 2000000
namespace DL
open PySem PySem.Spec PyProof.Rows L2
section
variable {C : Ctx}
def fTupleX (S : List Ob) : List D → Option D
  | [d] => (lstOf S d).map D.ktp
  | _ => none
end
section
variable {X : Cx} {C : Ctx} {e : Expr} {es : List Expr} {fs : DF (List D)} {f : DF D} {p pos : Pos}
def opTIx (S : List Ob) (x y : D) : Option D := match x, y with
  | .ktp xs, .str z => (strsOf xs).bind fun zs => (zs.findIdx? fun w => decide (w = z)).map fun j => .int (j : Nat)
  | _, _ => none
def dTIx (fo fe : DF D) : DF D := fun E S => (fo E S).bind fun p => match p.1 with
  | .ktp xs => (fe E p.2).bind fun q => (opTIx q.2 (.ktp xs) q.1).map fun d => (d, q.2)
  | _ => none
def dTupRg (f : DF D) : DF D := fun E S => (f E S).bind fun p => match p.1 with
  | .int n => if 0 ≤ n ∧ n ≤ 1000000 then some (.tup ((List.range n.toNat).map fun i : Nat => D.int (i : Nat)), p.2) else none
  | _ => none
end
section
variable {X : Cx} {pins : List (Addr × Obj)} {σ : L2.St} {H : Hp} {s : Shared} {a b : Addr} {r : Value} {d : V} {k : List Key} {A : Around} {E : Value → Shared → Prop}
end
section
variable {X : Cx} {C : Ctx} {o e f : Expr} {td ty tx : TE} {apos cpos : Pos}
def dSetdT (fd fk fx : DF D) : DF D := fun E S => (fd E S).bind fun p => if isDict p.2 p.1 = true then (fk E p.2).bind fun q => (fx E q.2).bind fun r => match p.1 with
  | .ptr j => match r.2[j]?, tkeyOf q.1 with
    | some (.dT kvs), some k => if kvs.length < sizeLine then match getD' kvs k with
        | some d => some (d, r.2)
        | none => some (r.1, r.2.set j (.dT (putD kvs k r.1)))
      else none
    | _, _ => none
  | _ => none
  else none
end
end DL
set_option Elab.async false
set_option linter.all false
set_option maxRecDepth 100000
set_option maxHeartbeats 2000000
namespace DL
open PySem PySem.Spec PyProof.Rows L2
section
variable {C : Ctx} {K : PySem.W.Frag}
end
section
variable {X : Cx} {C : Ctx} {e : Expr} {es : List Expr} {fs : DF (List D)} {f : DF D} {p pos : Pos} {tg : Expr}
def iKy (f : DF D) : DF Src := fun E S => (f E S).bind fun p => match p.1 with
  | .dK l => some (.fix (l.map fun p => keyD p.1), p.2)
  | .dT l => some (.fix (l.map fun p => keyT p.1), p.2)
  | _ => none
end
end DL
set_option Elab.async false
set_option linter.all false
set_option maxRecDepth 100000
set_option maxHeartbeats 600000
namespace DL
open PySem PySem.Spec PyProof.Rows L2
section
variable {X : Cx} {pins : List (Addr × Obj)} {σ : L2.St} {H : Hp} {s : Shared}
end
section
variable {X : Cx} {kx vx tg iter : Expr} {ifs : List Expr} {scope : Scope} {own : List (Str × Nat)} {wi : TI} {g : TG} {tt : TT} {tk tv : TE}
structure Blk (X : Cx) (scope : Scope) (tg : Expr) (ifs : List Expr) (kx vx : Expr) (g : TG) (tt : TT) (tk tv : TE) : Prop where
  g : ∀ p, PG (blkX X scope p) tg g
  t : ∀ p, PTs (blkX X scope p) ifs tt
  k : ∀ p, PE (blkX X scope p) kx tk
  v : ∀ p, PE (blkX X scope p) vx tv
end
end DL
set_option Elab.async false
set_option linter.all false
set_option maxRecDepth 100000
set_option maxHeartbeats 600000
namespace DL
open PySem PySem.Spec PyProof.Rows L2
def SndMT (K : PySem.W.Frag) (C : Ctx) (t : TE) (f : DF (List (List Key × D))) : Prop := ∀ E S l S', f E S = some (l, S') → ∀ Λ F π H σ, At K C Λ F π S H σ E → ∀ Q : VK, PostM K C Λ F π H S' (.dT l) Q → t σ H Q
section
variable {K : PySem.W.Frag} {C : Ctx} {Λ : Lk} {F F' : Hp} {π π' : List Addr} {S S' : List Ob} {H H' : Hp} {l : List (List Key × D)} {Q : VK}
theorem Post.treeMT (p : Post K C Λ F π H S' (.dT l) Q) : PostM K C Λ F π H S' (.dT l) (Lkd Q) := fun a F2 π2 H2 b n => by
  have bR := b.r
  obtain ⟨vs, ha, r⟩ := b.r
  refine ⟨[a], fun c hc => ⟨.dT vs, (List.mem_singleton.mp hc).symm ▸ ha, trivial⟩, fun H3 hl => ?_⟩
  obtain ⟨u, o, h1, h2, h3⟩ := hl.2 a (List.mem_singleton.mpr rfl)
  rw [ha] at h1
  cases h1
  have ne : ∀ x, x ≠ a → H3 x = H2 x := fun x hx => hl.1 x fun z => hx (List.mem_singleton.mp z)
  have na : ∀ p ∈ π2, p ≠ a := fun p hp z => b.n (z ▸ hp)
  refine p (.ref a) (upd F2 a (.frz o (.dT vs))) π2 H3 ⟨b.e.f.trans (same_new b.f), b.e.p, fun x o' h z t => (ne x (ne_of_none h n)).trans (b.e.k x o' h z t), b.e.n, fun x o' h z q t => (b.e.m x o' h z q t).imp id fun y => (upd_ne (ne_of_none h n)).trans y, fun x o' h z => (b.e.th x o' h z).imp fun _ y => (ne x (ne_of_none h n)).trans y⟩ ⟨fun x u q => ?_, b.w.len, b.w.nd, fun q hq => (upd_ne (na q hq)).trans (b.w.fr q hq), fun k ob q h1 h2 => ?_,
    fun t ht => TabS.stay (b.w.tb t ht) fun x u e nn => (ne x fun z => by subst z; exact ObR.plain e nn bR).trans e, fun x ps q => by
      by_cases hx : x = a
      · subst hx
        rw [upd_same] at q
        cases q
      · rw [upd_ne hx] at q
        exact b.w.nt x ps q⟩ ⟨a, vs, o, rfl, upd_same, RepT.mono (same_new b.f) (List.prefix_refl _) _ _ r⟩
  · by_cases hx : x = a
    · subst hx
      rw [upd_same] at q
      cases q
      exact h3
    · rw [upd_ne hx] at q
      exact (ne x hx).trans (b.w.ext x u q)
  · exact ObR.mono (same_new b.f) (List.prefix_refl _) (ObR.heap (ne q (na q (List.mem_of_getElem? h2))) (b.w.ob k ob q h1 h2))
theorem Post.newMT (p : Post K C Λ F π H (S' ++ [.dT l]) (.ptr S'.length) Q) : PostM K C Λ F π H S' (.dT l) Q := fun a F2 π2 H2 b n => by
  obtain ⟨vs, ha, r⟩ := b.r
  exact p (.ref a) F2 (π2 ++ [a]) H2 ⟨b.e.f, b.e.p.trans (List.prefix_append _ _), b.e.k, fun x o h z q => by
      rcases List.mem_append.mp q with q | q
      · exact b.e.n x o h z q
      · rw [List.mem_singleton.mp q, n] at h
        exact (nomatch h), b.e.m, b.e.th⟩ (b.w.adopt b.f b.n ⟨vs, ha, RepT.mono (Same.refl _) (List.prefix_append _ _) _ _ r⟩)
    ⟨a, rfl, by rw [← b.w.len, List.getElem?_append_right (Nat.le_refl _), Nat.sub_self]; rfl⟩
def dTreeT (f : DF (List (List Key × D))) : DF D := fun E S => (f E S).map fun p => (.dT p.1, p.2)
def dNewDT (f : DF (List (List Key × D))) : DF D := fun E S => (f E S).map fun p => (.ptr p.2.length, p.2 ++ [.dT p.1])
theorem SndMT.snd {t : TE} {f : DF (List (List Key × D))} (h : SndMT K C t f) (new : Bool) : Snd K C (fun σ H Q => t σ H (Lkd Q)) (if new then dNewDT f else dTreeT f) := by
  cases new with
  | true =>
    intro E S d S' q Λ F π H σ w Q p
    obtain ⟨⟨xs, S1⟩, q1, q2⟩ := Option.map_eq_some_iff.mp q
    cases q2
    exact h E S xs S1 q1 Λ F π H σ w _ (p.newMT.imp fun _ _ => Lkd.none)
  | false =>
    intro E S d S' q Λ F π H σ w Q p
    obtain ⟨⟨xs, S1⟩, q1, q2⟩ := Option.map_eq_some_iff.mp q
    cases q2
    exact h E S xs S1 q1 Λ F π H σ w _ p.treeMT
end
section
variable {X : Cx} {C : Ctx} {tg iter elt kx : Expr} {ifs : List Expr} {scope : Scope} {ws : List Nat} {pos spos : Pos} {fi : DF Src} {fg : DFG} {ft : DF Bool} {fe fk : DF D}
end
section
variable {C : Ctx} {K : PySem.W.Frag}
end
section
variable {X : Cx} {C : Ctx} {e : Expr} {es : List Expr} {fs : DF (List D)} {p pos : Pos}
end
end DL
set_option Elab.async false
set_option linter.all false
set_option maxRecDepth 100000
set_option maxHeartbeats 600000
namespace DL
open PySem PySem.Spec PyProof.Rows L2
section
variable {X : Cx} {C : Ctx}
def sPar3 (i j l : Nat) (f : DF (List D)) : DFS := fun E S => (f E S).bind fun p => match p.1 with
  | [x, y, z] => some (.nx (((E.set i (some x)).set j (some y)).set l (some z)), p.2)
  | _ => none
end
end DL
set_option Elab.async false
set_option linter.all false
set_option maxRecDepth 100000
set_option maxHeartbeats 4000000
namespace DL
open PySem PySem.Spec PyProof.Rows L2
namespace EX
open PySem.W PySem.Calls
section
variable {prog : Program} {w : World} {A : Around} {E : Value → Shared → Prop} {h : Heap} {g : Array GenState} {d : Drawn} {t : Nat} {os : OsState}
theorem exc_makeK {K : PySem.W.Frag} {C f cda cc : Addr} {fd : FuncData} {p0 p1 p2 p3 p4 p5 p6 p7 p8 p9 : Pos} {scope : Scope} {qual : Str} {pl : Sem Bool} {v : Value} {rest : List Value} {kw : List (Str × Value)} {mg mb : Str → Option Value} {Q : Value → Shared → Prop}
    (T : OexC K C) (F : XiF K prog C f cda cc fd p0 p1 p2 p3 p4 p5 p6 p7 p8 p9 scope qual pl) (X : K.In h) (G : h.Ns mainGlobals mg) (Bl : h.Ns builtinsNs mb) (hbb : ∀ x : Str, x ≠ "__name__" → mb x = bootBuiltins x) (nl : h.NoLimit) (hr : Room 2 A) (hz : rest.length ≤ sizeLine)
    (hb : ∀ (s : Shared) (u : Value), K.In s.heap → BindsTo s fd ⟨u :: rest, kw⟩ [("self", u), ("value", v)])
    (hq : ∀ h' t' dx t1, (∀ b o, h.get? b = some o → h'.get? b = some o) → h.objs.size ≤ dx → dx ≠ h.objs.size + 1 → h'.get? (h.objs.size + 1) = some { cls := .ref C, dict := some dx, data := .fields #[.ref t1, .none, .none, .none, .bool false, .none] } →
      h'.Ns1 dx (fun y => if y = ("value" : Str) then some v else none) → Q (.ref (h.objs.size + 1)) ⟨h', g, d, t', os⟩) :
    wpAny (model prog w) A (call (.ref C) rest kw) Q E ⟨h, g, d, t, os⟩ := by
  obtain ⟨nm, q, N, bs, bm, sn, sub, ab, col, dd, k0, k1, k2, k3, k5, hC, hbm⟩ := T.cls
  have kk : ∀ b o, h.get? b = some o → ((h.push (kdv_tup rest)).push (HandSPX.excO C h.objs.size)).get? b = some o := fun b o e => Heap.get?_push_of_some _ (Heap.get?_push_of_some _ e)
  have he : ((h.push (kdv_tup rest)).push (HandSPX.excO C h.objs.size)).get? (h.objs.size + 1) = some (HandSPX.excO C h.objs.size) := by heap_get
  have hKe : K.lookup (h.objs.size + 1) = none := by
    cases z : K.lookup (h.objs.size + 1) with
    | none => rfl
    | some o => exact absurd (Heap.lt_size (X _ _ z)) (Nat.not_lt.mpr (Nat.le_succ _))
  refine wpAny_call (HandSPX.call_kw PySem.F.excBase_ValueError (fun Y => HandSPX.refsVE_contains Y bm hbm) (X _ _ hC) (looks_findIn X F.iC) (fun self => bind_fn X self F.tI) hz ?_)
  have hroom : (A.in1.under (.builtin "type.__call__" ⟨.ref C :: rest, kw⟩)).depth < recursionLimit := (hr.in1.make C rest kw).depth
  refine init_run T F (X.keeps kk) (G.at fun o z => kk _ _ z) (Bl.at fun o z => kk _ _ z) hbb (nl.keeps kk) ?_ he hKe (hb _ _ (X.keeps kk)) (fun h' t' dx t1 k dn dne hx hn => ?_)
  · exact hroom
  · have nb : ∀ b o, h.get? b = some o → b ≠ h.objs.size + 1 := fun b o z => by
      exact Nat.ne_of_lt (Nat.lt_of_lt_of_le (Heap.lt_size z) (Nat.le_succ _))
    exact ⟨rfl, hq h' t' dx t1 (fun b o z => k b o (nb b o z) (kk b o z)) (by
      refine Nat.le_trans ?_ dn
      rw [Heap.size_push, Heap.size_push]
      exact Nat.le_trans (Nat.le_succ _) (Nat.le_succ _)) dne hx hn⟩
end
structure XcOk (prog : Program) (K : PySem.W.Frag) (C : Addr) : Prop where
  T : OexC K C
  E : ExcC K C
  F : XfC K C
  nv : PySem.W.findIn K (.ref C) "value" = some none
  made : ∃ (f cda cc : Addr) (fd : FuncData) (p0 p1 p2 p3 p4 p5 p6 p7 p8 p9 : Pos) (scope : Scope) (qual : Str) (pl : Sem Bool), XiF K prog C f cda cc fd p0 p1 p2 p3 p4 p5 p6 p7 p8 p9 scope qual pl ∧
    (∀ (s : Shared) (u v : Value), K.In s.heap → BindsTo s fd ⟨[u, v], []⟩ [("self", u), ("value", v)]) ∧ (∀ (s : Shared) (u : Value), K.In s.heap → BindsTo s fd ⟨[u], []⟩ [("self", u), ("value", .none)]) ∧
    ∀ (s : Shared) (u v : Value), K.In s.heap → BindsTo s fd ⟨[u], [("value", v)]⟩ [("self", u), ("value", v)]
section
variable {X : Cx} {pins : List (Addr × Obj)} {σ : L2.St} {H : Hp} {s : Shared}
theorem Un.laid2 {fs ex : List Addr} {H : Hp} {h h' : Heap} {a b : Addr} {o1 o2 : HO} (k : ∀ b u, h.get? b = some u → h'.get? b = some u) (ha : h.get? a = none) (hb : h.get? b = none) (na : H a = none) (nb : H b = none) : Un fs ex H (upd (upd H a o1) b o2) h h' where
  keep := fun c u q _ _ _ => k c u q
  slot := fun c u q _ _ _ => ⟨u.slots, k c u q⟩
  free := fun c u q n _ => by rw [upd_ne (fun z => by rw [z, hb] at q; cases q), upd_ne (fun z => by rw [z, ha] at q; cases q)]; exact n
  there := fun c u q _ => ⟨u, k c u q⟩
  tups := fun c xs q => by rw [upd_ne (ne_of_none q nb), upd_ne (ne_of_none q na)]; exact q
  frzs := fun c u xs q => by rw [upd_ne (ne_of_none q nb), upd_ne (ne_of_none q na)]; exact q
  tbls := fun c ps q => ⟨#[], by rw [upd_ne (ne_of_none q nb), upd_ne (ne_of_none q na), q]; simp⟩
theorem HOk.laid2 {P : Program} {w : World} {H : Hp} {h h' : Heap} {a b : Addr} {o1 o2 : HO} (x : HOk P w H h) (k : ∀ b u, h.get? b = some u → h'.get? b = some u) (na : H a = none) (nb : H b = none) (hab : b ≠ a)
    (new1 : ObjOk P w (upd (upd H a o1) b o2) h' a o1) (new2 : ObjOk P w (upd (upd H a o1) b o2) h' b o2) : HOk P w (upd (upd H a o1) b o2) h' := fun c u e => by
  have nn : ∀ c o, H c = some o → upd (upd H a o1) b o2 c = some o := fun c o q => by rw [upd_ne (ne_of_none q nb), upd_ne (ne_of_none q na)]; exact q
  by_cases hb : c = b
  · subst hb
    rw [upd_same] at e
    cases e
    exact new2
  · rw [upd_ne hb] at e
    by_cases ha : c = a
    · subst ha
      rw [upd_same] at e
      cases e
      exact new1
    · rw [upd_ne ha] at e
      exact (x c u e).stay (fun c v _ q => k c v q) (fun c q => nn _ _ q) fun c xs q => nn _ _ q
def tExc (C : Addr) (v : V) (H : Hp) (Q : VK) : Prop := ∀ a dx, H a = none → H dx = none → dx ≠ a → Q (.ref a) (upd (upd H a (xq a C dx)) dx (.xd [("value", v)]))
theorem run_exc {C : Addr} {u : Value} {v : V} {rest : List Value} {kw : List (Str × Value)} {Q : VK} (O : XcOk X.prog X.K C) (hr : Room 2 X.A) (hz : rest.length ≤ sizeLine)
    (hb : ∀ f cda cc fd p0 p1 p2 p3 p4 p5 p6 p7 p8 p9 scope qual pl, XiF X.K X.prog C f cda cc fd p0 p1 p2 p3 p4 p5 p6 p7 p8 p9 scope qual pl → (∀ (s : Shared) (u v : Value), X.K.In s.heap → BindsTo s fd ⟨[u, v], []⟩ [("self", u), ("value", v)]) → (∀ (s : Shared) (u : Value), X.K.In s.heap → BindsTo s fd ⟨[u], []⟩ [("self", u), ("value", .none)]) →
      (∀ (s : Shared) (u v : Value), X.K.In s.heap → BindsTo s fd ⟨[u], [("value", v)]⟩ [("self", u), ("value", v)]) → ∀ (s : Shared) (y : Value), X.K.In s.heap → BindsTo s fd ⟨y :: rest, kw⟩ [("self", y), ("value", u)])
    (I : Inv X pins σ H s) (r : RelV v u) (q : tExc C v H Q) : wpAny (model X.prog X.w) X.A (call (.ref C) rest kw) (EP X pins σ Q) X.xe s := by
  obtain ⟨f, cda, cc, fd, p0, p1, p2, p3, p4, p5, p6, p7, p8, p9, scope, qual, pl, F, b1, b2, b3⟩ := O.made
  obtain ⟨mb, Bl, hbb⟩ := I.ok.mod.blt
  obtain ⟨hp, g, dr, tk, os⟩ := s
  have bk := I.bk
  refine exc_makeK O.T F I.kIn (I.ok.mod.glob.at fun o z => bk _ _ z) (Bl.at fun o z => bk _ _ z) hbb (I.ok.mod.nolimit.keeps fun b o z => bk _ _ z) hr hz (hb _ _ _ _ _ _ _ _ _ _ _ _ _ _ _ _ _ F b1 b2 b3) fun h' t' dx t1 kk dn dne hx hn => ?_
  have na : H (hp.objs.size + 1) = none := I.hok.fresh (Nat.le_succ _)
  have nd : H dx = none := I.hok.fresh dn
  have ga : hp.get? (hp.objs.size + 1) = none := by
    cases e : hp.get? (hp.objs.size + 1) with
    | none => rfl
    | some o => exact absurd (Heap.lt_size e) (Nat.not_lt.mpr (Nat.le_succ _))
  have gd : hp.get? dx = none := by
    cases e : hp.get? dx with
    | none => rfl
    | some o => exact absurd (Heap.lt_size e) (Nat.not_lt.mpr dn)
  refine ⟨V.ref (hp.objs.size + 1), _, I.un (t' := t') (Un.laid2 (o1 := xq (hp.objs.size + 1) C dx) (o2 := .xd [("value", v)]) kk ga gd na nd) (HOk.laid2 I.hok kk na nd dne ?_ ?_), rfl, q _ _ na nd dne⟩
  · refine ⟨⟨_, hx, rfl, rfl, _, rfl⟩, ⟨_, hx⟩, fun h1 h2 ⟨oe, z1, z2⟩ z => ⟨oe, z _ z1, z2⟩⟩
  · refine ⟨_, hn, fun y => ?_⟩
    by_cases hy : y = "value"
    · subst hy
      rw [if_pos rfl]
      exact r
    · rw [if_neg hy]
      have : ([(("value" : Str), v)] : List (Str × V)).lookup y = none := by
        rw [List.lookup_cons]
        rw [show (y == ("value" : Str)) = false from beq_eq_false_iff_ne.mpr hy]
        rfl
      rw [this]
      trivial
end
section
variable {X : Cx} {C : Ctx} {e : Expr} {f : DF D} {x : Str} {p pos kpos : Pos} {c : Nat}
theorem post_exc {K : PySem.W.Frag} {C : Ctx} {Λ : Lk} {F : Hp} {π : List Addr} {S' : List Ob} {H : Hp} {Q : VK} {d : D} {v : V} {c : Nat} (q : Post K C Λ F π H S' (.exc c d) Q) (w : Wd K C Λ F π S' H) (r : Rep K C F π d v) : tExc (C.xc c) v H Q := by
  intro a dx na nd ne
  have w1 := w.tree (p := a) (o := xq a (C.xc c) dx) na
  have nd1 : upd H a (xq a (C.xc c) dx) dx = none := by rw [upd_ne ne]; exact nd
  have w2 := w1.tree (p := dx) (o := .xd [("value", v)]) nd1
  have e1 : Ext F π H _ π _ := Ext.tree (o := xq a (C.xc c) dx) na (w.frozen na)
  have e2 := e1.trans (Ext.tree (o := .xd [("value", v)]) nd1 (w1.frozen nd1))
  refine q _ _ _ _ e2 w2 ⟨a, dx, v, rfl, ?_, upd_same, Rep.mono e2.f e2.p _ _ r⟩
  rw [upd_ne (Ne.symm ne), upd_same]
def dExc (c : Nat) (f : DF (List D)) : DF D := fun E S => (f E S).bind fun p => match p.1 with
  | [d] => some (.exc c d, p.2)
  | _ => none
def dExc0 (c : Nat) : DF D := fun _ S => some (.exc c .non, S)
theorem de_exc (O : XcOk X.prog X.K (C.xc c)) (hr : Room 2 X.A) (hm : X.mg x = some (.ref (C.xc c))) {f : DF (List D)} (ha : DA X C [e] f) (hg : Gl X x := by rfl) (hdb : (x == ("__debug__" : Str)) = false := by decide)
    (he : starEach [e] X.env = (false, eval e X.env) :: starEach [] X.env := by rfl) (hpl : (backTo pos (starEach [] X.env)).any (·.1) = false := by rfl) : DE X C (.Call (.Name x p) [e] [] pos) (dExc c f) := by
  obtain ⟨t, h1, h2⟩ := ha
  refine ⟨fun σ H Q => t σ H fun vs H1 => ∃ v, vs = [v] ∧ tExc (C.xc c) v H1 Q, ⟨fun pins s σ H Q I h => ?_⟩, fun E S d S' q Λ F π H σ w Q p => ?_⟩
  · refine wpAny_Call_Name_kw (ld_glob I hg hm ?_ hdb)
    refine PySem.W.callWith_K (h₀ := X.base) I.ok.mod.kin O.T.kC (thn (h1.run pos pins s σ H _ I h) fun us s1 ⟨vs, H1, I1, r1, v, ev, q1⟩ => ⟨I1.kIn, ?_⟩) he hpl
    subst ev
    cases r1 with
    | cons r rr =>
      cases rr
      exact run_exc O hr (by show 1 ≤ sizeLine; decide) (fun _ _ _ _ _ _ _ _ _ _ _ _ _ _ _ _ _ F b1 b2 b3 s y hs => b1 s y _ hs) I1 r q1
  · obtain ⟨⟨ds, S1⟩, q1, q⟩ := Option.bind_eq_some_iff.mp q
    cases ds with
    | nil => cases q
    | cons y ys =>
      cases ys with
      | cons z zs => cases q
      | nil =>
        cases q
        refine h2 E S _ _ q1 Λ F π H σ w _ fun vs F1 π1 H1 e1 w1 r1 => ?_
        obtain ⟨v, r, rfl, r2, r3⟩ := r1
        rw [show r = [] from r3]
        exact ⟨v, rfl, post_exc (p.step e1) w1 r2⟩
theorem de_exc0 (O : XcOk X.prog X.K (C.xc c)) (hr : Room 2 X.A) (hm : X.mg x = some (.ref (C.xc c))) (hg : Gl X x := by rfl) (hdb : (x == ("__debug__" : Str)) = false := by decide) : DE X C (.Call (.Name x p) [] [] pos) (dExc0 c) := by
  refine ⟨fun σ H Q => tExc (C.xc c) .non H Q, ⟨fun pins s σ H Q I h => ?_⟩, fun E S d S' q Λ F π H σ w Q p => ?_⟩
  · refine wpAny_Call_Name_kw (ld_glob I hg hm ?_ hdb)
    exact PySem.W.callWith_K0 I.kIn O.T.kC (run_exc (u := .none) (v := .non) O hr (Nat.zero_le _) (fun _ _ _ _ _ _ _ _ _ _ _ _ _ _ _ _ _ F b1 b2 b3 s y hs => b2 s y hs) I rfl h)
  · cases q
    exact post_exc p w.w rfl
def dExcK (c : Nat) (f : DF D) : DF D := fun E S => (f E S).map fun p => (.exc c p.1, p.2)
theorem de_excK (O : XcOk X.prog X.K (C.xc c)) (hr : Room 2 X.A) (hm : X.mg x = some (.ref (C.xc c))) (ha : DE X C e f) (hg : Gl X x := by rfl) (hdb : (x == ("__debug__" : Str)) = false := by decide)
    (hall : (backToKw pos (keywordEach [⟨some "value", e, kpos⟩] X.env)).all (·.1.isSome) = true := by rfl) (hks : (backToKw pos (keywordEach [⟨some "value", e, kpos⟩] X.env)).filterMap (·.1) = [("value" : Str)] := by rfl)
    (hpl : ((backTo pos (starEach [] X.env)).any (·.1) || (backToKw pos (keywordEach [⟨some "value", e, kpos⟩] X.env)).any (·.1.isNone)) = false := by rfl) : DE X C (.Call (.Name x p) [] [⟨some "value", e, kpos⟩] pos) (dExcK c f) := by
  obtain ⟨t, h1, h2⟩ := ha
  refine ⟨fun σ H Q => tCons t tNil σ H fun vs H1 => ∃ v, vs = [v] ∧ tExc (C.xc c) v H1 Q, ⟨fun pins s σ H Q I h => ?_⟩, fun E S d S' q Λ F π H σ w Q p => ?_⟩
  · refine wpAny_Call_Name_kw (ld_glob I hg hm ?_ hdb)
    have hk : PK X [⟨some "value", e, kpos⟩] (tCons t tNil) := pk_cons h1 pk_nil
    refine PySem.W.callWith_KW0 (h₀ := X.base) I.ok.mod.kin O.T.kC hall (thn (hk.run pos pins s σ H _ I h) fun us s1 ⟨vs, H1, I1, r1, v, ev, q1⟩ => ⟨I1.kIn, ?_⟩) hpl
    subst ev
    rw [hks]
    cases r1 with
    | cons r rr =>
      cases rr
      exact run_exc O hr (Nat.zero_le _) (fun _ _ _ _ _ _ _ _ _ _ _ _ _ _ _ _ _ F b1 b2 b3 s y hs => b3 s y _ hs) I1 r q1
  · obtain ⟨⟨y, S1⟩, q1, q⟩ := Option.map_eq_some_iff.mp q
    cases q
    refine h2 E S _ _ q1 Λ F π H σ w _ fun v F1 π1 H1 e1 w1 r1 => ?_
    exact ⟨v, rfl, post_exc (p.step e1) w1 r1⟩
theorem inst_exc {s : Shared} {pins : List (Addr × Obj)} {σ : L2.St} {H : Hp} {a dx Cc : Addr} {v : V} (I : Inv X pins σ H s) (h1 : H a = some (xq a Cc dx)) (h2 : H dx = some (.xd [("value", v)])) :
    ∃ (oe od : Obj) (u : Value), PySem.W.InstAt s.heap a oe Cc (some od) ∧ PySem.W.lookIn "value" od = some (some u) ∧ RelV v u := by
  obtain ⟨⟨oe, g1, g2, g3, vs, g4⟩, _, _⟩ := I.hok a _ h1
  have hx : ObjOk X.prog X.w H s.heap dx (.xd [("value", v)]) := I.hok dx _ h2
  obtain ⟨mA, hns, hr⟩ := hx
  obtain ⟨od, ho, hl⟩ := lookIn_ns hns
  obtain ⟨u, hu, ru⟩ := RelO.some_of (v := v) (o := mA "value") (hr "value")
  exact ⟨oe, od, u, ⟨g1, g2, by unfold PySem.W.notCls; rw [g4] <;> rfl, by rw [g3]; exact ho⟩, by rw [hl, hu], ru⟩
def dXval (f : DF D) : DF D := fun E S => (f E S).bind fun p => match p.1 with
  | .exc _ d => some (d, p.2)
  | _ => none
theorem de_xval (O : ∀ c, XcOk X.prog X.K (C.xc c)) (he : DE X C e f) (hb : attributeBase e "value" X.env (eval e X.env) = eval e X.env := by rfl) : DE X C (.Attribute e "value" pos) (dXval f) := by
  obtain ⟨t, h1, h2⟩ := he
  refine ⟨fun σ H Q => t σ H fun x H1 => ∃ a dx c v, x = .ref a ∧ H1 a = some (xq a (C.xc c) dx) ∧ H1 dx = some (.xd [("value", v)]) ∧ Q v H1, ⟨fun pins s σ H Q I h => ?_⟩, fun E S d S' q Λ F π H σ w Q p => ?_⟩
  · refine attr_of hb (thn (h1.run pins s σ H _ I h) fun u s1 hh => ?_)
    obtain ⟨x, H1, I1, rx, a, dx, c, v, rfl, g1, g2, q⟩ := hh
    obtain rfl : u = Value.ref a := rx
    obtain ⟨oe, od, u, J, hl, ru⟩ := inst_exc I1 g1 g2
    exact HandSPX.exc_get I1.kIn J (O c).F.ga (O c).F.gg (O c).F.exC (PySem.W.findObj_own (O c).F.hdC (O c).nv rfl hl) (handed_of ru) ⟨v, H1, I1.tok _, ru, q⟩
  · obtain ⟨⟨y, S1⟩, q1, q⟩ := Option.bind_eq_some_iff.mp q
    refine h2 E S y S1 q1 Λ F π H σ w _ fun v F1 π1 H1 e1 w1 r1 => ?_
    cases y with
    | exc c d =>
      cases q
      obtain ⟨a, dx, u, rfl, g1, g2, g3⟩ := r1
      exact ⟨a, dx, c, u, rfl, w1.ext _ _ g1, w1.ext _ _ g2, (p.step e1).val w1 g3⟩
    | _ => cases q
def dIsx (g : Nat → Option Bool) (f : DF D) : DF D := fun E S => (f E S).bind fun p => match p.1 with
  | .exc n _ => (g n).map fun b => (.bl b, p.2)
  | _ => none
def rIsX (K : PySem.W.Frag) : List V → Hp → VK → Prop := fun xs H Q => ∃ (c : V) (a dx Cc : Addr) (v : V) (u : Value) (b : Bool), xs = [.ref a, c] ∧ ClsV c u ∧ H a = some (xq a Cc dx) ∧ H dx = some (.xd [("value", v)]) ∧ ExcC K Cc ∧ PySem.W.kitOne K (.ref Cc) u = some b ∧ Q (.bl b) H
theorem call_isX : CallR X (.builtin "isinstance") (rIsX X.K) := by
  intro pins s σ H xs us Q I r h
  obtain ⟨c, a, dx, Cc, v, u, b, rfl, k, g1, g2, O, e, q⟩ := h
  obtain ⟨u1, u2, rfl, r1, r2⟩ := vals2 r
  have e2 := k.eq r2
  subst e2
  obtain rfl : u1 = Value.ref a := r1
  obtain ⟨oe, od, _, J, _⟩ := inst_exc I g1 g2
  have hcl : (PySem.W.clsIn X.K Cc).isSome = true := by
    obtain ⟨cd, hc, _⟩ := PySem.W.any_some O.hd
    rw [hc]; rfl
  exact PySem.W.kia_one (PySem.W.kitx_exc hcl O.hg O.hk O.hs O.ha O.hn O.ht O.hm) I.kIn J e (fun z => nomatch z) fun tk => ⟨.bl b, H, I.tok tk, rfl, q⟩
theorem de_isX {a : Expr} {y : Str} {p1 p2 : Pos} {te : TE} {k : V} {u : Value} {g : Nat → Option Bool} (O : ∀ c, XcOk X.prog X.K (C.xc c)) (hk : PE X (.Name y p2) (tC k)) (hc : ClsV k u) (hg : ∀ n b, g n = some b → PySem.W.kitOne X.K (.ref (C.xc n)) u = some b) (ha : DE X C a f) (hm : X.mg "isinstance" = none)
    (hs : starEach [a, .Name y p2] X.env = (false, eval a X.env) :: starEach [.Name y p2] X.env := by rfl) (hs2 : starEach [(.Name y p2 : Expr)] X.env = (false, eval (.Name y p2) X.env) :: starEach [] X.env := by rfl) (hgl : Gl X "isinstance" := by rfl) (hpl : (backTo pos (starEach [(.Name y p2 : Expr)] X.env)).any (·.1) = false := by rfl) :
    DE X C (.Call (.Name "isinstance" p1) [a, .Name y p2] [] pos) (dIsx g f) := by
  obtain ⟨t, a1, a2⟩ := ha
  refine ⟨_, pe_callB call_isX hgl hm (by decide +kernel) (pa_cons a1 (pa_cons hk pa_nil hs2) hs) (by decide) (by decide) hs hpl, fun E S d S' q Λ F π H σ w Q p => ?_⟩
  obtain ⟨⟨y, S1⟩, q1, q⟩ := Option.bind_eq_some_iff.mp q
  cases y with
  | exc n z =>
    obtain ⟨b, q2, q⟩ := Option.map_eq_some_iff.mp q
    cases q
    refine a2 E S _ _ q1 Λ F π H σ w _ fun v F1 π1 H1 e1 w1 r1 => ?_
    obtain ⟨m, dx, l, rfl, g1, g2, g3⟩ := r1
    exact ⟨k, m, dx, C.xc n, l, u, b, rfl, hc, w1.ext _ _ g1, w1.ext _ _ g2, (O n).E, hg n b q2, (p.step e1).val w1 rfl⟩
  | _ => cases q
end
end EX
end DL
set_option Elab.async false
set_option linter.all false
set_option maxRecDepth 100000
set_option maxHeartbeats 4000000
namespace DL
open PySem PySem.Spec PyProof.Rows L2
namespace EX
open PySem.W PySem.Calls
def emp (S : List Ob) : D → Bool
  | .ptr k => match S[k]? with
    | some (.dK []) => true
    | _ => false
  | _ => false
def nils (n : Nat) : PyData := .list (List.replicate n (.dict []))
def fReprX (S : List Ob) : List D → Option D
  | [d] => match lstOf S d with
    | some xs => if (xs ≠ [] ∧ xs.all (emp S) = true) ∧ ((nils xs.length).showable = true ∧ (nils xs.length).depth ≤ 60 ∧ (nils xs.length).shown.length ≤ sizeLine) then some (.str (nils xs.length).shown) else fRepr S [d]
    | none => fRepr S [d]
  | _ => none
def rReprX (K : PySem.W.Frag) : List V → Hp → VK → Prop := fun xs H Q => rRepr K xs H Q ∨ ∃ a vs, xs = [.ref a] ∧ H a = some (.lst vs) ∧ (∀ v ∈ vs, ∃ b, v = V.ref b ∧ H b = some (.dK [])) ∧ vs ≠ [] ∧ (nils vs.length).showable = true ∧ (nils vs.length).depth ≤ 60 ∧ (nils vs.length).shown.length ≤ sizeLine ∧ Q (.str (nils vs.length).shown) H
theorem reads_nils {h : Heap} {P : Program} {w : World} {H : Hp} (ok : HOk P w H h) : ∀ {vs : List V} {us : List Value}, Vals vs us → (∀ v ∈ vs, ∃ b, v = V.ref b ∧ H b = some (.dK [])) → ∃ as, ReadsAll h us (List.replicate vs.length (.dict [])) as ∧ sysModules ∉ as
  | [], _, .nil, _ => ⟨[], .nil, by simp⟩
  | v :: vs, _, .cons r rr, hv => by
    obtain ⟨b, rfl, hb⟩ := hv v List.mem_cons_self
    obtain ⟨as, q1, q2⟩ := reads_nils ok rr fun z hz => hv z (List.mem_cons_of_mem _ hz)
    obtain ⟨_, lo, ys, ky, o, es, ep, ho, hx, hd, hk, hp, hn⟩ := dk_of ok hb
    have ey : ys = [] := by
      cases ky
      rfl
    subst ey
    have ee : es.toList = [] := by
      generalize es.toList = l at hp
      cases hp
      rfl
    obtain rfl := r
    refine ⟨b :: [] ++ [] ++ as, ReadsAll.cons (Reads.dict (kvs := []) ho hx.1 hd (by rw [ee]; exact .nil) (by rw [ee]; exact .nil)) q1, fun z => ?_⟩
    simp only [List.append_nil, List.cons_append, List.nil_append, List.mem_cons] at z
    rcases z with z | z
    · rw [z] at lo
      exact absurd lo (by simp)
    · exact q2 z
theorem call_reprX {X : Cx} {k : Nat} (hr : Room k X.A) (hg : X.A.guards = some []) : CallR X (.builtin "repr") (rReprX X.K) := by
  intro pins s σ H xs us Q I r h
  rcases h with h | ⟨a, vs, rfl, ha, hv, h0, h1, h3, h4, q⟩
  · exact call_repr hr hg pins s σ H xs us Q I r h
  · obtain ⟨u, rfl, ru⟩ := vals1 r
    obtain rfl : u = Value.ref a := ru
    obtain ⟨its, rv, ⟨o, n, ho, hc, _, hd⟩, _⟩ := I.list (.inl (.inl ha))
    obtain ⟨as, hr1, hr2⟩ := reads_nils I.hok rv hv
    have room := hr.units
    obtain ⟨bs, hb, hk⟩ := ReprAllK.of_readsAll (prog := X.prog) (w := X.w) hr1 (by simpa [nils, PyData.showable] using h1) (fun _ => hr2) (fun t ht => Nat.le_trans (listText_mem_le ht) (by simpa [nils, PyData.shown] using h4))
    have hna : a ∉ bs := not_mem_of_deeper (.list ho hc hd hr1) (by simp only [PyData.depth]; omega) hb
    have hne : its ≠ [] := fun z => h0 (by
      subst z
      cases rv
      rfl)
    have hdep : PyData.depthAll (List.replicate vs.length (.dict [])) + 1 ≤ 60 := by simpa [nils, PyData.depth] using h3
    refine call_repr_slot (T := "list") (by omega) ⟨o, ho, hc⟩ F.slot_list_repr.toG ?_
    cases its with
    | nil => exact absurd rfl hne
    | cons x l =>
      refine call_list_reprK ho hc hd hna (by simpa using hk.length_eq) (fun i y e => hk.item i y (by simpa using e)) hg (fun b _ => Clear.nil b) ?_ (fun _ _ e => e) (fun h' u tk hk' => ?_) (by simpa [nils, PyData.shown] using h4)
      · show X.A.units + 1 + _ < cLine
        omega
      · refine ⟨_, _, rfl, ?_⟩
        refine ⟨.str (nils vs.length).shown, H, I.kept (t' := tk) fun b o e => hk' b o e, ⟨u, by simp [nils, PyData.shown]⟩, q⟩
theorem emp_all {K : PySem.W.Frag} {C : Ctx} {Λ : Lk} {F : Hp} {π : List Addr} {S : List Ob} {H : Hp} (w : Wd K C Λ F π S H) : ∀ {xs : List D} {vs : List V}, RepA K C F π xs vs → xs.all (emp S) = true → ∀ v ∈ vs, ∃ b, v = V.ref b ∧ H b = some (.dK [])
  | [], vs, r, _, v, hv => by
    rw [show vs = [] from r] at hv
    exact nomatch hv
  | x :: xs, vs, r, h, v, hv => by
    obtain ⟨u, t, rfl, q1, q2⟩ := r
    rw [List.all_cons, Bool.and_eq_true] at h
    rcases List.mem_cons.mp hv with rfl | hv
    · cases x with
      | ptr k =>
        obtain ⟨a, rfl, hp⟩ := q1
        obtain ⟨ob, o1, o2⟩ := w.obj hp
        have h1 := h.1
        simp only [emp, o1] at h1
        cases ob with
        | dK l =>
          cases l with
          | nil =>
            obtain ⟨vs, z, r⟩ := o2
            cases r
            exact ⟨a, rfl, z⟩
          | cons _ _ => cases h1
        | _ => cases h1
      | _ => exact absurd h.1 (by simp [emp])
    · exact emp_all w q2 h.2 v hv
theorem cs_reprX {K : PySem.W.Frag} {C : Ctx} : CallS K C (rReprX K) fReprX := by
  intro Λ F π S H ds vs d h w r Q p
  match ds, h with
  | [x], h =>
    have old : fRepr S [x] = some d → rReprX K vs H Q := fun h => .inl (cs_repr Λ F π S H [x] vs d h w r Q p)
    simp only [fReprX] at h
    split at h
    · rename_i xs hx
      split at h
      · rename_i hz
        cases h
        obtain ⟨v, rfl, q⟩ := rep_one r
        obtain ⟨a, us, rfl, q2, q3⟩ := lstOf_ok w q hx
        have hl : us.length = xs.length := q3.length
        refine .inr ⟨a, us, rfl, q2, emp_all w q3 hz.1.2, fun z => hz.1.1 ?_, ?_⟩
        · cases xs with
          | nil => rfl
          | cons _ _ =>
            rw [z] at hl
            cases hl
        · rw [hl]
          exact ⟨hz.2.1, hz.2.2.1, hz.2.2.2, p.val w rfl⟩
      · exact old h
    · exact old h
variable {X : Cx} {C : Ctx} {e : Expr} {es : List Expr} {fs : DF (List D)} {k : Nat} {p pos : Pos}
theorem de_reprX (B : Bt X.mg) (hr : Room k X.A) (hG : X.A.guards = some []) (ha : DA X C (e :: es) fs) (hg : Gl X "repr" := by rfl) (hs : starEach (e :: es) X.env = (false, eval e X.env) :: starEach es X.env := by rfl) (hpl : (backTo pos (starEach es X.env)).any (·.1) = false := by rfl) : DE X C (.Call (.Name "repr" p) (e :: es) [] pos) (dCB fReprX fs) :=
  de_callB (call_reprX hr hG) cs_reprX B.repr (by decide +kernel) ha hg (by decide) (by decide) hs hpl
def gXi (nx i n : Nat) : Option Bool := if n < nx then some (n == i) else none
def gXa (nx n : Nat) : Option Bool := if n < nx then some true else none
end EX
end DL
set_option Elab.async false
set_option linter.all false
set_option maxRecDepth 100000
set_option maxHeartbeats 4000000
namespace DL
open PySem PySem.Spec PyProof.Rows L2
namespace EX
open PySem.W PySem.Calls
abbrev fnC (name qual : Str) (params : Arguments) (body : List Stmt) (scope : Scope) (cc : Addr) (dV kV doc pm : Value) (an : Option Addr) (cdv ct : Value) : FuncData :=
  { name, qualname := qual, params, body := .stmts body, scope, globals := mainGlobals, closure := [("__class__", cc)], defaults := dV, kwdefaults := kV, doc, pyModule := pm, annotations := an, code := cdv, closureTuple := ct, builtins := builtinsNs }
def xBody (p0 p1 p2 p3 p4 p5 p6 p7 p8 p9 : Pos) : List Stmt := [.Expr (.Call (.Attribute (.Call (.Name "super" p0) [] [] p1) "__init__" p2) [.Name "value" p3] [] p4) p5, .Assign [.Attribute (.Name "self" p6) "value" p7] (.Name "value" p8) p9]
def plX : Sem Bool := do return (← (pure (some false) : Sem (Option Bool))).getD true
theorem binds_x {K : PySem.W.Frag} {fd : FuncData} {T : Addr} {oc : Value} {od : Option Addr} {n : Nat} {sl : Array (Option Value)} {args : Args} {ps : List (Str × Value)} (lT : K.lookup T = some ⟨oc, od, .seq #[.none] n, sl⟩)
    (h : ∃ k, bindArgs fd args = seqItems? (.ref T) >>= k ∧ k (some #[.none]) = pure ps) (s : Shared) (X : K.In s.heap) : BindsTo s fd args ps := by
  obtain ⟨k, e1, e2⟩ := h
  refine BindsTo.of_looks fun M => ?_
  rw [e1]
  exact looks_items X lT rfl (.of_pure e2)
theorem xc_mk {prog : Program} {K : PySem.W.Frag} {C f cda cc T : Addr} {qual : Str} {params : Arguments} {scope : Scope} {p0 p1 p2 p3 p4 p5 p6 p7 p8 p9 : Pos} {kV dc pm ct oc : Value} {an od : Option Addr} {sl : Array (Option Value)} {nm q : Str} {N : Addr} {bs bm : List Value} {sn : List Str} {sub : List Value} {ab : Bool} {col : Option Bool} {dd : Option Addr} {k0 k1 k2 k3 k5 : Option Value}
    {ccl : Value} {cdd : Option Addr} {vs : Array Value} {ccs : Array (Option Value)} {tf : Tok} {cl : Value} {cld : Option Addr} {csl : Array (Option Value)} {toc : Value} {tod : Option Addr} {tn : Nat} {tsl : Array (Option Value)}
    (hC : K.lookup C = some (excClassObj nm q C N bs bm true sn sub ab col dd k0 k1 k2 k3 k5 "ValueError.__new__")) (hbm : PySem.HandSPX.refsVE bm = true)
    (sa : findIn K (.ref C) "__setattr__" = some (some (.builtin "object.__setattr__"))) (exC : subIn K (.ref C) (.type "BaseException") = some true) (tyC : typeIn K (.ref C) = some (.type "type")) (kC : keepIn K (.ref C) = true)
    (hg : findIn K (.ref C) "__getattribute__" = some (some (.builtin "BaseException.__getattribute__"))) (hk : findIn K (.ref C) "__getattr__" = some none) (hd : hasDictIn K C = true) (ha : findIn K (.ref C) "__class__" = some (some (.builtin "object.__class__")))
    (hn : specialIn K (.builtin "object.__class__") "__get__" = some (some (.builtin "getset_descriptor.__get__"))) (ht : takesIn K (.builtin "object.__class__") = some true) (hm : mroIn K C (.type "object") = some true) (nv : findIn K (.ref C) "value" = some none)
    (iC : findIn K (.ref C) "__init__" = some (some (.ref f))) (tI : typeIn K (.ref f) = some (.type "function"))
    (hf : K.lookup f = some ⟨oc, od, .func (fnC "__init__" qual params (xBody p0 p1 p2 p3 p4 p5 p6 p7 p8 p9) scope cc (.ref T) kV dc pm an (.ref cda) ct), sl⟩)
    (lT : K.lookup T = some ⟨toc, tod, .seq #[.none] tn, tsl⟩)
    (code : codeIn K (.ref cda) qual = true) (hcda : K.lookup cda = some ⟨ccl, cdd, .fields vs, ccs⟩) (hvs : vs[2]? = some (.str prog.main.file tf)) (hcc : K.lookup cc = some ⟨cl, cld, .cell (some (.ref C)), csl⟩)
    (top : (prog.main.scope.names.lookup ("super" : Str)).isSome = false) (sup : nsIn K mainGlobals "super" = some none) (tp : nsIn K cStatics "thirdparty.any" = some none) (vi : ks_superIn K C C "__init__" = some (some (.builtin "ValueError.__init__"))) (ve : subIn K (.ref C) (.type "ValueError") = some true)
    (self : mroIn K C (.ref C) = some true)
    (par : ∃ ar : Arg, (params.posonlyargs ++ params.args).head? = some ar ∧ ar.arg = "self") (kd : scope.kind = .function) (co : scope.isCoroutine = false) (gen : scope.isGenerator = false) (ncell : ∀ x ∈ scope.names, x.2 ≠ .cell) (nS : scope.names.lookup ("super" : Str) = some .globalImplicit) (nK : scope.names.lookup ("__class__" : Str) = some .free)
    (nV : scope.names.lookup ("value" : Str) = some .local) (nF : scope.names.lookup ("self" : Str) = some .local)
    (ev : ∀ env : Env, eval (.Call (.Attribute (.Call (.Name "super" p0) [] [] p1) "__init__" p2) [.Name "value" p3] [] p4) env = (do
      let ov ← attributeBase (.Call (.Name "super" p0) [] [] p1) "__init__" env (eval (.Call (.Name "super" p0) [] [] p1) env)
      standAt p2.atName
      let (f, first) ← holding [ov] (getMethod ov "__init__" plX)
      callWith p4 f first (backTo p4 (starEach [.Name "value" p3] env)) []))
    (sw : ∀ env : Env, swapsWith (.Name "value" p8) (some (.Attribute (.Name "self" p6) "value" p7)) p9.line env = pure false)
    (b1 : ∀ fd : FuncData, fd = fnC "__init__" qual params (xBody p0 p1 p2 p3 p4 p5 p6 p7 p8 p9) scope cc (.ref T) kV dc pm an (.ref cda) ct → ∀ u v : Value, ∃ k, bindArgs fd ⟨[u, v], []⟩ = seqItems? (.ref T) >>= k ∧ k (some #[.none]) = pure [(("self" : Str), u), (("value" : Str), v)])
    (b2 : ∀ fd : FuncData, fd = fnC "__init__" qual params (xBody p0 p1 p2 p3 p4 p5 p6 p7 p8 p9) scope cc (.ref T) kV dc pm an (.ref cda) ct → ∀ u : Value, ∃ k, bindArgs fd ⟨[u], []⟩ = seqItems? (.ref T) >>= k ∧ k (some #[.none]) = pure [(("self" : Str), u), (("value" : Str), Value.none)])
    (b3 : ∀ fd : FuncData, fd = fnC "__init__" qual params (xBody p0 p1 p2 p3 p4 p5 p6 p7 p8 p9) scope cc (.ref T) kV dc pm an (.ref cda) ct → ∀ u v : Value, ∃ k, bindArgs fd ⟨[u], [("value", v)]⟩ = seqItems? (.ref T) >>= k ∧ k (some #[.none]) = pure [(("self" : Str), u), (("value" : Str), v)]) : XcOk prog K C := by
  refine ⟨⟨⟨nm, q, N, bs, bm, sn, sub, ab, col, dd, k0, k1, k2, k3, k5, hC, hbm⟩, sa, exC, tyC, kC⟩, ⟨hg, hk, exC, hd, ha, hn, ht, hm⟩, ⟨hg, hk, exC, hd⟩, nv, ⟨f, cda, cc, _, p0, p1, p2, p3, p4, p5, p6, p7, p8, p9, scope, qual, plX, ⟨iC, tI, ⟨_, _, _, hf⟩, fun L => rfl, rfl, rfl, par, code, ⟨rfl, rfl⟩, ⟨_, _, _, _, _, hcda, hvs⟩, ⟨_, _, _, hcc⟩, kd, co, gen, ncell, nS, nK, nV, nF, top, sup, tp, vi, ve, self, nv, ev, sw⟩, fun s u v X => binds_x lT (b1 _ rfl u v) s X, fun s u X => binds_x lT (b2 _ rfl u) s X, fun s u v X => binds_x lT (b3 _ rfl u v) s X⟩⟩
def tg0Of (S : List Ob) (d : D) : Option Tg := match tgOf S d with
  | some (.b n) => some (.b n)
  | _ => none
theorem tg0_of {S : List Ob} {d : D} {t : Tg} (h : tg0Of S d = some t) : ∃ n, t = .b n ∧ tgOf S d = some (.b n) := by
  unfold tg0Of at h
  split at h
  · rename_i n e
    cases h
    exact ⟨n, rfl, e⟩
  · cases h
theorem tg0_ok {K : PySem.W.Frag} {C : Ctx} {Λ : Lk} {F : Hp} {π : List Addr} {S : List Ob} {H : Hp} {d : D} {v : V} {n : String} (w : Wd K C Λ F π S H) (r : Rep K C F π d v) (h : tgOf S d = some (.b n)) : TyX K H v (.type n) := by
  cases d with
  | non =>
    cases h
    rw [show v = .non from r]
    exact .base .non
  | bl b =>
    cases h
    rw [show v = .bl b from r]
    exact .base (.bl b)
  | int i =>
    cases h
    rw [show v = .int i from r]
    exact .base (.int i)
  | str i =>
    cases h
    rw [show v = .str i from r]
    exact .base (.str i)
  | lst xs =>
    cases h
    obtain ⟨a, vs, rfl, q, _⟩ := r
    exact .base (.lst (w.ext _ _ q))
  | tup xs =>
    cases h
    obtain ⟨a, vs, rfl, q, _⟩ := r
    exact .base (.tup (w.ext _ _ q))
  | dK xs =>
    cases h
    obtain ⟨a, vs, o, rfl, q, _⟩ := r
    exact .fDict (w.ext _ _ q)
  | ptr k =>
    obtain ⟨a, rfl, hp⟩ := r
    obtain ⟨ob, o1, o2⟩ := w.obj hp
    simp only [tgOf, o1] at h
    cases ob with
    | lst xs =>
      cases h
      obtain ⟨vs, q, _⟩ := o2
      exact .base (.lst q)
    | dK xs =>
      cases h
      obtain ⟨vs, q, _⟩ := o2
      exact .base (.dK q)
    | dT xs =>
      cases h
      obtain ⟨vs, q, _⟩ := o2
      exact .base (.dT q)
    | _ => cases h
  | _ => cases h
def dIsi0 (g : Tg → Option Bool) (f : DF D) : DF D := fun E S => (f E S).bind fun p => ((tg0Of p.2 p.1).bind g).map fun b => (.bl b, p.2)
section
variable {X : Cx} {C : Ctx} {a : Expr} {f : DF D} {y : Str} {p1 p2 pos : Pos}
theorem de_isB0 (n : String) (B : Bt X.mg) (ha : DE X C a f) (hm : X.mg y = none) (hn : n ∈ ["int", "str", "list", "tuple", "bool"] := by decide) (hv : bootBuiltins y = some (.type n) := by decide +kernel) (hy : Gl X y := by rfl) (hnn : y ≠ "__name__" := by decide) (hd : (y == ("__debug__" : Str)) = false := by decide)
    (hs : starEach [a, .Name y p2] X.env = (false, eval a X.env) :: starEach [.Name y p2] X.env := by rfl) (hs2 : starEach [(.Name y p2 : Expr)] X.env = (false, eval (.Name y p2) X.env) :: starEach [] X.env := by rfl) (hgl : Gl X "isinstance" := by rfl) (hpl : (backTo pos (starEach [(.Name y p2 : Expr)] X.env)).any (·.1) = false := by rfl) :
    DE X C (.Call (.Name "isinstance" p1) [a, .Name y p2] [] pos) (dIsi0 (isiB n) f) := by
  obtain ⟨t, a1, a2⟩ := ha
  refine ⟨_, pe_callB call_isi hgl B.isinstance (by decide +kernel) (pa_cons a1 (pa_cons (pe_bltn (v := .ty n) hy hm hv rfl hnn hd) pa_nil hs2) hs) (by decide) (by decide) hs hpl, fun E S d S' q Λ F π H σ w Q p => ?_⟩
  obtain ⟨⟨x, S1⟩, q1, q⟩ := Option.bind_eq_some_iff.mp q
  obtain ⟨bb, q2, q⟩ := Option.map_eq_some_iff.mp q
  obtain ⟨tg, q3, q4⟩ := Option.bind_eq_some_iff.mp q2
  cases q
  obtain ⟨m, rfl, q5⟩ := tg0_of q3
  refine a2 E S x _ q1 Λ F π H σ w _ fun v F1 π1 H1 e1 w1 r1 => ?_
  refine ⟨v, .ty n, .type m, .type n, bb, rfl, .ty n, tg0_ok w1 r1 q5, ?_, (p.step e1).val w1 rfl⟩
  simp only [isiB] at q4
  split at q4
  · rename_i hm
    have all : ∀ m ∈ ["NoneType", "bool", "int", "str", "list", "tuple", "dict"], ∀ n ∈ ["int", "str", "list", "tuple", "bool"], kitB m n = some (m == n || (m == "bool" && n == "int")) := by decide +kernel
    cases q4
    exact kit_ty (all m hm n hn)
  · cases q4
end
end EX
end DL
set_option Elab.async false
set_option linter.all false
set_option maxRecDepth 100000
set_option maxHeartbeats 2000000
namespace DL
open PySem PySem.Spec PyProof.Rows L2
section
variable {X : Cx} {C : Ctx} {a b : Expr} {fa fb : DF D} {pos : Pos}
def rRepT : R2 := fun x y H Q => ∃ z k, x = .str z ∧ y = .int k ∧ 0 ≤ k ∧ k ≤ 1000 ∧ 0 < z.length ∧ z.length * k.toNat ≤ sizeLine ∧ Q (.str (repS z k.toNat)) H
theorem repS_one (z : Str) : repS z 1 = z := by
  unfold repS
  simp
theorem op_repT : OpR X (binaryOp .Mult) rRepT := by
  intro pins s σ H x y v u Q I rx ry h
  obtain ⟨z, k, rfl, rfl, k0, k3, hz0, hz, q⟩ := h
  by_cases k2 : 2 ≤ k
  · exact op_repS pins s σ H _ _ v u Q I rx ry ⟨z, k, rfl, rfl, k2, k3, hz0, hz, q⟩
  obtain ⟨t, rfl⟩ := rx
  obtain ⟨t', rfl⟩ := ry
  have hk : k = 0 ∨ k = 1 := by omega
  rcases hk with rfl | rfl
  · refine P.mul_str_none (by decide) (by decide) ?_
    exact ⟨.str _, H, I.tok _, ⟨_, rfl⟩, q⟩
  · have q' : Q (.str z) H := by
      have e : repS z (1 : Int).toNat = z := repS_one z
      rw [e] at q
      exact q
    have e1 : ((1 : Int) == 1 || z.length == 0) = true := rfl
    refine P.mul_str (by decide) (fun _ h => absurd (e1.symm.trans h) (by decide)) (fun _ h => absurd (e1.symm.trans h) (by decide)) ?_
    rw [if_neg (by decide), if_pos e1]
    exact ⟨.str z, H, I, ⟨t, rfl⟩, q'⟩
def opMulT (S : List Ob) : D → D → Option D
  | .str z, .int k => if 0 ≤ k ∧ k ≤ 1000 ∧ 0 < z.length ∧ z.length * k.toNat ≤ sizeLine then some (.str (repS z k.toNat)) else none
  | _, _ => none
theorem o2_mulT {K : PySem.W.Frag} : Op2 K C (fun x y H Q => rRepT x y H Q) opMulT := by
  intro Λ F π S H dx dy x y d h w rx ry Q p
  unfold opMulT at h
  split at h
  · split at h
    · rename_i hz
      cases h
      exact ⟨_, _, rx, ry, hz.1, hz.2.1, hz.2.2.1, hz.2.2.2, p.val w rfl⟩
    · cases h
  · cases h
theorem de_mulT (ha : DE X C a fa) (hb : DE X C b fb) : DE X C (.BinOp a .Mult b pos) (dBin opMulT fa fb) := de_op op_repT o2_mulT ha hb
end
end DL
set_option Elab.async false
set_option linter.all false
set_option maxRecDepth 100000
set_option maxHeartbeats 2000000
namespace DL
open PySem PySem.Spec PyProof.Rows L2
theorem lcF_pure {tg : DFG} {t : DF Bool} {el : DF D} {s : Src} {E : SE} {S : List Ob} {xs : List D} (b : D → Bool) (v : D → D) (E1 : D → SE) (hS : ∀ i, s.at S i = some xs[i]?) (hg : ∀ d ∈ xs, tg d E S = some (E1 d, S)) (ht : ∀ d ∈ xs, t (E1 d) S = some (b d, S))
    (he : ∀ d ∈ xs, b d = true → el (E1 d) S = some (v d, S)) : ∀ (n i : Nat) (acc : List D), i + n = xs.length → acc.length + n ≤ sizeLine → lcF tg t el s E n i acc S = some (acc ++ ((xs.drop i).filter b).map v, S)
  | 0, i, acc, hi, ha => by
    have e : xs[i]? = none := List.getElem?_eq_none (by omega)
    simp only [lcF, hS, e]
    rw [List.drop_eq_nil_of_le (by omega)]
    simp
  | n + 1, i, acc, hi, ha => by
    have hlt : i < xs.length := by omega
    have e : xs[i]? = some xs[i] := List.getElem?_eq_getElem hlt
    have hm : xs[i] ∈ xs := List.getElem_mem hlt
    simp only [lcF, hS, e, hg _ hm, Option.bind_some, ht _ hm]
    rw [List.drop_eq_getElem_cons hlt, List.filter_cons]
    cases hb : b xs[i] with
    | false =>
      simp only [Bool.false_eq_true, if_false]
      exact lcF_pure b v E1 hS hg ht he n (i + 1) acc (by omega) (by omega)
    | true =>
      simp only [if_true, he _ hm hb, Option.bind_some]
      rw [if_pos (by omega), lcF_pure b v E1 hS hg ht he n (i + 1) (acc ++ [v xs[i]]) (by omega) (by rw [List.length_append, List.length_singleton]; omega)]
      simp
theorem dLc_pure {vs : List Nat} {fi : DF Src} {tg : DFG} {t : DF Bool} {el : DF D} {s : Src} {E : SE} {S : List Ob} {xs : List D} (b : D → Bool) (v : D → D) (E1 : D → SE) (hi : fi E S = some (s, S)) (hS : ∀ i, s.at S i = some xs[i]?) (hl : s.len S = xs.length) (hz : xs.length ≤ sizeLine)
    (hg : ∀ d ∈ xs, tg d (wipeE E vs) S = some (E1 d, S)) (ht : ∀ d ∈ xs, t (E1 d) S = some (b d, S)) (he : ∀ d ∈ xs, b d = true → el (E1 d) S = some (v d, S)) : dLc vs fi tg t el E S = some ((xs.filter b).map v, S) := by
  unfold dLc
  rw [hi]
  simp only [Option.bind_some]
  rw [hl, lcF_pure b v E1 hS hg ht he xs.length 0 [] (by omega) (by simpa using hz)]
  simp
theorem loopF_inv {tg : DFG} {b : DFS} {s : Src} {xs : List D} (I : Nat → SE → List Ob → Prop) (hS : ∀ i E S, I i E S → s.at S i = some xs[i]?)
    (step : ∀ i d E S, I i E S → xs[i]? = some d → ∃ E1 S1 E2 S2, tg d E S = some (E1, S1) ∧ (b E1 S1 = some (.nx E2, S2) ∨ b E1 S1 = some (.ct E2, S2)) ∧ I (i + 1) E2 S2) :
    ∀ (n i : Nat) (E : SE) (S : List Ob), i + n = xs.length → I i E S → ∃ E' S', loopF tg b s n i E S = some (.nx E', S') ∧ I xs.length E' S'
  | 0, i, E, S, hi, h => by
    have e : xs[i]? = none := List.getElem?_eq_none (by omega)
    refine ⟨E, S, by simp only [loopF, hS i E S h, e], ?_⟩
    rw [show xs.length = i by omega]
    exact h
  | n + 1, i, E, S, hi, h => by
    have hlt : i < xs.length := by omega
    have e : xs[i]? = some xs[i] := List.getElem?_eq_getElem hlt
    obtain ⟨E1, S1, E2, S2, h1, h2, h3⟩ := step i _ E S h e
    obtain ⟨E', S', h4, h5⟩ := loopF_inv I hS step n (i + 1) E2 S2 (by omega) h3
    refine ⟨E', S', ?_, h5⟩
    rcases h2 with h2 | h2
    · simp only [loopF, hS i E S h, e, h1, Option.bind_some, h2, h4]
    · simp only [loopF, hS i E S h, e, h1, Option.bind_some, h2, h4]
theorem sFor_inv {fi : DF Src} {tg : DFG} {b : DFS} {s : Src} {xs : List D} (I : Nat → SE → List Ob → Prop) {E : SE} {S S1 : List Ob} (hi : fi E S = some (s, S1)) (hl : s.len S1 = xs.length) (hS : ∀ i E S, I i E S → s.at S i = some xs[i]?) (h0 : I 0 E S1)
    (step : ∀ i d E S, I i E S → xs[i]? = some d → ∃ E1 S1 E2 S2, tg d E S = some (E1, S1) ∧ (b E1 S1 = some (.nx E2, S2) ∨ b E1 S1 = some (.ct E2, S2)) ∧ I (i + 1) E2 S2) : ∃ E' S', sFor fi tg b E S = some (.nx E', S') ∧ I xs.length E' S' := by
  obtain ⟨E', S', h1, h2⟩ := loopF_inv I hS step xs.length 0 E S1 (by omega) h0
  refine ⟨E', S', ?_, h2⟩
  unfold sFor
  rw [hi]
  simp only [Option.bind_some, hl, h1]
theorem fix_at {xs : List D} {S : List Ob} (i : Nat) : (Src.fix xs).at S i = some xs[i]? := rfl
theorem live_at {xs : List D} {S : List Ob} {d : D} (h : lstOf S d = some xs) (i : Nat) : (Src.live d).at S i = some xs[i]? := by
  show (lstOf S d).map _ = _
  rw [h]
  rfl
theorem live_len {xs : List D} {S : List Ob} {d : D} (h : lstOf S d = some xs) : (Src.live d).len S = xs.length := by
  show ((lstOf S d).map _).getD 0 = _
  rw [h]
  rfl
def ws (b : List Bool) : Str := ⟨(b.map fun x => if x then 49 else 48).toArray⟩
abbrev wd (b : List Bool) : D := .str (ws b)
theorem ws_len (b : List Bool) : (ws b).length = b.length := by simp [ws, Str.length]
theorem ws_inj {a b : List Bool} (h : ws a = ws b) : a = b := by
  have h1 := congrArg (fun x : Str => x.cps.toList) h
  simp only [ws] at h1
  have inj : Function.Injective (fun x : Bool => if x then 49 else 48) := by
    intro x y h
    cases x <;> cases y <;> simp_all
  exact (List.map_inj_right fun x y e => inj e).mp h1
theorem ws_app (a b : List Bool) : ws a ++ ws b = ws (a ++ b) := by
  show (⟨_⟩ : Str) = _
  simp [ws]
theorem s_zero : ("0" : Str) = ws [false] := by decide +kernel
theorem s_one : ("1" : Str) = ws [true] := by decide +kernel
theorem s_nil : ("" : Str) = ws [] := by decide +kernel
theorem s_01 : signsOf ("01" : Str) = [wd [false], wd [true]] := by rfl
def pu (a b c : Int) : Ob := .lst [.int a, .int b, .int c]
structure Pu (S : List Ob) (p : Nat) (n : Nat) : Prop where
  ex : ∃ a b c, S[p]? = some (pu a b c) ∧ 0 ≤ a ∧ 0 ≤ b ∧ b < 2147483648 ∧ 0 ≤ c ∧ c ≤ n
structure But (p : Nat) (S S' : List Ob) : Prop where
  len : S'.length = S.length
  ne : ∀ k, k ≠ p → S'[k]? = S[k]?
theorem But.refl (p : Nat) (S : List Ob) : But p S S := ⟨rfl, fun _ _ => rfl⟩
theorem But.trans {p : Nat} {S S1 S2 : List Ob} (a : But p S S1) (b : But p S1 S2) : But p S S2 := ⟨b.len.trans a.len, fun k h => (b.ne k h).trans (a.ne k h)⟩
theorem But.set (p : Nat) (S : List Ob) (o : Ob) : But p S (S.set p o) := ⟨List.length_set, fun k h => List.getElem?_set_ne fun e => h e.symm⟩
end DL
set_option Elab.async false
set_option linter.all false
set_option maxRecDepth 100000
set_option maxHeartbeats 2000000
namespace DL
open PySem PySem.Spec PyProof.Rows L2
section
variable {α : Type} {E E1 E2 : SE} {S S1 S2 S3 : List Ob} {f fa fb fo fi fk fx : DF D} {c c1 c2 : DF Bool} {x y z d : D} {xs ys : List D} {b b1 b2 : Bool} {g : List Ob → D → D → Option D} {fs : DF (List D)} {i j k n : Nat} {p q : DFS} {o : Out} {r : Out × List Ob} {rd : D × List Ob} {rb : Bool × List Ob} {rl : List D × List Ob}
theorem dVar_ev (h : E[i]? = some (some d)) : dVar i E S = some (d, S) := by
  unfold dVar
  rw [h]
theorem dC_ev : dC d E S = some (d, S) := rfl
theorem dBin_ev (ha : fa E S = some (x, S1)) (hb : fb E S1 = some (y, S2)) (hg : g S2 x y = some d) : dBin g fa fb E S = some (d, S2) := by
  unfold dBin
  rw [ha, Option.bind_some, hb, Option.bind_some, hg]
  rfl
theorem dTest_ev (h : f E S = some (.bl b, S1)) : dTest f E S = some (b, S1) := by
  unfold dTest
  rw [h]
  rfl
theorem dNot_ev (h : c E S = some (b, S1)) : dNot c E S = some (!b, S1) := by
  unfold dNot
  rw [h]
  rfl
def ifK {β : Type} (b : Bool) (p q : SE → List Ob → Option β) (E : SE) (S : List Ob) : Option β := if b = true then p E S else q E S
theorem ifK_t {β : Type} {p q : SE → List Ob → Option β} {r : Option β} (h : p E S = r) : ifK true p q E S = r := h
theorem ifK_f {β : Type} {p q : SE → List Ob → Option β} {r : Option β} (h : q E S = r) : ifK false p q E S = r := h
theorem ifK_dt {β : Type} {p q : SE → List Ob → Option β} {r : Option β} {P : Prop} [Decidable P] (hP : P) (h : p E S = r) : ifK (decide P) p q E S = r := by
  unfold ifK
  rw [if_pos (decide_eq_true hP)]
  exact h
theorem ifK_df {β : Type} {p q : SE → List Ob → Option β} {r : Option β} {P : Prop} [Decidable P] (hP : ¬ P) (h : q E S = r) : ifK (decide P) p q E S = r := by
  unfold ifK
  rw [if_neg (by rw [decide_eq_false hP]; exact Bool.false_ne_true)]
  exact h
theorem sIf_ev {r : Option (Out × List Ob)} (hc : c E S = some (b, S1)) (hk : ifK b p q E S1 = r) : sIf c p q E S = r := by
  unfold sIf
  rw [hc]
  exact hk
theorem dIf_ev {r : Option (D × List Ob)} (hc : c E S = some (b, S1)) (hk : ifK b fa fb E S1 = r) : dIf c fa fb E S = r := by
  unfold dIf
  rw [hc]
  exact hk
theorem dAnd_ev {r : Option (Bool × List Ob)} (hc : c1 E S = some (b, S1)) (hk : ifK b c2 (fun _ S => some (false, S)) E S1 = r) : dAnd c1 c2 E S = r := by
  unfold dAnd
  rw [hc]
  exact hk
theorem dOr_ev {r : Option (Bool × List Ob)} (hc : c1 E S = some (b, S1)) (hk : ifK b (fun _ S => some (true, S)) c2 E S1 = r) : dOr c1 c2 E S = r := by
  unfold dOr
  rw [hc]
  exact hk
theorem dOr_pure (h1 : c1 E S = some (b1, S)) (h2 : c2 E S = some (b2, S)) : dOr c1 c2 E S = some (b1 || b2, S) := by
  unfold dOr
  rw [h1, Option.bind_some, h2]
  cases b1 <;> rfl
theorem dAndV_ev {r : Option (D × List Ob)} (hc : fa E S = some (.bl b, S1)) (hk : ifK b fb (fun _ S => some (.bl false, S)) E S1 = r) : dAndV fa fb E S = r := by
  unfold dAndV
  rw [hc]
  cases b <;> exact hk
theorem dOrV_ev {r : Option (D × List Ob)} (hc : fa E S = some (.bl b, S1)) (hk : ifK b (fun _ S => some (.bl true, S)) fb E S1 = r) : dOrV fa fb E S = r := by
  unfold dOrV
  rw [hc]
  cases b <;> exact hk
theorem dNil_ev : dNil E S = some ([], S) := rfl
theorem dCons_ev (h1 : f E S = some (x, S1)) (h2 : fs E S1 = some (xs, S2)) : dCons f fs E S = some (x :: xs, S2) := by
  unfold dCons
  rw [h1, Option.bind_some, h2]
  rfl
theorem few_ev (h : fs E S = some (xs, S1)) (hz : xs.length ≤ sizeLine) : few fs E S = some (xs, S1) := by
  unfold few
  rw [h, Option.bind_some, if_pos hz]
theorem dTree_ev (h : fs E S = some (xs, S1)) : dTree fs E S = some (.lst xs, S1) := by
  unfold dTree
  rw [h]
  rfl
theorem dNew_ev (h : fs E S = some (xs, S1)) : dNew fs E S = some (.ptr S1.length, S1 ++ [.lst xs]) := by
  unfold dNew
  rw [h]
  rfl
theorem dTup_ev (h : fs E S = some (xs, S1)) (hz : xs.length ≤ sizeLine) : dTup fs E S = some (.tup xs, S1) := by
  unfold dTup
  rw [few_ev h hz]
  rfl
theorem dCB_ev {g : List Ob → List D → Option α} {a : α} (h : fs E S = some (xs, S1)) (hg : g S1 xs = some a) : dCB g fs E S = some (a, S1) := by
  unfold dCB
  rw [h, Option.bind_some, hg]
  rfl
theorem dCall_ev {sem : List D → List Ob → Option (D × List Ob)} {r : Option (D × List Ob)} (h : fs E S = some (xs, S1)) (hl : xs.length = n) (hs : sem xs S1 = r) : dCall n sem fs E S = r := by
  unfold dCall
  rw [h, Option.bind_some, if_pos hl]
  exact hs
theorem dIsi_ev {g : Tg → Option Bool} {t : Tg} (h : f E S = some (d, S1)) (ht : tgOf S1 d = some t) (hg : g t = some b) : dIsi g f E S = some (.bl b, S1) := by
  unfold dIsi
  rw [h, Option.bind_some, ht, Option.bind_some, hg]
  rfl
theorem dFld_ev {m : Str} (h : f E S = some (x, S1)) (hg : fldOf S1 x m = some d) : dFld m f E S = some (d, S1) := by
  unfold dFld
  rw [h, Option.bind_some, hg]
  rfl
theorem dPart_ev {m : Int} (h : f E S = some (.int m, S1)) : dPart f E S = some (some m, S1) := by
  unfold dPart
  rw [h]
  rfl
theorem dNoPart_ev : dNoPart E S = some (none, S) := rfl
theorem sAsg_ev (h : f E S = some (d, S1)) : sAsg i f E S = some (.nx (E.set i (some d)), S1) := by
  unfold sAsg
  rw [h]
  rfl
theorem sRet_ev (h : f E S = some (d, S1)) : sRet f E S = some (.rt d, S1) := by
  unfold sRet
  rw [h]
  rfl
theorem sDrop_ev (h : f E S = some (d, S1)) : sDrop f E S = some (.nx E, S1) := by
  unfold sDrop
  rw [h]
  rfl
theorem sNil_ev : sNil E S = some (.nx E, S) := rfl
theorem sAsgG_ev {g : DFG} (h : f E S = some (d, S1)) (hg : g d E S1 = some (E2, S2)) : sAsgG f g E S = some (.nx E2, S2) := by
  unfold sAsgG
  rw [h, Option.bind_some, hg]
  rfl
def sqK (q : DFS) : Out × List Ob → Option (Out × List Ob)
  | (.nx E', S) => q E' S
  | r => some r
theorem sSeq_ev {s : Option (Out × List Ob)} (h : p E S = some r) (hk : sqK q r = s) : sSeq p q E S = s := by
  unfold sSeq
  rw [h, Option.bind_some, ← hk]
  obtain ⟨o, S'⟩ := r
  cases o <;> rfl
theorem sqK_nx {s : Option (Out × List Ob)} (h : q E S = s) : sqK q (.nx E, S) = s := h
theorem sqK_rt : sqK q (.rt d, S) = some (.rt d, S) := rfl
theorem gN_ev : gN i d E S = some (E.set i (some d), S) := rfl
theorem gSetL_ev {m : Int} (ho : fo E S = some (.ptr k, S1)) (hi : fi E S1 = some (.int m, S2)) (hx : S2[k]? = some (.lst xs)) (hj : ixN xs.length m = some j) : gSetL fo fi d E S = some (E, S2.set k (.lst (xs.set j d))) := by
  unfold gSetL
  rw [ho, Option.bind_some, hi, Option.bind_some]
  simp only [hx, hj]
  rfl
theorem runB_rt {m : Nat} {ds : List D} (h : p (ds.map some ++ List.replicate (m - ds.length) none) S = some (.rt d, S1)) : runB m p ds S = some (d, S1) := by
  unfold runB
  rw [h]
  rfl
theorem runB_nx {m : Nat} {ds : List D} (h : p (ds.map some ++ List.replicate (m - ds.length) none) S = some (.nx E, S1)) : runB m p ds S = some (.non, S1) := by
  unfold runB
  rw [h]
  rfl
theorem opMod_ev {a m : Int} (h : 0 < m) : opMod S (.int a) (.int m) = some (.int (a % m)) := if_pos h
theorem opDiv_ev {a m : Int} (h : 0 < m ∧ m < 1073741824) : opDiv S (.int a) (.int m) = some (.int (a / m)) := if_pos h
theorem opMul_ev {a m : Int} (h : (-(2 ^ 64) < a ∧ a < 2 ^ 64) ∨ (-(2 ^ 64) < m ∧ m < 2 ^ 64)) : opMul S (.int a) (.int m) = some (.int (a * m)) := if_pos h
theorem atD_ptr {m : Int} (hS : S[k]? = some (.lst xs)) (hi : atI xs m = some d) : atD S (.ptr k) (.int m) = some d := by
  have : seqOf S (.ptr k) = some xs := by simp only [seqOf, tupOf, lstOf, hS]
  simp only [atD, this, hi]
theorem atD_lst {m : Int} (hi : atI xs m = some d) : atD S (.lst xs) (.int m) = some d := by
  have : seqOf S (.lst xs) = some xs := rfl
  simp only [atD, this, hi]
theorem get_set {o : Ob} (h : k < S.length) : (S.set k o)[k]? = some o := List.getElem?_set_self h
end
def fScr (ns : List Int) (i : Nat) (fb : DF D) : DF D := fun E S => match E[i]? with
  | some (some .scr) => dScr ns fb E S
  | _ => none
def fScrLen (ns : List Int) (i : Nat) : DF D := fun E S => match E[i]? with
  | some (some .scr) => some (.int ns.length, S)
  | _ => none
theorem fScr_ev {ns : List Int} {i : Nat} {fb : DF D} {E : SE} {S S1 : List Ob} {j v : Int} (hE : E[i]? = some (some .scr)) (hb : fb E S = some (.int j, S1)) (hv : atI ns j = some v) : fScr ns i fb E S = some (.int v, S1) := by
  unfold fScr
  rw [hE]
  simp only
  unfold dScr
  rw [hb, Option.bind_some]
  simp only [hv]
  rfl
theorem lenOk {α : Type} {xs : List α} (h : xs.length ≤ 1000) : xs.length ≤ sizeLine := Nat.le_trans h (by decide)
end DL
local macro_rules | `(tactic| walk_at "w0") => `(tactic| first
  | exact DL.dVar_ev rfl | exact DL.dC_ev | exact DL.dNil_ev | exact DL.dNoPart_ev | exact DL.sNil_ev | exact DL.gN_ev | exact DL.sqK_rt
  | apply DL.dBin_ev | apply DL.dTest_ev | apply DL.dNot_ev | apply DL.sIf_ev | apply DL.dIf_ev | apply DL.dAnd_ev | apply DL.dOr_ev | apply DL.dAndV_ev | apply DL.dOrV_ev | apply DL.dCons_ev | apply DL.few_ev | apply DL.dTree_ev | apply DL.dNew_ev | apply DL.dTup_ev | apply DL.dCB_ev | apply DL.dIsi_ev | apply DL.dFld_ev | apply DL.dPart_ev | apply DL.sAsg_ev | apply DL.sRet_ev | apply DL.sDrop_ev | apply DL.sAsgG_ev | apply DL.sSeq_ev | apply DL.sqK_nx | apply DL.gSetL_ev | apply DL.ifK_t | apply DL.ifK_f
  | apply DL.dCall_ev | apply DL.fScr_ev | exact DL.lenOk (Nat.le_of_ble_eq_true rfl)
  | refine DL.ifK_dt (by first | assumption | decide | omega) ?_ | refine DL.ifK_df (by first | assumption | decide | omega) ?_
  | exact DL.opMod_ev (by first | assumption | decide | omega) | exact DL.opMul_ev (.inl (by omega)) | exact DL.opMul_ev (.inr (by omega)) | exact DL.opDiv_ev (by first | assumption | decide | omega) | (refine (@id.{0} _ ?_); assumption) | (with_reducible rfl) | rfl)
local macro_rules | `(tactic| walk_at "r0") => `(tactic| repeat' (walk_at "w0"))
set_option Elab.async false
set_option linter.all false
set_option maxRecDepth 100000
set_option maxHeartbeats 4000000
namespace DL
open PySem PySem.Spec PyProof.Rows L2
section
variable {C : Ctx}
def g__law_draw : DFS := (sSeq (sIf (dTest (dBin opGt (dBin atD (dVar 0) (dC (.int 0))) (dC (.int 0)))) (sSeq (sAsg 2 (dBin opMod (dCB fInt (dCons (dBin atD (dVar 0) (dC (.int 0))) dNil)) (dVar 1)))
    (sSeq (sAsgG (dBin opDiv (dBin atD (dVar 0) (dC (.int 0))) (dVar 1)) (gSetL (dVar 0) (dC (.int 0))))
    (sRet (dVar 2)))) sNil)
    (sSeq (sAsg 3 (dBin opAdd (dBin atD (dVar 0) (dC (.int 2))) (dC (.int 1))))
    (sSeq (sAsgG (dVar 3) (gSetL (dVar 0) (dC (.int 2))))
    (sSeq (sAsg 4 (dBin opMod (dCB fInt (dCons (dBin opMul (dBin opAdd (dBin atD (dVar 0) (dC (.int 1))) (dBin opMul (dC (.int 104729)) (dVar 3))) (dBin opAdd (dBin opMul (dVar 3) (dVar 3)) (dC (.int 7919)))) dNil)) (dC (.int 2147483629))))
    (sSeq (sAsg 4 (dBin opMod (dCB fInt (dCons (dBin opAdd (dBin opMul (dVar 4) (dVar 4)) (dVar 3)) dNil)) (dC (.int 2147483587))))
    (sRet (dBin opMod (dBin opDiv (dBin opMod (dCB fInt (dCons (dBin opMul (dVar 4) (dC (.int 48271))) dNil)) (dC (.int 2147483647))) (dC (.int 64))) (dVar 1))))))))
def g__law_purse (C : Ctx) : DFS := (sSeq (sAsg 2 (dC (.int 0)))
    (sSeq (sIf (dTest (dBin opLt (dVar 1) (fScrLen C.ns 0))) (sAsg 2 (fScr C.ns 0 (dVar 1))) sNil)
    (sRet (dNew (few (dCons (dBin opMod (dCB fInt (dCons (dCB fMax2 (dCons (dBin opSub (dVar 2) (dBin opPow (dC (.int 10)) (dC (.int 18)))) (dCons (dC (.int 0)) dNil))) dNil)) (dBin opPow (dBin opPow (dC (.int 10)) (dC (.int 40))) (dC (.int 10)))) (dCons (dBin opMod (dCB fInt (dCons (dBin opAdd (dVar 2) (dBin opMul (dC (.int 7919)) (dVar 1))) dNil)) (dC (.int 2147483629))) (dCons (dC (.int 0)) dNil))))))))
def c__law_draw := runB 5 g__law_draw
theorem draw_pos {S : List Ob} {p : Nat} {m a b c : Int} (hS : S[p]? = some (pu a b c)) (ha : 0 < a) (hm : 0 < m) (hm2 : m < 1073741824) : c__law_draw [.ptr p, .int m] S = some (.int (a % m), S.set p (pu (a / m) b c)) := by
  refine runB_rt ?_
  unfold g__law_draw
  have h0 : atD S (.ptr p) (.int 0) = some (.int a) := atD_ptr hS rfl
  walk_at "r0"
theorem draw_zero {S : List Ob} {p : Nat} {m a b c : Int} (hS : S[p]? = some (pu a b c)) (ha : ¬ 0 < a) (hm : 0 < m) (hb : 0 ≤ b) (hb2 : b < 2147483648) (hc : 0 ≤ c) (hc2 : c < 1073741824) : ∃ r, c__law_draw [.ptr p, .int m] S = some (.int r, S.set p (pu a b (c + 1))) ∧ 0 ≤ r ∧ r < m := by
  have hp : p < S.length := (List.getElem?_eq_some_iff.mp hS).1
  have h0 : atD S (.ptr p) (.int 0) = some (.int a) := atD_ptr hS rfl
  have h2 : atD S (.ptr p) (.int 2) = some (.int c) := atD_ptr hS rfl
  have h1 : atD (S.set p (pu a b (c + 1))) (.ptr p) (.int 1) = some (.int b) := atD_ptr (get_set hp) rfl
  have key : ∃ x : Int, c__law_draw [.ptr p, .int m] S = some (.int (x % m), S.set p (pu a b (c + 1))) := by
    apply Exists.intro
    refine runB_rt ?_
    unfold g__law_draw
    walk_at "r0"
  obtain ⟨x, hx⟩ := key
  exact ⟨_, hx, Int.emod_nonneg _ (by omega), Int.emod_lt_of_pos _ hm⟩
theorem draw_ok {S : List Ob} {p n : Nat} {m : Int} (h : Pu S p n) (hm : 0 < m) (hm2 : m < 1073741824) (hn : n < 1000000) : ∃ r S', c__law_draw [.ptr p, .int m] S = some (.int r, S') ∧ 0 ≤ r ∧ r < m ∧ Pu S' p (n + 1) ∧ But p S S' := by
  obtain ⟨a, b, c, hS, ha, hb, hb2, hc, hc2⟩ := h.ex
  have hp : p < S.length := (List.getElem?_eq_some_iff.mp hS).1
  by_cases hz : 0 < a
  · exact ⟨_, _, draw_pos hS hz hm hm2, Int.emod_nonneg _ (by omega), Int.emod_lt_of_pos _ hm, ⟨_, _, _, get_set hp, Int.ediv_nonneg ha (by omega), hb, hb2, hc, by omega⟩, But.set _ _ _⟩
  · obtain ⟨r, h1, h2, h3⟩ := draw_zero hS hz hm hb hb2 hc (by omega)
    exact ⟨r, _, h1, h2, h3, ⟨_, _, _, get_set hp, ha, hb, hb2, by omega, by omega⟩, But.set _ _ _⟩
def c__law_purse (C : Ctx) := runB 3 (g__law_purse C)
theorem purse_ok {S : List Ob} {t : Int} (ht : 0 ≤ t) (ht2 : t < 1000) : ∃ a b, c__law_purse C [.scr, .int t] S = some (.ptr S.length, S ++ [pu a b 0]) ∧ 0 ≤ a ∧ 0 ≤ b ∧ b < 2147483648 := by
  by_cases h : t < C.ns.length
  · have hix : ∃ v, atI C.ns t = some v := by
      unfold atI ixN
      rw [if_pos ht, if_pos h, Option.bind_some, List.getElem?_eq_getElem (by omega)]
      exact ⟨_, rfl⟩
    obtain ⟨v, hv⟩ := hix
    have key : ∃ x y : Int, c__law_purse C [.scr, .int t] S = some (.ptr S.length, S ++ [pu (x % (10 ^ 40) ^ 10) (y % 2147483629) 0]) := by
      apply Exists.intro
      apply Exists.intro
      refine runB_rt ?_
      unfold g__law_purse
      walk_at "r0"
    obtain ⟨x, y, hx⟩ := key
    exact ⟨_, _, hx, Int.emod_nonneg _ (by decide), Int.emod_nonneg _ (by decide), by omega⟩
  · have key : ∃ x y : Int, c__law_purse C [.scr, .int t] S = some (.ptr S.length, S ++ [pu (x % (10 ^ 40) ^ 10) (y % 2147483629) 0]) := by
      apply Exists.intro
      apply Exists.intro
      refine runB_rt ?_
      unfold g__law_purse
      walk_at "r0"
    obtain ⟨x, y, hx⟩ := key
    exact ⟨_, _, hx, Int.emod_nonneg _ (by decide), Int.emod_nonneg _ (by decide), by omega⟩
end
end DL
set_option Elab.async false
set_option linter.all false
set_option maxRecDepth 100000
set_option maxHeartbeats 4000000
namespace DL
open PySem PySem.Spec PyProof.Rows L2
theorem signs_ws (b : List Bool) : signsOf (ws b) = b.map fun x => wd [x] := by
  unfold signsOf ws
  simp only [List.map_map]
  apply List.map_congr_left
  intro x _
  cases x <;> rfl
theorem in_01 (S : List Ob) (x : Bool) : opNotIn S (wd [x]) (.str "01") = some (.bl false) := by
  cases x <;> rfl
def g_is_row : DFS := (sRet (dAndV (dIsi (isiB "str") (dVar 0)) (dBin opEq (dTree (dLc [1] (iSt (dVar 0)) (gN 1) (dTest (dBin opNotIn (dVar 1) (dC (.str "01")))) (dVar 1))) (dTree (few dNil)))))
def c_is_row := runB 2 g_is_row
theorem is_row_ok {S : List Ob} (b : List Bool) (hz : b.length ≤ 1000000) : c_is_row [wd b] S = some (.bl true, S) := by
  have key : dLc [1] (iSt (dVar 0)) (gN 1) (dTest (dBin opNotIn (dVar 1) (dC (.str "01")))) (dVar 1) [some (wd b), none] S = some ([], S) := by
    have := dLc_pure (vs := [1]) (fi := iSt (dVar 0)) (tg := gN 1) (t := dTest (dBin opNotIn (dVar 1) (dC (.str "01")))) (el := dVar 1) (E := [some (wd b), none]) (S := S) (s := .fix (signsOf (ws b))) (xs := signsOf (ws b)) (fun _ => false) id (fun d => [some (wd b), some d]) rfl fix_at rfl ?_ (fun d _ => rfl) ?_ (fun d _ h => nomatch h)
    · rw [this]
      simp
    · rw [signs_ws, List.length_map]
      exact Nat.le_trans hz (by decide)
    · intro d hd
      rw [signs_ws] at hd
      obtain ⟨x, _, rfl⟩ := List.mem_map.mp hd
      refine dTest_ev (dBin_ev (dVar_ev rfl) dC_ev (in_01 S x))
  refine runB_rt ?_
  unfold g_is_row
  walk_at "r0"
def g_beginnings : DFS := (sRet (dTree (dLc [1] (iRg1 (dCons (dCB fLen (dCons (dVar 0) dNil)) dNil)) (gN 1) dYes (dSlS (dVar 0) dNoPart (dPart (dVar 1))))))
def begs (b : List Bool) : List (List Bool) := (List.range b.length).map fun i => b.take i
def c_beginnings := runB 2 g_beginnings
theorem cut_ws (b : List Bool) (i : Nat) (h : i ≤ b.length) : cutS (ws b) none (some (i : Int)) = ws (b.take i) := by
  unfold cutS
  rw [HT.sIx_none, HT.sIx_nat, ws_len, Nat.min_eq_left h]
  simp [ws, List.map_take]
theorem len_ws {S : List Ob} (b : List Bool) (hz : b.length ≤ 1000000) : fLen S [wd b] = some (.int (b.length : Nat)) := by
  show (lenS S (wd b)).map D.int = _
  simp only [lenS, wd, ws_len]
  rw [if_pos (Nat.le_trans hz (by decide))]
  rfl
theorem rg1_ev {fs : DF (List D)} {E : SE} {S S1 : List Ob} {n : Nat} (h : fs E S = some ([.int (n : Nat)], S1)) (hn : n ≤ 1000000) : iRg1 fs E S = some (.fix (upto 0 n), S1) := by
  unfold iRg1
  rw [h, Option.bind_some]
  simp only
  rw [if_pos (by omega)]
  simp
theorem upto0 (n : Nat) : upto 0 n = (List.range n).map fun i : Nat => D.int (i : Nat) := by
  unfold upto
  apply List.map_congr_left
  intro i _
  rw [Int.zero_add]
theorem beginnings_ok {S : List Ob} (b : List Bool) (hz : b.length ≤ 1000000) : c_beginnings [wd b] S = some (.lst ((begs b).map wd), S) := by
  have h1 : iRg1 (dCons (dCB fLen (dCons (dVar 0) dNil)) dNil) [some (wd b), none] S = some (.fix (upto 0 b.length), S) :=
    rg1_ev (dCons_ev (dCB_ev (dCons_ev (dVar_ev rfl) dNil_ev) (len_ws b hz)) dNil_ev) hz
  have key : dLc [1] (iRg1 (dCons (dCB fLen (dCons (dVar 0) dNil)) dNil)) (gN 1) dYes (dSlS (dVar 0) dNoPart (dPart (dVar 1))) [some (wd b), none] S = some ((begs b).map wd, S) := by
    have := dLc_pure (vs := [1]) (tg := gN 1) (t := dYes) (el := dSlS (dVar 0) dNoPart (dPart (dVar 1))) (E := [some (wd b), none]) (S := S) (xs := upto 0 b.length) (fun _ => true) (fun d => match d with | .int i => wd (b.take i.toNat) | d => d) (fun d => [some (wd b), some d]) h1 fix_at rfl ?_ (fun d _ => rfl) (fun d _ => rfl) ?_
    · rw [this, upto0, List.filter_eq_self.mpr (fun _ _ => rfl)]
      simp [begs, List.map_map, Function.comp_def]
    · rw [upto0, List.length_map, List.length_range]
      exact Nat.le_trans hz (by decide)
    · intro d hd _
      rw [upto0] at hd
      obtain ⟨i, hi, rfl⟩ := List.mem_map.mp hd
      have hi := List.mem_range.mp hi
      show (if (ws b).length ≤ sizeLine then some (D.str (cutS (ws b) none (some (i : Int))), S) else none) = _
      rw [if_pos (by rw [ws_len]; exact Nat.le_trans hz (by decide)), cut_ws b i (by omega)]
      simp
  refine runB_rt ?_
  unfold g_beginnings
  walk_at "r0"
end DL
set_option Elab.async false
set_option linter.all false
set_option maxRecDepth 100000
set_option maxHeartbeats 2000000
namespace DL
open PySem PySem.Spec PyProof.Rows L2
theorem putD_len {κ : Type} [DecidableEq κ] (l : List (κ × D)) (k : κ) (d : D) : (putD l k d).length ≤ l.length + 1 := by
  unfold putD
  split
  · rw [List.length_map]
    omega
  · rw [List.length_append, List.length_singleton]
    omega
theorem dcF_pure {tg : DFG} {t : DF Bool} {kx vx : DF D} {s : Src} {E : SE} {S : List Ob} {xs : List D} (b : D → Bool) (key : D → Key) (v : D → D) (E1 : D → SE) (hS : ∀ i, s.at S i = some xs[i]?) (hg : ∀ d ∈ xs, tg d E S = some (E1 d, S)) (ht : ∀ d ∈ xs, t (E1 d) S = some (b d, S))
    (hk : ∀ d ∈ xs, b d = true → ∃ y, kx (E1 d) S = some (y, S) ∧ keyOf y = some (key d)) (he : ∀ d ∈ xs, b d = true → vx (E1 d) S = some (v d, S)) :
    ∀ (n i : Nat) (acc : List (Key × D)), i + n = xs.length → acc.length + n ≤ sizeLine → dcF tg t kx vx s E n i acc S = some (((xs.drop i).filter b).foldl (fun a d => putD a (key d) (v d)) acc, S)
  | 0, i, acc, hi, ha => by
    have e : xs[i]? = none := List.getElem?_eq_none (by omega)
    simp only [dcF, hS, e]
    rw [List.drop_eq_nil_of_le (by omega)]
    rfl
  | n + 1, i, acc, hi, ha => by
    have hlt : i < xs.length := by omega
    have e : xs[i]? = some xs[i] := List.getElem?_eq_getElem hlt
    have hm : xs[i] ∈ xs := List.getElem_mem hlt
    simp only [dcF, hS, e, hg _ hm, Option.bind_some, ht _ hm]
    rw [List.drop_eq_getElem_cons hlt, List.filter_cons]
    cases hb : b xs[i] with
    | false =>
      simp only [Bool.false_eq_true, if_false]
      exact dcF_pure b key v E1 hS hg ht hk he n (i + 1) acc (by omega) (by omega)
    | true =>
      obtain ⟨y, y1, y2⟩ := hk _ hm hb
      simp only [if_true, y1, he _ hm hb, y2, Option.bind_some]
      have := putD_len acc (key xs[i]) (v xs[i])
      rw [if_pos (by omega), dcF_pure b key v E1 hS hg ht hk he n (i + 1) _ (by omega) (by omega)]
      rfl
theorem dDc_pure {vs : List Nat} {fi : DF Src} {tg : DFG} {t : DF Bool} {kx vx : DF D} {s : Src} {E : SE} {S : List Ob} {xs : List D} (b : D → Bool) (key : D → Key) (v : D → D) (E1 : D → SE) (hi : fi E S = some (s, S)) (hS : ∀ i, s.at S i = some xs[i]?) (hl : s.len S = xs.length) (hz : xs.length ≤ sizeLine)
    (hg : ∀ d ∈ xs, tg d (wipeE E vs) S = some (E1 d, S)) (ht : ∀ d ∈ xs, t (E1 d) S = some (b d, S)) (hk : ∀ d ∈ xs, b d = true → ∃ y, kx (E1 d) S = some (y, S) ∧ keyOf y = some (key d)) (he : ∀ d ∈ xs, b d = true → vx (E1 d) S = some (v d, S)) :
    dDc vs fi tg t kx vx E S = some ((xs.filter b).foldl (fun a d => putD a (key d) (v d)) [], S) := by
  unfold dDc
  rw [hi]
  simp only [Option.bind_some]
  rw [hl, dcF_pure b key v E1 hS hg ht hk he xs.length 0 [] (by omega) (by simpa using hz)]
  rfl
theorem lc2F_pure {vs1 : List Nat} {tg tg1 : DFG} {t t1 : DF Bool} {i1 : DF Src} {el : DF D} {s : Src} {E : SE} {S : List Ob} {xs : List D} (b : D → Bool) (E1 : D → SE) (s1 : D → Src) (ys : D → List D) (b2 : D → D → Bool) (v : D → D → D) (E2 : D → D → SE) (hS : ∀ i, s.at S i = some xs[i]?) (hg : ∀ d ∈ xs, tg d E S = some (E1 d, S)) (ht : ∀ d ∈ xs, t (E1 d) S = some (b d, S))
    (hi : ∀ d ∈ xs, b d = true → i1 (E1 d) S = some (s1 d, S)) (h1 : ∀ d ∈ xs, b d = true → ∀ i, (s1 d).at S i = some (ys d)[i]?) (hl : ∀ d ∈ xs, b d = true → (s1 d).len S = (ys d).length)
    (hg1 : ∀ d ∈ xs, b d = true → ∀ e ∈ ys d, tg1 e (wipeE (E1 d) vs1) S = some (E2 d e, S)) (ht1 : ∀ d ∈ xs, b d = true → ∀ e ∈ ys d, t1 (E2 d e) S = some (b2 d e, S)) (he : ∀ d ∈ xs, b d = true → ∀ e ∈ ys d, b2 d e = true → el (E2 d e) S = some (v d e, S)) (m : Nat) (hm : ∀ d ∈ xs, (ys d).length ≤ m) :
    ∀ (n i : Nat) (acc : List D), i + n = xs.length → acc.length + n * m ≤ sizeLine → lc2F vs1 tg t i1 tg1 t1 el s E n i acc S = some (acc ++ ((xs.drop i).filter b).flatMap (fun d => ((ys d).filter (b2 d)).map (v d)), S)
  | 0, i, acc, hi', ha => by
    have e : xs[i]? = none := List.getElem?_eq_none (by omega)
    simp only [lc2F, hS, e]
    rw [List.drop_eq_nil_of_le (by omega)]
    simp
  | n + 1, i, acc, hi', ha => by
    have hlt : i < xs.length := by omega
    have e : xs[i]? = some xs[i] := List.getElem?_eq_getElem hlt
    have hx : xs[i] ∈ xs := List.getElem_mem hlt
    rw [Nat.succ_mul] at ha
    simp only [lc2F, hS, e, hg _ hx, Option.bind_some, ht _ hx]
    rw [List.drop_eq_getElem_cons hlt, List.filter_cons]
    cases hb : b xs[i] with
    | false =>
      simp only [Bool.false_eq_true, if_false]
      exact lc2F_pure b E1 s1 ys b2 v E2 hS hg ht hi h1 hl hg1 ht1 he m hm n (i + 1) acc (by omega) (by omega)
    | true =>
      have hm' := hm _ hx
      simp only [if_true, hi _ hx hb, hl _ hx hb, Option.bind_some]
      rw [lcF_pure (b2 xs[i]) (v xs[i]) (E2 xs[i]) (h1 _ hx hb) (hg1 _ hx hb) (ht1 _ hx hb) (he _ hx hb) (ys xs[i]).length 0 acc (by omega) (by omega)]
      simp only [Option.bind_some, List.drop_zero]
      have hlen : (((ys xs[i]).filter (b2 xs[i])).map (v xs[i])).length ≤ m := by
        rw [List.length_map]
        exact Nat.le_trans (List.length_filter_le _ _) hm'
      rw [lc2F_pure b E1 s1 ys b2 v E2 hS hg ht hi h1 hl hg1 ht1 he m hm n (i + 1) _ (by omega) (by rw [List.length_append]; omega)]
      simp [List.flatMap_cons]
theorem dLc2_pure {vs vs1 : List Nat} {fi : DF Src} {tg tg1 : DFG} {t t1 : DF Bool} {i1 : DF Src} {el : DF D} {s : Src} {E : SE} {S : List Ob} {xs : List D} (b : D → Bool) (E1 : D → SE) (s1 : D → Src) (ys : D → List D) (b2 : D → D → Bool) (v : D → D → D) (E2 : D → D → SE) (hi0 : fi E S = some (s, S)) (hS : ∀ i, s.at S i = some xs[i]?) (hl0 : s.len S = xs.length) (hg : ∀ d ∈ xs, tg d (wipeE E vs) S = some (E1 d, S)) (ht : ∀ d ∈ xs, t (E1 d) S = some (b d, S))
    (hi : ∀ d ∈ xs, b d = true → i1 (E1 d) S = some (s1 d, S)) (h1 : ∀ d ∈ xs, b d = true → ∀ i, (s1 d).at S i = some (ys d)[i]?) (hl : ∀ d ∈ xs, b d = true → (s1 d).len S = (ys d).length)
    (hg1 : ∀ d ∈ xs, b d = true → ∀ e ∈ ys d, tg1 e (wipeE (E1 d) vs1) S = some (E2 d e, S)) (ht1 : ∀ d ∈ xs, b d = true → ∀ e ∈ ys d, t1 (E2 d e) S = some (b2 d e, S)) (he : ∀ d ∈ xs, b d = true → ∀ e ∈ ys d, b2 d e = true → el (E2 d e) S = some (v d e, S)) (m : Nat) (hm : ∀ d ∈ xs, (ys d).length ≤ m) (hz : xs.length * m ≤ sizeLine) :
    dLc2 vs vs1 fi tg t i1 tg1 t1 el E S = some ((xs.filter b).flatMap (fun d => ((ys d).filter (b2 d)).map (v d)), S) := by
  unfold dLc2
  rw [hi0]
  simp only [Option.bind_some]
  rw [hl0, lc2F_pure b E1 s1 ys b2 v E2 hS hg ht hi h1 hl hg1 ht1 he m hm xs.length 0 [] (by omega) (by simpa using hz)]
  simp
end DL
set_option Elab.async false
set_option linter.all false
set_option maxRecDepth 100000
set_option maxHeartbeats 2000000
namespace DL
open PySem PySem.Spec PyProof.Rows L2
section
variable {α : Type} [DecidableEq α]
def addTo (a : List α) (r : α) : List α := if r ∈ a then a else a ++ [r]
def ded (xs : List α) : List α := xs.foldl addTo []
theorem ded_nil : ded ([] : List α) = [] := rfl
theorem ded_snoc (xs : List α) (r : α) : ded (xs ++ [r]) = addTo (ded xs) r := by
  unfold ded
  rw [List.foldl_append]
  rfl
theorem snoc_ind {P : List α → Prop} (h0 : P []) (h1 : ∀ xs r, P xs → P (xs ++ [r])) : ∀ xs, P xs := fun xs => by
  rw [← List.reverse_reverse xs]
  induction xs.reverse with
  | nil => exact h0
  | cons r t ih =>
    rw [List.reverse_cons]
    exact h1 _ _ ih
theorem mem_addTo {a r : α} {xs : List α} : a ∈ addTo xs r ↔ a ∈ xs ∨ a = r := by
  unfold addTo
  split
  · rename_i h
    exact ⟨.inl, fun q => q.elim id fun e => by rw [e]; exact h⟩
  · rw [List.mem_append, List.mem_singleton]
theorem mem_ded {a : α} {xs : List α} : a ∈ ded xs ↔ a ∈ xs := by
  induction xs using snoc_ind with
  | h0 => simp [ded_nil]
  | h1 xs r ih => rw [ded_snoc, mem_addTo, ih, List.mem_append, List.mem_singleton]
theorem nodup_ded (xs : List α) : (ded xs).Nodup := by
  induction xs using snoc_ind with
  | h0 => exact List.nodup_nil
  | h1 xs r ih =>
    rw [ded_snoc, addTo]
    split
    · exact ih
    · rename_i h
      refine List.nodup_append.mpr ⟨ih, by simp, fun a ha b hb e => h ?_⟩
      rw [← List.mem_singleton.mp hb, ← e]
      exact ha
theorem ded_len (xs : List α) : (ded xs).length ≤ xs.length := by
  induction xs using snoc_ind with
  | h0 => exact Nat.le_refl _
  | h1 xs r ih =>
    rw [ded_snoc, addTo]
    split
    · rw [List.length_append]
      omega
    · rw [List.length_append, List.length_append]
      omega
theorem ded_id {xs : List α} (h : xs.Nodup) : ded xs = xs := by
  induction xs using snoc_ind with
  | h0 => rfl
  | h1 xs r ih =>
    obtain ⟨h1, _, h2⟩ := List.nodup_append.mp h
    rw [ded_snoc, ih h1, addTo, if_neg fun q => h2 r q r (List.mem_singleton_self r) rfl]
end
section
variable {κ : Type} [DecidableEq κ]
def setK (xs : List κ) : List (κ × D) := xs.map fun k => (k, .bl true)
theorem any_key (f : κ → D) (xs : List κ) (k : κ) : ((xs.map fun x => (x, f x)).any fun p => decide (p.1 = k)) = decide (k ∈ xs) := by
  induction xs with
  | nil => simp
  | cons x xs ih =>
    rw [List.map_cons, List.any_cons, ih]
    by_cases h : x = k
    · simp [h]
    · have : ¬ k = x := fun e => h e.symm
      simp [h, this]
theorem putD_set (xs : List κ) (k : κ) : putD (setK xs) k (.bl true) = setK (addTo xs k) := by
  unfold putD setK
  rw [any_key (fun _ => D.bl true)]
  unfold addTo
  by_cases h : k ∈ xs
  · rw [if_pos (decide_eq_true h), if_pos h, List.map_map]
    apply List.map_congr_left
    intro x _
    show (if x = k then _ else _) = _
    split
    · rfl
    · rfl
  · rw [if_neg (by rw [decide_eq_false h]; exact Bool.false_ne_true), if_neg h, List.map_append]
    rfl
theorem fold_set (xs : List κ) : xs.foldl (fun a k => putD a k (.bl true)) [] = setK (ded xs) := by
  induction xs using snoc_ind with
  | h0 => rfl
  | h1 xs r ih =>
    rw [List.foldl_append, ih, ded_snoc]
    exact putD_set _ _
theorem getD_set (xs : List κ) (k : κ) : getD' (setK xs) k = if k ∈ xs then some (.bl true) else none := by
  induction xs with
  | nil => rfl
  | cons x xs ih =>
    by_cases h : x = k
    · subst h
      simp [setK, getD']
    · have h2 : ¬ k = x := fun e => h e.symm
      have : getD' (setK (x :: xs)) k = getD' (setK xs) k := by simp [setK, getD', h]
      rw [this, ih]
      simp [h2]
end
end DL
set_option Elab.async false
set_option linter.all false
set_option maxRecDepth 100000
set_option maxHeartbeats 4000000
namespace DL
open PySem PySem.Spec PyProof.Rows L2
def kvs (ls : List (Int × Nat)) : List (Key × D) := ls.map fun p => (.inl p.1, .ptr p.2)
def keysOfLen (xs : List Str) (l : Int) : List Key := (xs.filter fun r => decide ((r.length : Int) = l)).map Sum.inr
def lensOf (xs : List Str) : List Int := xs.map fun r => (r.length : Int)
structure Fnd (S : List Ob) (xs : List Str) (S' : List Ob) : Prop where
  pre : ∀ k, k < S.length → S'[k]? = S[k]?
  ls : ∃ ls : List (Int × Nat), ls.map (·.1) = ded (lensOf xs) ∧ S'[S.length]? = some (.dK (kvs ls)) ∧ (ls.map (·.2)).Nodup ∧ ∀ p ∈ ls, S.length < p.2 ∧ S'[p.2]? = some (.dK (setK (ded (keysOfLen xs p.1))))
end DL
set_option Elab.async false
set_option linter.all false
set_option maxRecDepth 4000
set_option maxHeartbeats 4000000
namespace DL
open PySem PySem.Spec PyProof.Rows L2
theorem strsOf_strs : ∀ ns : List Str, strsOf (ns.map D.str) = some ns
  | [] => rfl
  | n :: ns => by
    have ih := strsOf_strs ns
    simp only [List.map_cons, strsOf] at ih ⊢
    simp [ih]
def orderS (xs : List Str) : List Str := (sortI (ded (lensOf xs))).flatMap fun l => sortS (ded (xs.filter fun r => decide ((r.length : Int) = l)))
theorem lst_pre {S S' : List Ob} {d : D} {l : List D} (h : ∀ k, k < S.length → S'[k]? = S[k]?) (hd : lstOf S d = some l) : lstOf S' d = some l := by
  cases d with
  | lst xs => exact hd
  | ptr k =>
    have hk : k < S.length := by
      cases e : S[k]? with
      | none =>
        simp only [lstOf, e] at hd
        cases hd
      | some o => exact (List.getElem?_eq_some_iff.mp e).1
    simp only [lstOf, h k hk] at hd ⊢
    exact hd
  | _ => cases hd
theorem live_ev {f : DF D} {E : SE} {S S1 : List Ob} {d : D} {xs : List D} (h : f E S = some (d, S1)) (hl : lstOf S1 d = some xs) : iLst f E S = some (.live d, S1) := by
  unfold iLst
  rw [h, Option.bind_some]
  simp only [hl]
def c_in_order (ds : List D) (S : List Ob) : Option (D × List Ob) := match ds with
  | [d] => ((lstOf S d).bind strsOf).bind fun xs => if xs.length ≤ 4000 ∧ ∀ r ∈ xs, r.length ≤ 4000 then some (.lst ((orderS xs).map D.str), S) else none
  | _ => none
theorem mem_sortI (ns : List Int) (x : Int) : x ∈ sortI ns ↔ x ∈ ns := by
  unfold sortI
  exact List.mem_mergeSort
end DL
set_option Elab.async false
set_option linter.all false
set_option maxRecDepth 4000
set_option maxHeartbeats 4000000
namespace DL
open PySem PySem.Spec PyProof.Rows L2
end DL
set_option Elab.async false
set_option linter.all false
set_option maxRecDepth 100000
set_option maxHeartbeats 4000000
namespace DL
open PySem PySem.Spec PyProof.Rows L2
structure GoodW (ws : List (List Bool)) : Prop where
  two : 2 ≤ ws.length
  many : ws.length ≤ 2000
  len : ∀ w ∈ ws, w.length ≤ 2000
  ne : ∀ w ∈ ws, w ≠ []
  nd : ws.Nodup
  pf : ∀ w ∈ ws, ∀ i, i < w.length → w.take i ∉ ws
theorem tg_lst {S : List Ob} {d : D} {l : List D} (h : lstOf S d = some l) : tgOf S d = some (.b "list") := by
  cases d with
  | lst xs => rfl
  | ptr k =>
    unfold lstOf at h
    simp only at h
    split at h
    · rename_i xs hk
      simp only [tgOf, hk]
    · cases h
  | _ => cases h
theorem len_lst {S : List Ob} {d : D} {l : List D} (h : lstOf S d = some l) : fLen S [d] = some (.int (l.length : Nat)) := by
  show (lenS S d).map D.int = _
  cases d with
  | lst xs =>
    cases h
    rfl
  | ptr k =>
    unfold lstOf at h
    simp only at h
    split at h
    · rename_i xs hk
      cases h
      simp only [lenS, hk]
      rfl
    · cases h
  | _ => cases h
theorem key_get (S : List Ob) (ks : List Key) (w : List Bool) : opIn S (wd w) (.dK (setK ks)) = some (.bl (getD' (setK ks) (Sum.inr (ws w))).isSome) := rfl
theorem key_no (S : List Ob) {ks : List Key} {w : List Bool} (h : (Sum.inr (ws w) : Key) ∉ ks) : opIn S (wd w) (.dK (setK ks)) = some (.bl false) := by
  rw [key_get, getD_set, if_neg h]
  rfl
theorem eq_nil_w (S : List Ob) (w : List Bool) : opEq S (wd w) (.str "") = some (.bl (decide (w = []))) := by
  have h : opEq S (wd w) (.str "") = some (.bl (decide (V.str (ws w) = V.str ""))) := rfl
  rw [h]
  congr 2
  apply decide_eq_decide.mpr
  constructor
  · intro e
    have e2 : ws w = ws [] := by rw [← s_nil]; exact V.str.inj e
    exact ws_inj e2
  · intro e
    rw [e, s_nil]
def g_are_words : DFS := (sSeq (sIf (dOr (dNot (dTest (dIsi (isiB "list") (dVar 0)))) (dTest (dBin opLt (dCB fLen (dCons (dVar 0) dNil)) (dC (.int 2))))) (sRet (dC (.bl false))) sNil)
    (sSeq (sIf (dTest (dBin opNe (dTree (dLc [2] (iLst (dVar 0)) (gN 2) (dOr (dNot (dTest (dCall 1 c_is_row (dCons (dVar 2) dNil)))) (dTest (dBin opEq (dVar 2) (dC (.str ""))))) (dVar 2))) (dTree (few dNil)))) (sRet (dC (.bl false))) sNil)
    (sSeq (sAsg 1 (dTreeK (dDc [2] (iLst (dVar 0)) (gN 2) dYes (dVar 2) (dC (.bl true)))))
    (sSeq (sIf (dTest (dBin opNe (dCB fLen (dCons (dVar 1) dNil)) (dCB fLen (dCons (dVar 0) dNil)))) (sRet (dC (.bl false))) sNil)
    (sRet (dBin opEq (dTree (dLc2 [2, 3] [3] (iLst (dVar 0)) (gN 2) dYes (iLst (dCall 1 c_beginnings (dCons (dVar 2) dNil))) (gN 3) (dTest (dBin opIn (dVar 3) (dVar 1))) (dVar 3))) (dTree (few dNil))))))))
theorem are_words_run {S : List Ob} {d : D} {bs : List (List Bool)} (hd : lstOf S d = some (bs.map wd)) (G : GoodW bs) : runB 4 g_are_words [d] S = some (.bl true, S) := by
  have hn : (bs.map wd).length = bs.length := List.length_map _
  have small : ∀ n : Nat, n ≤ 2000 → n ≤ sizeLine := fun n h => Nat.le_trans h (by decide)
  have two := G.two
  -- no word is bad
  have bad : dLc [2] (iLst (dVar 0)) (gN 2) (dOr (dNot (dTest (dCall 1 c_is_row (dCons (dVar 2) dNil)))) (dTest (dBin opEq (dVar 2) (dC (.str ""))))) (dVar 2) [some d, none, none, none] S = some ([], S) := by
    have := dLc_pure (vs := [2]) (fi := iLst (dVar 0)) (tg := gN 2) (t := dOr (dNot (dTest (dCall 1 c_is_row (dCons (dVar 2) dNil)))) (dTest (dBin opEq (dVar 2) (dC (.str ""))))) (el := dVar 2) (E := [some d, none, none, none]) (S := S) (s := .live d) (xs := bs.map wd) (fun _ => false) id (fun e => [some d, none, some e, none])
      (live_ev (dVar_ev rfl) hd) (live_at hd) (live_len hd) (by rw [hn]; exact small _ G.many) (fun _ _ => rfl) (fun e he => by
        obtain ⟨w, hw, rfl⟩ := List.mem_map.mp he
        have h1 : dNot (dTest (dCall 1 c_is_row (dCons (dVar 2) dNil))) [some d, none, some (wd w), none] S = some (false, S) := dNot_ev (b := true) (dTest_ev (dCall_ev (dCons_ev (dVar_ev rfl) dNil_ev) rfl (is_row_ok w (Nat.le_trans (G.len w hw) (by decide)))))
        have h2 : dTest (dBin opEq (dVar 2) (dC (.str ""))) [some d, none, some (wd w), none] S = some (false, S) := by
          have := eq_nil_w S w
          rw [decide_eq_false (G.ne w hw)] at this
          exact dTest_ev (dBin_ev (dVar_ev rfl) dC_ev this)
        exact dOr_pure h1 h2) (fun _ _ h => nomatch h)
    rw [this]
    simp
  -- the dict of the words
  have dict : dDc [2] (iLst (dVar 0)) (gN 2) dYes (dVar 2) (dC (.bl true)) [some d, none, none, none] S = some (setK ((bs.map ws).map Sum.inr), S) := by
    have := dDc_pure (vs := [2]) (fi := iLst (dVar 0)) (tg := gN 2) (t := dYes) (kx := dVar 2) (vx := dC (.bl true)) (E := [some d, none, none, none]) (S := S) (s := .live d) (xs := bs.map wd) (fun _ => true) (fun e => match e with | .str x => .inr x | _ => .inl 0) (fun _ => .bl true) (fun e => [some d, none, some e, none])
      (live_ev (dVar_ev rfl) hd) (live_at hd) (live_len hd) (by rw [hn]; exact small _ G.many) (fun _ _ => rfl) (fun _ _ => rfl) (fun e he _ => by
        obtain ⟨w, hw, rfl⟩ := List.mem_map.mp he
        exact ⟨wd w, rfl, rfl⟩) (fun _ _ _ => rfl)
    rw [this, List.filter_eq_self.mpr (fun _ _ => rfl)]
    have e : ∀ (l : List (List Bool)) (acc : List (Key × D)), (l.map wd).foldl (fun a e => putD a (match e with | .str x => Sum.inr x | _ => Sum.inl 0) (.bl true)) acc = ((l.map ws).map (Sum.inr : Str → Key)).foldl (fun a k => putD a k (.bl true)) acc := by
      intro l
      induction l with
      | nil => exact fun _ => rfl
      | cons x l ih => exact fun acc => ih _
    have nd : ((bs.map ws).map (Sum.inr : Str → Key)).Nodup := by
      rw [List.map_map]
      exact (List.pairwise_map).mpr (G.nd.imp fun h e => h (ws_inj (Sum.inr.inj e)))
    rw [e, fold_set, ded_id nd]
  -- no beginning is a word
  have pref : dLc2 [2, 3] [3] (iLst (dVar 0)) (gN 2) dYes (iLst (dCall 1 c_beginnings (dCons (dVar 2) dNil))) (gN 3) (dTest (dBin opIn (dVar 3) (dVar 1))) (dVar 3) [some d, some (.dK (setK ((bs.map ws).map Sum.inr))), none, none] S = some ([], S) := by
    have hb : ∀ w ∈ bs, c_beginnings [wd w] S = some (.lst ((begs w).map wd), S) := fun w hw => beginnings_ok w (Nat.le_trans (G.len w hw) (by decide))
    have := dLc2_pure (vs := [2, 3]) (vs1 := [3]) (fi := iLst (dVar 0)) (tg := gN 2) (t := dYes) (i1 := iLst (dCall 1 c_beginnings (dCons (dVar 2) dNil))) (tg1 := gN 3) (t1 := dTest (dBin opIn (dVar 3) (dVar 1))) (el := dVar 3) (E := [some d, some (.dK (setK ((bs.map ws).map Sum.inr))), none, none]) (S := S) (s := .live d) (xs := bs.map wd)
      (fun _ => true) (fun e => [some d, some (.dK (setK ((bs.map ws).map Sum.inr))), some e, none]) (fun e => match c_beginnings [e] S with | some p => .live p.1 | none => .live e) (fun e => match c_beginnings [e] S with | some (.lst l, _) => l | _ => []) (fun _ _ => false) (fun _ e => e) (fun e e2 => [some d, some (.dK (setK ((bs.map ws).map Sum.inr))), some e, some e2])
      (live_ev (dVar_ev rfl) hd) (live_at hd) (live_len hd) (fun _ _ => rfl) (fun _ _ => rfl)
      (fun e he _ => by
        obtain ⟨w, hw, rfl⟩ := List.mem_map.mp he
        rw [hb w hw]
        exact live_ev (dCall_ev (dCons_ev (dVar_ev rfl) dNil_ev) rfl (hb w hw)) rfl)
      (fun e he _ i => by
        obtain ⟨w, hw, rfl⟩ := List.mem_map.mp he
        rw [hb w hw]
        rfl)
      (fun e he _ => by
        obtain ⟨w, hw, rfl⟩ := List.mem_map.mp he
        rw [hb w hw]
        rfl)
      (fun _ _ _ _ _ => rfl)
      (fun e he _ e2 he2 => by
        obtain ⟨w, hw, rfl⟩ := List.mem_map.mp he
        rw [hb w hw] at he2
        obtain ⟨v, hv, rfl⟩ := List.mem_map.mp he2
        obtain ⟨i, hi, rfl⟩ := List.mem_map.mp hv
        refine dTest_ev (dBin_ev (dVar_ev rfl) (dVar_ev rfl) (key_no S fun q => ?_))
        obtain ⟨z, hz, hz2⟩ := List.mem_map.mp q
        cases hz2
        obtain ⟨u, hu, hu2⟩ := List.mem_map.mp hz
        rw [ws_inj hu2] at hu
        exact G.pf w hw i (List.mem_range.mp hi) hu)
      (fun _ _ _ _ _ h => nomatch h) 2000 (fun e he => by
        obtain ⟨w, hw, rfl⟩ := List.mem_map.mp he
        rw [hb w hw]
        simpa [begs] using G.len w hw) (by rw [hn]; exact Nat.le_trans (Nat.mul_le_mul_right 2000 G.many) (by decide))
    rw [this]
    simp
  have hlen : fLen S [d] = some (.int (bs.length : Nat)) := by rw [len_lst hd, hn]
  have hlen2 : fLen S [.dK (setK ((bs.map ws).map (Sum.inr : Str → Key)))] = some (.int (bs.length : Nat)) := by
    show some (D.int _) = _
    simp [setK]
  have ne : opNe S (.int (bs.length : Nat)) (.int (bs.length : Nat)) = some (.bl false) := by
    show some (D.bl (!decide (V.int (bs.length : Nat) = V.int (bs.length : Nat)))) = _
    rw [decide_eq_true rfl]
    rfl
  have tg := tg_lst hd
  refine runB_rt ?_
  unfold g_are_words
  refine sSeq_ev (sIf_ev (dOr_pure (b1 := false) (b2 := false) (dNot_ev (b := true) (dTest_ev (dIsi_ev (dVar_ev rfl) tg rfl))) ?_) (ifK_f sNil_ev)) (sqK_nx ?_)
  · have : dTest (dBin opLt (dCB fLen (dCons (dVar 0) dNil)) (dC (.int 2))) [some d, none, none, none] S = some (decide ((bs.length : Int) < 2), S) := dTest_ev (dBin_ev (dCB_ev (dCons_ev (dVar_ev rfl) dNil_ev) hlen) dC_ev rfl)
    rw [decide_eq_false (by omega)] at this
    exact this
  refine sSeq_ev (sIf_ev (b := false) (dTest_ev (dBin_ev (dTree_ev bad) (dTree_ev (few_ev dNil_ev (by decide))) rfl)) (ifK_f sNil_ev)) (sqK_nx ?_)
  refine sSeq_ev (sAsg_ev (d := .dK (setK ((bs.map ws).map Sum.inr))) (S1 := S) ?_) (sqK_nx ?_)
  · exact congrArg (Option.map fun p => (D.dK p.1, p.2)) dict
  refine sSeq_ev (sIf_ev (b := false) (dTest_ev (dBin_ev (dCB_ev (dCons_ev (dVar_ev rfl) dNil_ev) hlen2) (dCB_ev (dCons_ev (dVar_ev rfl) dNil_ev) hlen) ne)) (ifK_f sNil_ev)) (sqK_nx ?_)
  exact sRet_ev (dBin_ev (dTree_ev pref) (dTree_ev (few_ev dNil_ev (by decide))) rfl)
end DL
set_option Elab.async false
set_option linter.all false
set_option maxRecDepth 100000
set_option maxHeartbeats 4000000
namespace DL
open PySem PySem.Spec PyProof.Rows L2
def codeD (rows heads : List Str) (ways : List (List Key × D)) : D := .obj 0 [("rows", .tup (rows.map D.str)), ("heads", .ktp (heads.map D.str)), ("ways", .dT ways)]
section
variable {S : List Ob} {rows heads rows2 heads2 : List Str} {ways ways2 : List (List Key × D)}
end
end DL
set_option Elab.async false
set_option linter.all false
namespace DL
abbrev Row := List Bool
inductive Tr where
  | no | lf | nd (a b : Tr)
  deriving DecidableEq
namespace Tr
def words : Tr → List Row
  | no => []
  | lf => [[]]
  | nd a b => (words a).map (List.cons false) ++ (words b).map (List.cons true)
def heads : Tr → List Row
  | no => []
  | lf => []
  | nd a b => [] :: ((heads a).map (List.cons false) ++ (heads b).map (List.cons true))
def ok : Tr → Prop
  | no => True
  | lf => True
  | nd a b => ok a ∧ ok b ∧ ¬ (a = no ∧ b = no)
def size : Tr → Nat
  | no => 0
  | lf => 1
  | nd a b => size a + size b
def hgt : Tr → Nat
  | no => 0
  | lf => 0
  | nd a b => max (hgt a) (hgt b) + 1
def ways : Tr → Nat
  | nd a b => (if a = no then 0 else 1) + (if b = no then 0 else 1) + ways a + ways b
  | _ => 0
def split : Tr → Nat → Tr
  | no, _ => no
  | lf, 0 => nd lf lf
  | lf, _ + 1 => lf
  | nd a b, i => if i < size a then nd (split a i) b else nd a (split b (i - size a))
end Tr
end DL
set_option Elab.async false
set_option linter.all false
set_option maxRecDepth 100000
set_option maxHeartbeats 2000000
namespace DL
open PySem PySem.Spec PyProof.Rows L2
def ltS (a b : Str) : Prop := a.length < b.length ∨ (a.length = b.length ∧ leS a b = true ∧ a ≠ b)
theorem leS_total (a b : Str) : (leS a b || leS b a) = true := by
  unfold leS
  rcases List.le_total a.cps.toList b.cps.toList with h | h
  · simp [h]
  · simp [h]
theorem leS_trans (a b c : Str) (h1 : leS a b = true) (h2 : leS b c = true) : leS a c = true := by
  unfold leS at *
  exact decide_eq_true (List.le_trans (of_decide_eq_true h1) (of_decide_eq_true h2))
theorem ltS_ne {a b : Str} (h : ltS a b) : a ≠ b := by
  rintro rfl
  rcases h with h | ⟨_, _, h⟩
  · omega
  · exact h rfl
theorem sortS_pair (l : List Str) : (sortS l).Pairwise fun a b => leS a b = true := List.pairwise_mergeSort (le := leS) leS_trans leS_total l
theorem mem_sortS {l : List Str} {a : Str} : a ∈ sortS l ↔ a ∈ l := List.mem_mergeSort
theorem nodup_sortS {l : List Str} (h : l.Nodup) : (sortS l).Nodup := (List.mergeSort_perm l leS).nodup_iff.mpr h
theorem sortS_lt {l : List Str} (h : l.Nodup) {n : Nat} (hl : ∀ a ∈ l, a.length = n) : (sortS l).Pairwise ltS := by
  have h1 := sortS_pair l
  have h2 := nodup_sortS h
  have h3 := List.pairwise_and_iff.mpr ⟨h1, h2⟩
  refine h3.imp_of_mem fun {a b} ha hb h => .inr ⟨?_, h.1, h.2⟩
  rw [hl a (mem_sortS.mp ha), hl b (mem_sortS.mp hb)]
theorem sortI_lt {l : List Int} (h : l.Nodup) : (sortI l).Pairwise fun a b => a < b := by
  have h1 : (sortI l).Pairwise fun a b => decide (a ≤ b) = true := List.pairwise_mergeSort (le := fun a b : Int => decide (a ≤ b)) (fun a b c => by simp; omega) (fun a b => by simp; omega) l
  have h2 : (sortI l).Nodup := (List.mergeSort_perm l _).nodup_iff.mpr h
  refine (List.pairwise_and_iff.mpr ⟨h1, h2⟩).imp fun {a b} h => ?_
  have := of_decide_eq_true h.1
  have := h.2
  omega
theorem mem_orderS {xs : List Str} {a : Str} : a ∈ orderS xs ↔ a ∈ xs := by
  unfold orderS
  rw [List.mem_flatMap]
  constructor
  · rintro ⟨l, _, h⟩
    exact (List.mem_filter.mp (mem_ded.mp (mem_sortS.mp h))).1
  · intro h
    refine ⟨(a.length : Int), (mem_sortI _ _).mpr (mem_ded.mpr (List.mem_map.mpr ⟨a, h, rfl⟩)), mem_sortS.mpr (mem_ded.mpr (List.mem_filter.mpr ⟨h, by simp⟩))⟩
theorem orderS_lt (xs : List Str) : (orderS xs).Pairwise ltS := by
  unfold orderS
  rw [List.pairwise_flatMap]
  constructor
  · intro l _
    refine sortS_lt (n := l.toNat) (nodup_ded _) fun a ha => ?_
    have := (List.mem_filter.mp (mem_ded.mp ha)).2
    simp at this
    omega
  · refine (sortI_lt (nodup_ded _)).imp fun {i j} hij x hx y hy => .inl ?_
    have h1 := (List.mem_filter.mp (mem_ded.mp (mem_sortS.mp hx))).2
    have h2 := (List.mem_filter.mp (mem_ded.mp (mem_sortS.mp hy))).2
    simp at h1 h2
    omega
def un (x : Str) : Row := x.cps.toList.map fun c => c == 49
theorem un_ws (b : Row) : un (ws b) = b := by
  unfold un ws
  simp only [List.map_map]
  have : ((fun c : Nat => c == 49) ∘ fun x : Bool => if x then 49 else 48) = id := by
    funext x
    cases x <;> rfl
  rw [this, List.map_id]
def ordR (W : List Row) : List Row := (orderS (W.map ws)).map un
theorem mem_ws {W : List Row} {r : Row} : ws r ∈ W.map ws ↔ r ∈ W := by
  rw [List.mem_map]
  constructor
  · rintro ⟨a, h, e⟩
    rw [← ws_inj e]
    exact h
  · exact fun h => ⟨r, h, rfl⟩
theorem ordR_ws (W : List Row) : (ordR W).map ws = orderS (W.map ws) := by
  unfold ordR
  rw [List.map_map]
  conv => rhs; rw [← List.map_id (orderS (W.map ws))]
  refine List.map_congr_left fun x hx => ?_
  obtain ⟨b, _, rfl⟩ := List.mem_map.mp (mem_orderS.mp hx)
  simp [un_ws]
theorem mem_ordR {W : List Row} {r : Row} : r ∈ ordR W ↔ r ∈ W := by
  rw [← mem_ws (W := ordR W), ordR_ws, mem_orderS, mem_ws]
def ltR (a b : Row) : Prop := ltS (ws a) (ws b)
theorem ordR_lt (W : List Row) : (ordR W).Pairwise ltR := by
  have := orderS_lt (W.map ws)
  rw [← ordR_ws, List.pairwise_map] at this
  exact this
theorem nodup_ordR (W : List Row) : (ordR W).Nodup := (ordR_lt W).imp fun h e => ltS_ne h (congrArg ws e)
abbrev headsW (W : List Row) : List Row := W.flatMap begs
theorem mem_begs {w s : Row} : s ∈ begs w ↔ ∃ i, i < w.length ∧ s = w.take i := by
  unfold begs
  rw [List.mem_map]
  constructor
  · rintro ⟨i, hi, rfl⟩
    exact ⟨i, List.mem_range.mp hi, rfl⟩
  · rintro ⟨i, hi, rfl⟩
    exact ⟨i, List.mem_range.mpr hi, rfl⟩
theorem mem_headsW {W : List Row} {s : Row} : s ∈ headsW W ↔ ∃ w ∈ W, ∃ i, i < w.length ∧ s = w.take i := by
  simp only [headsW, List.mem_flatMap, mem_begs]
def nextW (W : List Row) (s : Row) (b : Bool) : Option Row := if s ++ [b] ∈ W then some [] else if s ++ [b] ∈ headsW W then some (s ++ [b]) else none
def keyW (s : Row) (b : Bool) : List Key := [.inr (ws s), .inr (ws [b])]
def entW (W : List Row) (s : Row) : List (List Key × D) := [false, true].filterMap fun b => (nextW W s b).map fun n => (keyW s b, wd n)
def waysW (W : List Row) : List (List Key × D) := (ordR (headsW W)).flatMap (entW W)
def codeW (W : List Row) : D := codeD ((ordR W).map ws) ((ordR (headsW W)).map ws) (waysW W)
theorem keyW_inj {s s' : Row} {b b' : Bool} (h : keyW s b = keyW s' b') : s = s' ∧ b = b' := by
  unfold keyW at h
  obtain ⟨h1, h2⟩ := List.cons.inj h
  obtain ⟨h2, _⟩ := List.cons.inj h2
  have h3 := ws_inj (Sum.inr.inj h2)
  exact ⟨ws_inj (Sum.inr.inj h1), by simpa using h3⟩
theorem mem_entW {W : List Row} {s : Row} {p : List Key × D} : p ∈ entW W s ↔ ∃ b n, nextW W s b = some n ∧ p = (keyW s b, wd n) := by
  unfold entW
  rw [List.mem_filterMap]
  constructor
  · rintro ⟨b, _, h⟩
    obtain ⟨n, h1, rfl⟩ := Option.map_eq_some_iff.mp h
    exact ⟨b, n, h1, rfl⟩
  · rintro ⟨b, n, h1, rfl⟩
    exact ⟨b, by cases b <;> simp, by rw [h1]; rfl⟩
theorem entW_nd (W : List Row) (s : Row) : ((entW W s).map (·.1)).Nodup := by
  unfold entW
  have k : keyW s false ≠ keyW s true := fun e => nomatch (keyW_inj e).2
  cases h0 : nextW W s false <;> cases h1 : nextW W s true <;> simp [h0, h1, k]
theorem waysW_nd {W : List Row} {hs : List Row} (hn : hs.Nodup) : ((hs.flatMap (entW W)).map (·.1)).Nodup := by
  rw [List.map_flatMap]
  refine List.pairwise_flatMap.mpr ⟨fun s _ => entW_nd W s, hn.imp fun {s s'} h x hx y hy e => ?_⟩
  obtain ⟨p, hp, rfl⟩ := List.mem_map.mp hx
  obtain ⟨q, hq, rfl⟩ := List.mem_map.mp hy
  obtain ⟨b, n, _, rfl⟩ := mem_entW.mp hp
  obtain ⟨b', n', _, rfl⟩ := mem_entW.mp hq
  exact h (keyW_inj e).1
theorem putD_fold {κ : Type} [DecidableEq κ] : ∀ (l : List (κ × D)) (a : List (κ × D)), ((a ++ l).map (·.1)).Nodup → l.foldl (fun a p => putD a p.1 p.2) a = a ++ l
  | [], a, _ => by simp
  | p :: l, a, h => by
    have h2 : ((a ++ [p] ++ l).map (·.1)).Nodup := by simpa using h
    have hp : ¬ (a.any fun q => decide (q.1 = p.1)) = true := by
      rw [List.any_eq_true]
      rintro ⟨q, hq, e⟩
      rw [List.map_append, List.map_cons, List.nodup_append] at h
      exact h.2.2 q.1 (List.mem_map.mpr ⟨q, hq, rfl⟩) p.1 (List.mem_cons_self ..) (of_decide_eq_true e)
    rw [List.foldl_cons]
    have e : putD a p.1 p.2 = a ++ [p] := by
      unfold putD
      rw [if_neg hp]
    rw [e, putD_fold l _ h2]
    simp
end DL
set_option Elab.async false
set_option linter.all false
set_option maxRecDepth 100000
set_option maxHeartbeats 4000000
namespace DL
open PySem PySem.Spec PyProof.Rows L2
theorem mapM_strs (S : List Ob) (n : Nat) : ∀ xs : List Str, (xs.map D.str).mapM (toP S (n + 1)) = some (xs.map PyData.str)
  | [] => rfl
  | x :: xs => by
    have ih := mapM_strs S n xs
    rw [List.map_cons, List.mapM_cons, ih]
    rfl
end DL
set_option Elab.async false
set_option linter.all false
set_option maxRecDepth 100000
set_option maxHeartbeats 2000000
namespace DL
open PySem PySem.Spec PyProof.Rows L2
structure Gv (s : Src) (S : List Ob) (l : List D) : Prop where
  at_ : ∀ i, s.at S i = some l[i]?
  len : s.len S = l.length
theorem gv_fix {S : List Ob} {l : List D} : Gv (.fix l) S l := ⟨fun _ => rfl, rfl⟩
theorem gv_live {S : List Ob} {d : D} {l : List D} (h : lstOf S d = some l) : Gv (.live d) S l := ⟨live_at h, live_len h⟩
theorem gv_lst {S : List Ob} {l : List D} : Gv (.live (.lst l)) S l := gv_live rfl
section
variable {E : SE} {S S1 : List Ob} {α : Type} {xs : List α} {f : α → D} {s : Src} {fi : DF Src} {tg : DFG}
theorem lc_ev {vs : List Nat} {t : DF Bool} {el : DF D} {b : α → Bool} {v : α → D} {E1 : α → SE} (hi : fi E S = some (s, S)) (hs : Gv s S (xs.map f)) (hz : xs.length ≤ sizeLine)
    (hg : ∀ x ∈ xs, tg (f x) (wipeE E vs) S = some (E1 x, S)) (ht : ∀ x ∈ xs, t (E1 x) S = some (b x, S)) (he : ∀ x ∈ xs, b x = true → el (E1 x) S = some (v x, S)) :
    dLc vs fi tg t el E S = some ((xs.filter b).map v, S) := by
  have main : ∀ (n i : Nat) (acc : List D), i + n = xs.length → acc.length + n ≤ sizeLine → lcF tg t el s (wipeE E vs) n i acc S = some (acc ++ ((xs.drop i).filter b).map v, S) := by
    intro n
    induction n with
    | zero =>
      intro i acc hi ha
      have e : (xs.map f)[i]? = none := List.getElem?_eq_none (by rw [List.length_map]; omega)
      simp only [lcF, hs.at_, e]
      rw [List.drop_eq_nil_of_le (by omega)]
      simp
    | succ n ih =>
      intro i acc hi ha
      have hlt : i < xs.length := by omega
      have e : (xs.map f)[i]? = some (f xs[i]) := by rw [List.getElem?_map, List.getElem?_eq_getElem hlt]; rfl
      have hm : xs[i] ∈ xs := List.getElem_mem hlt
      simp only [lcF, hs.at_, e, hg _ hm, Option.bind_some, ht _ hm]
      rw [List.drop_eq_getElem_cons hlt, List.filter_cons]
      cases hb : b xs[i] with
      | false =>
        simp only [Bool.false_eq_true, if_false]
        exact ih (i + 1) acc (by omega) (by omega)
      | true =>
        simp only [if_true, he _ hm hb, Option.bind_some]
        rw [if_pos (by omega), ih (i + 1) (acc ++ [v xs[i]]) (by omega) (by rw [List.length_append, List.length_singleton]; omega)]
        simp
  unfold dLc
  rw [hi]
  simp only [Option.bind_some]
  rw [hs.len, List.length_map, main xs.length 0 [] (by omega) (by simpa using hz)]
  simp
theorem for_st {σ : Type} {b : DFS} (rE : σ → SE) (rS : σ → List Ob) (P : Nat → σ → Prop) {st0 : σ} (hi : fi E S = some (s, rS st0)) (hE : E = rE st0) (h0 : P 0 st0) (hG : ∀ i st, P i st → Gv s (rS st) (xs.map f))
    (step : ∀ i x st, P i st → xs[i]? = some x → ∃ E1 S1 st', tg (f x) (rE st) (rS st) = some (E1, S1) ∧ b E1 S1 = some (.nx (rE st'), rS st') ∧ P (i + 1) st') :
    ∃ st', sFor fi tg b E S = some (.nx (rE st'), rS st') ∧ P xs.length st' := by
  subst hE
  obtain ⟨E', S', h1, st', rfl, rfl, h2⟩ := sFor_inv (xs := xs.map f) (tg := tg) (b := b) (fun i E S => ∃ st, E = rE st ∧ S = rS st ∧ P i st) hi (hG 0 st0 h0).len (fun i E S ⟨st, e1, e2, h⟩ => by subst e2; exact (hG i st h).at_ i) ⟨st0, rfl, rfl, h0⟩
    (fun i d E S ⟨st, e1, e2, h⟩ hd => by
      subst e1
      subst e2
      rw [List.getElem?_map] at hd
      obtain ⟨x, hx, rfl⟩ := Option.map_eq_some_iff.mp hd
      obtain ⟨E1, S1, st', g1, g2, g3⟩ := step i x st h hx
      exact ⟨E1, S1, _, _, g1, .inl g2, st', rfl, rfl, g3⟩)
  rw [List.length_map] at h2
  exact ⟨st', h1, h2⟩
theorem for_fold {σ : Type} {b : DFS} (rE : σ → SE) (rS : σ → List Ob) (stp : σ → α → σ) (P : Nat → σ → Prop) {st0 : σ} (hi : fi E S = some (s, rS st0)) (hE : E = rE st0) (h0 : P 0 st0) (hG : ∀ i st, P i st → Gv s (rS st) (xs.map f))
    (step : ∀ i x st, P i st → xs[i]? = some x → (∃ E1 S1, tg (f x) (rE st) (rS st) = some (E1, S1) ∧ b E1 S1 = some (.nx (rE (stp st x)), rS (stp st x))) ∧ P (i + 1) (stp st x)) :
    sFor fi tg b E S = some (.nx (rE (xs.foldl stp st0)), rS (xs.foldl stp st0)) ∧ P xs.length (xs.foldl stp st0) := by
  obtain ⟨st', h1, h2, h3⟩ := for_st (xs := xs) (f := f) (tg := tg) (b := b) rE rS (fun i st => P i st ∧ st = (xs.take i).foldl stp st0) hi hE ⟨h0, by simp⟩ (fun i st h => hG i st h.1) (fun i x st h hx => by
    obtain ⟨⟨E1, S1, g1, g2⟩, g3⟩ := step i x st h.1 hx
    refine ⟨E1, S1, _, g1, g2, g3, ?_⟩
    rw [List.take_add_one, hx, h.2]
    simp)
  rw [List.take_length] at h3
  subst h3
  exact ⟨h1, h2⟩
theorem sV_ev {vs : List Nat} {g : DFS} {r : Option (Out × List Ob)} (h : g (wipeE E vs) S = r) : sV vs g E S = r := h
theorem sW_ev {vs : List Nat} {g : DFS} {E1 : SE} (h : g E S = some (.nx E1, S1)) : sW vs g E S = some (.nx (wipeE E1 vs), S1) := by
  unfold sW
  rw [h]
  rfl
theorem iTu_ev {fx : DF D} {d : D} {l : List D} (h : fx E S = some (d, S1)) (ht : tupOf d = some l) : iTu fx E S = some (.fix l, S1) := by
  unfold iTu
  rw [h, Option.bind_some, ht]
  rfl
theorem iSt_ev {fx : DF D} {x : Str} (h : fx E S = some (.str x, S1)) : iSt fx E S = some (.fix (signsOf x), S1) := by
  unfold iSt
  rw [h]
  rfl
theorem lc2_ev {β : Type} {vs vs1 : List Nat} {t : DF Bool} {i1 : DF Src} {tg1 : DFG} {t1 : DF Bool} {el : DF D} {b : α → Bool} {E1 : α → SE} {s1 : α → Src} {ys : α → List β} {g : α → β → D} {b2 : α → β → Bool} {v : α → β → D} {E2 : α → β → SE} (c : Nat)
    (hi : fi E S = some (s, S)) (hs : Gv s S (xs.map f)) (hg : ∀ x ∈ xs, tg (f x) (wipeE E vs) S = some (E1 x, S)) (ht : ∀ x ∈ xs, t (E1 x) S = some (b x, S))
    (hi1 : ∀ x ∈ xs, b x = true → i1 (E1 x) S = some (s1 x, S)) (hs1 : ∀ x ∈ xs, b x = true → Gv (s1 x) S ((ys x).map (g x))) (hg1 : ∀ x ∈ xs, b x = true → ∀ y ∈ ys x, tg1 (g x y) (wipeE (E1 x) vs1) S = some (E2 x y, S))
    (ht1 : ∀ x ∈ xs, b x = true → ∀ y ∈ ys x, t1 (E2 x y) S = some (b2 x y, S)) (he : ∀ x ∈ xs, b x = true → ∀ y ∈ ys x, b2 x y = true → el (E2 x y) S = some (v x y, S))
    (hc : ∀ x ∈ xs, (ys x).length ≤ c) (hz : xs.length * c ≤ sizeLine) :
    dLc2 vs vs1 fi tg t i1 tg1 t1 el E S = some ((xs.filter b).flatMap fun x => ((ys x).filter (b2 x)).map (v x), S) := by
  have inner : ∀ x ∈ xs, b x = true → ∀ (n i : Nat) (acc : List D), i + n = (ys x).length → acc.length + n ≤ sizeLine → lcF tg1 t1 el (s1 x) (wipeE (E1 x) vs1) n i acc S = some (acc ++ (((ys x).drop i).filter (b2 x)).map (v x), S) := by
    intro x hx hb n
    induction n with
    | zero =>
      intro i acc hi ha
      have e : ((ys x).map (g x))[i]? = none := List.getElem?_eq_none (by rw [List.length_map]; omega)
      simp only [lcF, (hs1 x hx hb).at_, e]
      rw [List.drop_eq_nil_of_le (by omega)]
      simp
    | succ n ih =>
      intro i acc hi ha
      have hlt : i < (ys x).length := by omega
      have e : ((ys x).map (g x))[i]? = some (g x (ys x)[i]) := by rw [List.getElem?_map, List.getElem?_eq_getElem hlt]; rfl
      have hm : (ys x)[i] ∈ ys x := List.getElem_mem hlt
      simp only [lcF, (hs1 x hx hb).at_, e, hg1 x hx hb _ hm, Option.bind_some, ht1 x hx hb _ hm]
      rw [List.drop_eq_getElem_cons hlt, List.filter_cons]
      cases hb2 : b2 x (ys x)[i] with
      | false =>
        simp only [Bool.false_eq_true, if_false]
        exact ih (i + 1) acc (by omega) (by omega)
      | true =>
        simp only [if_true, he x hx hb _ hm hb2, Option.bind_some]
        rw [if_pos (by omega), ih (i + 1) (acc ++ [v x (ys x)[i]]) (by omega) (by rw [List.length_append, List.length_singleton]; omega)]
        simp
  have main : ∀ (n i : Nat) (acc : List D), i + n = xs.length → acc.length + n * c ≤ sizeLine → lc2F vs1 tg t i1 tg1 t1 el s (wipeE E vs) n i acc S = some (acc ++ ((xs.drop i).filter b).flatMap fun x => ((ys x).filter (b2 x)).map (v x), S) := by
    intro n
    induction n with
    | zero =>
      intro i acc hi ha
      have e : (xs.map f)[i]? = none := List.getElem?_eq_none (by rw [List.length_map]; omega)
      simp only [lc2F, hs.at_, e]
      rw [List.drop_eq_nil_of_le (by omega)]
      simp
    | succ n ih =>
      intro i acc hi ha
      have hlt : i < xs.length := by omega
      have e : (xs.map f)[i]? = some (f xs[i]) := by rw [List.getElem?_map, List.getElem?_eq_getElem hlt]; rfl
      have hm : xs[i] ∈ xs := List.getElem_mem hlt
      rw [Nat.succ_mul] at ha
      simp only [lc2F, hs.at_, e, hg _ hm, Option.bind_some, ht _ hm]
      rw [List.drop_eq_getElem_cons hlt, List.filter_cons]
      cases hb : b xs[i] with
      | false =>
        simp only [Bool.false_eq_true, if_false]
        exact ih (i + 1) acc (by omega) (by omega)
      | true =>
        have hl := hc _ hm
        simp only [if_true, hi1 _ hm hb, Option.bind_some]
        rw [(hs1 _ hm hb).len, List.length_map, inner _ hm hb (ys xs[i]).length 0 acc (by omega) (by omega)]
        simp only [Option.bind_some, List.drop_zero]
        rw [ih (i + 1) _ (by omega) (by
          rw [List.length_append, List.length_map]
          have := List.length_filter_le (b2 xs[i]) (ys xs[i])
          omega)]
        simp
  unfold dLc2
  rw [hi]
  simp only [Option.bind_some]
  rw [hs.len, List.length_map, main xs.length 0 [] (by omega) (by simpa using hz)]
  simp
end
end DL
set_option Elab.async false
set_option linter.all false
set_option maxRecDepth 100000
set_option maxHeartbeats 2000000
namespace DL
open PySem PySem.Spec PyProof.Rows L2
theorem map_wd (W : List Row) : (W.map ws).map D.str = W.map wd := by rw [List.map_map]; rfl
theorem strsOf_wd (W : List Row) : strsOf (W.map wd) = some (W.map ws) := by rw [← map_wd]; exact strsOf_strs _
theorem inV_str (x : Str) (xs : List Str) : inV (.str x) (xs.map V.str) = decide (x ∈ xs) := by
  unfold inV
  rw [List.any_map]
  induction xs with
  | nil => simp
  | cons y ys ih =>
    rw [List.any_cons, ih]
    simp only [Function.comp, eqV, List.mem_cons]
    by_cases h : y = x
    · subst h
      simp
    · have h2 : ¬ x = y := fun e => h e.symm
      simp [h, h2]
theorem sclAll_wd : ∀ W : List Row, sclAll (W.map wd) = some ((W.map ws).map V.str)
  | [] => rfl
  | w :: W => by
    have ih := sclAll_wd W
    simp only [List.map_cons, sclAll, sclD, ih]
theorem in_seq {S : List Ob} {d : D} {W : List Row} (h : seqOf S d = some (W.map wd)) (r : Row) : opIn S (wd r) d = some (.bl (decide (r ∈ W))) := by
  have key : ∀ d : D, seqOf S d = some (W.map wd) → (match seqOf S d with
    | some ys => match sclD (wd r), sclAll ys with
      | some v, some vs => some (inV v vs)
      | _, _ => none
    | none => (dictGet S d (wd r)).map fun o => o.isSome) = some (decide (r ∈ W)) := by
    intro d h
    rw [h]
    simp only [sclAll_wd, sclD, inV_str]
    congr 1
    exact decide_eq_decide.mpr mem_ws
  unfold opIn isIn
  cases d with
  | str z => cases h
  | _ => exact congrArg (Option.map D.bl) (key _ h)
theorem in_tup {S : List Ob} {W : List Row} (r : Row) : opIn S (wd r) (.tup (W.map wd)) = some (.bl (decide (r ∈ W))) := in_seq rfl r
theorem in_ktp {S : List Ob} {W : List Row} (r : Row) : opIn S (wd r) (.ktp (W.map wd)) = some (.bl (decide (r ∈ W))) := in_seq rfl r
theorem in_lst {S : List Ob} {W : List Row} (r : Row) : opIn S (wd r) (.lst (W.map wd)) = some (.bl (decide (r ∈ W))) := in_seq rfl r
theorem add_wd {S : List Ob} {a b : Row} (h : a.length + b.length ≤ 1000000) : opAdd S (wd a) (wd b) = some (wd (a ++ b)) := by
  show (if (ws a).length + (ws b).length ≤ sizeLine then some (D.str (ws a ++ ws b)) else none) = _
  rw [if_pos (by rw [ws_len, ws_len]; exact Nat.le_trans h (by decide)), ws_app]
theorem key_wd (s : Row) (b : Bool) : tkeyOf (.tup [wd s, wd [b]]) = some (keyW s b) := rfl
theorem wd_0 : D.str "0" = wd [false] := by rw [s_zero]
theorem wd_1 : D.str "1" = wd [true] := by rw [s_one]
theorem wd_nil : D.str "" = wd [] := by rw [s_nil]
theorem eq_wd {S : List Ob} (a b : Row) : opEq S (wd a) (wd b) = some (.bl (decide (a = b))) := by
  have h : opEq S (wd a) (wd b) = some (.bl (decide (V.str (ws a) = V.str (ws b)))) := rfl
  rw [h]
  congr 2
  exact decide_eq_decide.mpr ⟨fun e => ws_inj (V.str.inj e), fun e => by rw [e]⟩
theorem ne_wd {S : List Ob} (a b : Row) : opNe S (wd a) (wd b) = some (.bl (!decide (a = b))) := by
  have h : opNe S (wd a) (wd b) = some (.bl (!decide (V.str (ws a) = V.str (ws b)))) := rfl
  rw [h]
  congr 3
  exact decide_eq_decide.mpr ⟨fun e => ws_inj (V.str.inj e), fun e => by rw [e]⟩
theorem eq_int {S : List Ob} (a b : Int) : opEq S (.int a) (.int b) = some (.bl (decide (a = b))) := by
  have h : opEq S (.int a) (.int b) = some (.bl (decide (V.int a = V.int b))) := rfl
  rw [h]
  congr 2
  exact decide_eq_decide.mpr ⟨fun e => V.int.inj e, fun e => by rw [e]⟩
theorem ne_int {S : List Ob} (a b : Int) : opNe S (.int a) (.int b) = some (.bl (!decide (a = b))) := by
  have h : opNe S (.int a) (.int b) = some (.bl (!decide (V.int a = V.int b))) := rfl
  rw [h]
  congr 3
  exact decide_eq_decide.mpr ⟨fun e => V.int.inj e, fun e => by rw [e]⟩
section
variable {E : SE} {S S1 S2 S3 : List Ob} {fv fo fk : DF D} {x : Str} {v d key : D} {k c : Nat} {fs : List (Str × D)} {kvs : List (List Key × D)} {K0 : List Key}
theorem sFldD_ev (hv : fv E S = some (v, S1)) (ho : fo E S1 = some (.ptr k, S2)) (hS : S2[k]? = some (.ins c fs)) (hl : fs.length < 1000) : sFldD x fo fv E S = some (.nx E, S2.set k (.ins c (putFD x v fs))) := by
  unfold sFldD
  rw [hv, Option.bind_some, ho, Option.bind_some]
  simp only [hS, hl, if_true]
theorem sDP_T (hv : fv E S = some (v, S1)) (ho : fo E S1 = some (.ptr k, S2)) (hk : fk E S2 = some (key, S3)) (hK : tkeyOf key = some K0) (hS : S3[k]? = some (.dT kvs)) (hz : kvs.length < sizeLine) : sDP fo fk fv E S = some (.nx E, S3.set k (.dT (putD kvs K0 v))) := by
  unfold sDP
  rw [hv, Option.bind_some, ho, Option.bind_some, hk, Option.bind_some]
  simp only [putO, hS, hK, hz, if_true, Option.map_some]
theorem fld_ptr {x : Str} (hS : S[k]? = some (.ins c fs)) : fldOf S (.ptr k) x = fs.lookup x := by
  unfold fldOf
  simp only [hS]
theorem end_at {α : Type} {S : List α} {o : α} {l : List α} : (S ++ o :: l)[S.length]? = some o := by
  rw [List.getElem?_append_right (Nat.le_refl _), Nat.sub_self]
  rfl
theorem end_at1 {α : Type} {S : List α} {o p : α} {l : List α} : (S ++ o :: p :: l)[S.length + 1]? = some p := by
  rw [List.getElem?_append_right (by omega), Nat.add_sub_cancel_left]
  rfl
theorem end_set {α : Type} {S : List α} {o o' : α} {l : List α} : (S ++ o :: l).set S.length o' = S ++ o' :: l := by
  rw [List.set_append_right _ _ (Nat.le_refl _), Nat.sub_self]
  rfl
theorem end_set1 {α : Type} {S : List α} {o p o' : α} {l : List α} : (S ++ o :: p :: l).set (S.length + 1) o' = S ++ o :: o' :: l := by
  rw [List.set_append_right _ _ (by omega), Nat.add_sub_cancel_left]
  rfl
theorem lst_ext {S T : List Ob} {d : D} {l : List D} (hd : lstOf S d = some l) : lstOf (S ++ T) d = some l := lst_pre (fun k hk => List.getElem?_append_left hk) hd
end
theorem in_order_ok {S : List Ob} {d : D} {W : List Row} (h : lstOf S d = some (W.map wd)) (hl : W.length ≤ 4000) (hr : ∀ w ∈ W, w.length ≤ 4000) : c_in_order [d] S = some (.lst ((ordR W).map wd), S) := by
  show ((lstOf S d).bind strsOf).bind _ = _
  rw [h, Option.bind_some, strsOf_wd, Option.bind_some, if_pos]
  · rw [← ordR_ws, map_wd]
  · refine ⟨by rw [List.length_map]; exact hl, fun r h => ?_⟩
    obtain ⟨w, hw, rfl⟩ := List.mem_map.mp h
    rw [ws_len]
    exact hr w hw
theorem lc2m_ev {E : SE} {S : List Ob} {α β : Type} {xs : List α} {f : α → D} {s : Src} {fi : DF Src} {tg : DFG} {vs vs1 : List Nat} {i1 : DF Src} {tg1 : DFG} {el : DF D} {E1 : α → SE} {s1 : α → Src} {ys : α → List β} {g : α → β → D} {v : α → β → D} {E2 : α → β → SE} (c : Nat)
    (hi : fi E S = some (s, S)) (hs : Gv s S (xs.map f)) (hg : ∀ x ∈ xs, tg (f x) (wipeE E vs) S = some (E1 x, S))
    (hi1 : ∀ x ∈ xs, i1 (E1 x) S = some (s1 x, S)) (hs1 : ∀ x ∈ xs, Gv (s1 x) S ((ys x).map (g x))) (hg1 : ∀ x ∈ xs, ∀ y ∈ ys x, tg1 (g x y) (wipeE (E1 x) vs1) S = some (E2 x y, S))
    (he : ∀ x ∈ xs, ∀ y ∈ ys x, el (E2 x y) S = some (v x y, S))
    (hc : ∀ x ∈ xs, (ys x).length ≤ c) (hz : xs.length * c ≤ sizeLine) :
    dLc2 vs vs1 fi tg dYes i1 tg1 dYes el E S = some (xs.flatMap fun x => (ys x).map (v x), S) := by
  have := lc2_ev (vs := vs) (vs1 := vs1) (t := dYes) (t1 := dYes) (b := fun _ => true) (b2 := fun _ _ => true) c hi hs hg (fun _ _ => rfl) (fun x hx _ => hi1 x hx) (fun x hx _ => hs1 x hx) (fun x hx _ => hg1 x hx) (fun _ _ _ _ _ => rfl) (fun x hx _ y hy _ => he x hx y hy) hc hz
  rw [this, List.filter_eq_self.mpr (fun _ _ => rfl)]
  have e : (fun x => ((ys x).filter fun _ => true).map (v x)) = fun x => (ys x).map (v x) := by
    funext x
    rw [List.filter_eq_self.mpr (fun _ _ => rfl)]
  rw [e]
end DL
set_option Elab.async false
set_option linter.all false
set_option maxRecDepth 100000
set_option maxHeartbeats 4000000
namespace DL
open PySem PySem.Spec PyProof.Rows L2
def g__law_pick : DFS := (sRet (dBin atD (dVar 1) (dCall 2 c__law_draw (dCons (dVar 0) (dCons (dCB fLen (dCons (dVar 1) dNil)) dNil)))))
def c__law_pick := runB 2 g__law_pick
theorem atI_in {xs : List D} {r : Int} (h0 : 0 ≤ r) (h1 : r < xs.length) : ∃ x, atI xs r = some x ∧ x ∈ xs := by
  unfold atI ixN
  rw [if_pos h0, if_pos h1, Option.bind_some, List.getElem?_eq_getElem (by omega)]
  exact ⟨_, rfl, List.getElem_mem _⟩
theorem pick_ok {S : List Ob} {p n : Nat} {xs : List D} (h : Pu S p n) (hn : n < 1000000) (hx : 0 < xs.length) (hx2 : xs.length < 1000000) : ∃ x S', c__law_pick [.ptr p, .lst xs] S = some (x, S') ∧ x ∈ xs ∧ Pu S' p (n + 1) ∧ But p S S' := by
  obtain ⟨r, S', h1, h2, h3, h4, h5⟩ := draw_ok (m := (xs.length : Nat)) h (by omega) (by omega) hn
  obtain ⟨x, x1, x2⟩ := atI_in h2 h3
  refine ⟨x, S', runB_rt ?_, x2, h4, h5⟩
  unfold g__law_pick
  have hl : fLen S [.lst xs] = some (.int (xs.length : Nat)) := len_lst rfl
  exact sRet_ev (dBin_ev (dVar_ev rfl) (dCall_ev (dCons_ev (dVar_ev rfl) (dCons_ev (dCB_ev (dCons_ev (dVar_ev rfl) dNil_ev) hl) dNil_ev)) rfl h1) (atD_lst x1))
end DL
set_option Elab.async false
set_option linter.all false
set_option maxRecDepth 100000
set_option maxHeartbeats 4000000
namespace DL
open PySem PySem.Spec PyProof.Rows L2
def c_are_words := runB 4 g_are_words
def g_Code_init : DFS := (sSeq (sIf (dNot (dTest (dCall 1 c_are_words (dCons (dVar 1) dNil)))) sNever sNil)
    (sSeq (sFldD "rows" (dVar 0) (dCB fTuple (dCons (dCall 1 c_in_order (dCons (dVar 1) dNil)) dNil)))
    (sSeq (sFldD "heads" (dVar 0) (dCB fTupleX (dCons (dCall 1 c_in_order (dCons (dTree (dLc2 [4, 5] [5] (iLst (dVar 1)) (gN 4) dYes (iLst (dCall 1 c_beginnings (dCons (dVar 4) dNil))) (gN 5) dYes (dVar 5))) dNil)) dNil)))
    (sSeq (sFldD "ways" (dVar 0) dNewT)
    (sV [2, 3] (sFor (iTu (dFld "heads" (dVar 0))) (gN 2) (sW [2, 3] (sV [3] (sFor (iSt (dC (.str "01"))) (gN 3) (sW [3] (sIf (dTest (dBin opIn (dBin opAdd (dVar 2) (dVar 3)) (dFld "rows" (dVar 0)))) (sDP (dFld "ways" (dVar 0)) (dTup (dCons (dVar 2) (dCons (dVar 3) dNil))) (dC (.str ""))) (sIf (dTest (dBin opIn (dBin opAdd (dVar 2) (dVar 3)) (dFld "heads" (dVar 0)))) (sDP (dFld "ways" (dVar 0)) (dTup (dCons (dVar 2) (dCons (dVar 3) dNil))) (dBin opAdd (dVar 2) (dVar 3))) sNil))))))))))))
structure CodeOk (W : List Row) : Prop where
  g : GoodW W
  h : (headsW W).length ≤ 4000
theorem are_words_ok {S : List Ob} {d : D} {W : List Row} (h : lstOf S d = some (W.map wd)) (G : GoodW W) : c_are_words [d] S = some (.bl true, S) := are_words_run h G
theorem begs_len (w : Row) : (begs w).length = w.length := by simp [begs]
def stpB (W : List Row) (s : Row) (acc : List (List Key × D)) (b : Bool) : List (List Key × D) := match nextW W s b with
  | some n => putD acc (keyW s b) (wd n)
  | none => acc
theorem stpB_fold (W : List Row) (s : Row) (acc : List (List Key × D)) : [false, true].foldl (stpB W s) acc = (entW W s).foldl (fun a p => putD a p.1 p.2) acc := by
  unfold entW stpB
  cases h0 : nextW W s false <;> cases h1 : nextW W s true <;> simp [h0, h1]
theorem ent_fold (W : List Row) : ∀ (hs : List Row) (acc : List (List Key × D)), hs.foldl (fun a s => (entW W s).foldl (fun a p => putD a p.1 p.2) a) acc = (hs.flatMap (entW W)).foldl (fun a p => putD a p.1 p.2) acc
  | [], acc => rfl
  | s :: hs, acc => by
    rw [List.foldl_cons, List.flatMap_cons, List.foldl_append]
    exact ent_fold W hs _
theorem init_run {S : List Ob} {d : D} {W : List Row} (hd : lstOf S d = some (W.map wd)) (G : CodeOk W) :
    runB 6 g_Code_init [.ptr S.length, d] (S ++ [.ins 0 []]) = some (.non, S ++ [.ins 0 [("rows", .tup ((ordR W).map wd)), ("heads", .ktp ((ordR (headsW W)).map wd)), ("ways", .ptr (S.length + 1))], .dT (waysW W)]) := by
  have G1 := G.g
  have hd1 : ∀ T, lstOf (S ++ T) d = some (W.map wd) := fun T => lst_ext hd
  have many : W.length ≤ 4000 := Nat.le_trans G1.many (by decide)
  have hlen : ∀ w ∈ W, w.length ≤ 4000 := fun w hw => Nat.le_trans (G1.len w hw) (by decide)
  have heads_len : ∀ s ∈ headsW W, s.length ≤ 4000 := fun s hs => by
    obtain ⟨w, hw, i, hi, rfl⟩ := mem_headsW.mp hs
    rw [List.length_take]
    have := hlen w hw
    omega
  have bgs : ∀ (T : List Ob) w, w ∈ W → c_beginnings [wd w] T = some (.lst ((begs w).map wd), T) := fun T w hw => beginnings_ok w (Nat.le_trans (hlen w hw) (by decide))
  -- heads
  have hl : dLc2 [4, 5] [5] (iLst (dVar 1)) (gN 4) dYes (iLst (dCall 1 c_beginnings (dCons (dVar 4) dNil))) (gN 5) dYes (dVar 5) [some (.ptr S.length), some d, none, none, none, none] (S ++ [.ins 0 [("rows", .tup ((ordR W).map wd))]]) = some ((headsW W).map wd, S ++ [.ins 0 [("rows", .tup ((ordR W).map wd))]]) := by
    have := lc2m_ev (vs := [4, 5]) (vs1 := [5]) (xs := W) (f := wd) (fi := iLst (dVar 1)) (tg := gN 4) (i1 := iLst (dCall 1 c_beginnings (dCons (dVar 4) dNil))) (tg1 := gN 5) (el := dVar 5) (E := [some (.ptr S.length), some d, none, none, none, none]) (S := S ++ [.ins 0 [("rows", .tup ((ordR W).map wd))]]) (ys := begs) (g := fun _ => wd) 2000
      (live_ev (dVar_ev rfl) (hd1 _)) (gv_live (hd1 _)) (fun w _ => gN_ev) (fun w hw => live_ev (dCall_ev (dCons_ev (dVar_ev rfl) dNil_ev) rfl (bgs _ w hw)) rfl) (fun w _ => gv_lst) (fun w _ s _ => gN_ev) (fun w _ s _ => dVar_ev rfl) (fun w hw => by rw [begs_len]; exact G1.len w hw)
      (Nat.le_trans (Nat.mul_le_mul_right 2000 G1.many) (by decide))
    rw [this]
    simp only [headsW, List.map_flatMap]
  -- the loops
  have nd : (ordR (headsW W)).Nodup := nodup_ordR _
  have few : (ordR (headsW W)).length ≤ 4000 := by
    have h1 : (ordR (headsW W)).length = ((ordR (headsW W)).map ws).length := by rw [List.length_map]
    rw [h1, ordR_ws]
    have : (orderS ((headsW W).map ws)).length ≤ ((headsW W).map ws).length := by
      have n1 : (orderS ((headsW W).map ws)).Nodup := (orderS_lt _).imp ltS_ne
      exact ((List.perm_ext_iff_of_nodup n1 (nodup_ded _)).mpr fun a => by rw [mem_orderS, mem_ded]).length_eq ▸ ded_len _
    rw [List.length_map] at this
    exact Nat.le_trans this G.h
  let rS : List (List Key × D) → List Ob := fun acc => S ++ [.ins 0 [("rows", .tup ((ordR W).map wd)), ("heads", .ktp ((ordR (headsW W)).map wd)), ("ways", .ptr (S.length + 1))], .dT acc]
  let E0 : SE := [some (.ptr S.length), some d, none, none, none, none]
  have f_rows : ∀ acc (x : D) (y : Option D), dFld "rows" (dVar 0) [some (.ptr S.length), some d, some x, y, none, none] (rS acc) = some (.tup ((ordR W).map wd), rS acc) := fun acc x y => dFld_ev (dVar_ev rfl) ((fld_ptr end_at).trans rfl)
  have f_heads : ∀ acc (x : Option D) (y : Option D), dFld "heads" (dVar 0) [some (.ptr S.length), some d, x, y, none, none] (rS acc) = some (.ktp ((ordR (headsW W)).map wd), rS acc) := fun acc x y => dFld_ev (dVar_ev rfl) ((fld_ptr end_at).trans rfl)
  have f_ways : ∀ acc (x : D) (y : D), dFld "ways" (dVar 0) [some (.ptr S.length), some d, some x, some y, none, none] (rS acc) = some (.ptr (S.length + 1), rS acc) := fun acc x y => dFld_ev (dVar_ev rfl) ((fld_ptr end_at).trans rfl)
  have turn : ∀ (s : Row) (b : Bool) (acc : List (List Key × D)), s.length ≤ 4000 → acc.length < 10000 →
      sIf (dTest (dBin opIn (dBin opAdd (dVar 2) (dVar 3)) (dFld "rows" (dVar 0)))) (sDP (dFld "ways" (dVar 0)) (dTup (dCons (dVar 2) (dCons (dVar 3) dNil))) (dC (.str ""))) (sIf (dTest (dBin opIn (dBin opAdd (dVar 2) (dVar 3)) (dFld "heads" (dVar 0)))) (sDP (dFld "ways" (dVar 0)) (dTup (dCons (dVar 2) (dCons (dVar 3) dNil))) (dBin opAdd (dVar 2) (dVar 3))) sNil)
        [some (.ptr S.length), some d, some (wd s), some (wd [b]), none, none] (rS acc) = some (.nx [some (.ptr S.length), some d, some (wd s), some (wd [b]), none, none], rS (stpB W s acc b)) := by
    intro s b acc hs ha
    have add : dBin opAdd (dVar 2) (dVar 3) [some (.ptr S.length), some d, some (wd s), some (wd [b]), none, none] (rS acc) = some (wd (s ++ [b]), rS acc) := dBin_ev (dVar_ev rfl) (dVar_ev rfl) (add_wd (by simp; omega))
    have key : dTup (dCons (dVar 2) (dCons (dVar 3) dNil)) [some (.ptr S.length), some d, some (wd s), some (wd [b]), none, none] (rS acc) = some (.tup [wd s, wd [b]], rS acc) := dTup_ev (dCons_ev (dVar_ev rfl) (dCons_ev (dVar_ev rfl) dNil_ev)) (lenOk (Nat.le_of_ble_eq_true rfl))
    have small : acc.length < sizeLine := Nat.lt_of_lt_of_le ha (by decide)
    have ins : ∀ n fv, fv [some (.ptr S.length), some d, some (wd s), some (wd [b]), none, none] (rS acc) = some (wd n, rS acc) →
        sDP (dFld "ways" (dVar 0)) (dTup (dCons (dVar 2) (dCons (dVar 3) dNil))) fv [some (.ptr S.length), some d, some (wd s), some (wd [b]), none, none] (rS acc) = some (.nx [some (.ptr S.length), some d, some (wd s), some (wd [b]), none, none], rS (putD acc (keyW s b) (wd n))) := by
      intro n fv hv
      have := sDP_T hv (f_ways acc (wd s) (wd [b])) key (key_wd s b) (kvs := acc) end_at1 small
      rw [this, end_set1]
    unfold stpB nextW
    refine sIf_ev (dTest_ev (dBin_ev add (f_rows _ _ _) (in_tup _))) ?_
    by_cases h1 : s ++ [b] ∈ W
    · rw [decide_eq_true (mem_ordR.mpr h1)]
      simp only [if_pos h1]
      refine ifK_t (ins [] _ ?_)
      rw [← wd_nil]
      exact dC_ev
    · rw [decide_eq_false (fun h => h1 (mem_ordR.mp h))]
      simp only [if_neg h1]
      refine ifK_f (sIf_ev (dTest_ev (dBin_ev add (f_heads _ _ _) (in_ktp _))) ?_)
      by_cases h2 : s ++ [b] ∈ headsW W
      · rw [decide_eq_true (mem_ordR.mpr h2)]
        simp only [if_pos h2]
        exact ifK_t (ins _ _ add)
      · rw [decide_eq_false (fun h => h2 (mem_ordR.mp h))]
        simp only [if_neg h2]
        exact ifK_f sNil_ev
  have stp_len : ∀ s acc b, (stpB W s acc b).length ≤ acc.length + 1 := fun s acc b => by
    unfold stpB
    split
    · exact putD_len _ _ _
    · omega
  have loops := for_fold (xs := ordR (headsW W)) (f := wd) (fi := iTu (dFld "heads" (dVar 0))) (tg := gN 2) (E := E0) (S := rS []) (s := .fix ((ordR (headsW W)).map wd))
    (b := sW [2, 3] (sV [3] (sFor (iSt (dC (.str "01"))) (gN 3) (sW [3] (sIf (dTest (dBin opIn (dBin opAdd (dVar 2) (dVar 3)) (dFld "rows" (dVar 0)))) (sDP (dFld "ways" (dVar 0)) (dTup (dCons (dVar 2) (dCons (dVar 3) dNil))) (dC (.str ""))) (sIf (dTest (dBin opIn (dBin opAdd (dVar 2) (dVar 3)) (dFld "heads" (dVar 0)))) (sDP (dFld "ways" (dVar 0)) (dTup (dCons (dVar 2) (dCons (dVar 3) dNil))) (dBin opAdd (dVar 2) (dVar 3))) sNil))))))
    (fun _ => E0) rS (fun acc s => [false, true].foldl (stpB W s) acc) (fun i acc => acc.length ≤ 2 * i) (st0 := []) (iTu_ev (f_heads _ _ _) rfl) rfl (Nat.le_refl _) (fun i st _ => gv_fix)
    (fun i s acc ha hx => by
      have hi : i < 4000 := Nat.lt_of_lt_of_le (List.getElem?_eq_some_iff.mp hx).1 few
      have hs : s.length ≤ 4000 := heads_len s (mem_ordR.mp (List.mem_of_getElem? hx))
      obtain ⟨l1, l2⟩ := for_fold (xs := [false, true]) (f := fun b => wd [b]) (fi := iSt (dC (.str "01"))) (tg := gN 3) (E := [some (.ptr S.length), some d, some (wd s), none, none, none]) (S := rS acc) (s := .fix (signsOf "01"))
        (b := sW [3] (sIf (dTest (dBin opIn (dBin opAdd (dVar 2) (dVar 3)) (dFld "rows" (dVar 0)))) (sDP (dFld "ways" (dVar 0)) (dTup (dCons (dVar 2) (dCons (dVar 3) dNil))) (dC (.str ""))) (sIf (dTest (dBin opIn (dBin opAdd (dVar 2) (dVar 3)) (dFld "heads" (dVar 0)))) (sDP (dFld "ways" (dVar 0)) (dTup (dCons (dVar 2) (dCons (dVar 3) dNil))) (dBin opAdd (dVar 2) (dVar 3))) sNil)))
        (fun _ => [some (.ptr S.length), some d, some (wd s), none, none, none]) rS (stpB W s) (fun j a => a.length ≤ 2 * i + j) (st0 := acc) (iSt_ev dC_ev) rfl ha (fun _ _ _ => by rw [s_01]; exact gv_fix)
        (fun j b a ha hb => ⟨⟨_, _, gN_ev, sW_ev (turn s b a hs (by
          have := (List.getElem?_eq_some_iff.mp hb).1
          simp at this
          omega))⟩, Nat.le_trans (stp_len s a b) (by omega)⟩)
      exact ⟨⟨_, _, gN_ev, sW_ev (E1 := [some (.ptr S.length), some d, some (wd s), none, none, none]) (sV_ev l1)⟩, by simpa [Nat.mul_succ] using l2⟩)
  have e : (ordR (headsW W)).foldl (fun acc s => [false, true].foldl (stpB W s) acc) [] = waysW W := by
    simp only [stpB_fold]
    rw [ent_fold, putD_fold _ _ (by simpa using waysW_nd nd)]
    rfl
  rw [e] at loops
  refine runB_nx (E := E0) ?_
  unfold g_Code_init
  refine sSeq_ev (sIf_ev (dNot_ev (b := true) (dTest_ev (dCall_ev (dCons_ev (dVar_ev rfl) dNil_ev) rfl (are_words_ok (hd1 _) G1)))) (ifK_f sNil_ev)) (sqK_nx ?_)
  refine sSeq_ev (sFldD_ev (dCB_ev (dCons_ev (dCall_ev (dCons_ev (dVar_ev rfl) dNil_ev) rfl (in_order_ok (hd1 _) many hlen)) dNil_ev) rfl) (dVar_ev rfl) end_at (by simp)) (sqK_nx ?_)
  rw [end_set]
  refine sSeq_ev (sFldD_ev (dCB_ev (dCons_ev (dCall_ev (dCons_ev (dTree_ev hl) dNil_ev) rfl (in_order_ok rfl G.h heads_len)) dNil_ev) rfl) (dVar_ev rfl) end_at (by simp)) (sqK_nx ?_)
  rw [end_set]
  refine sSeq_ev (sFldD_ev (v := .ptr (S.length + 1)) (S1 := S ++ [.ins 0 [("rows", .tup ((ordR W).map wd)), ("heads", .ktp ((ordR (headsW W)).map wd))], .dT []]) ?_ (dVar_ev rfl) end_at (by simp)) (sqK_nx ?_)
  · show some (D.ptr _, _) = _
    rw [List.length_append, List.append_assoc]
    rfl
  rw [end_set]
  exact sV_ev loops.1
theorem codeW_obj (W : List Row) : codeW W = .obj 0 [("rows", .tup ((ordR W).map wd)), ("heads", .ktp ((ordR (headsW W)).map wd)), ("ways", .dT (waysW W))] := by
  unfold codeW codeD
  rw [map_wd, map_wd]
end DL
set_option Elab.async false
set_option linter.all false
set_option maxRecDepth 100000
set_option maxHeartbeats 2000000
namespace DL
open PySem PySem.Spec PyProof.Rows L2
def Wp {α : Type} (r : Option (α × List Ob)) (Q : α → List Ob → Prop) : Prop := ∃ a S', r = some (a, S') ∧ Q a S'
section
variable {α β : Type}
theorem Wp.of {r : Option (α × List Ob)} {Q : α → List Ob → Prop} {a : α} {S' : List Ob} (h : r = some (a, S')) (q : Q a S') : Wp r Q := ⟨a, S', h, q⟩
theorem wp_id {r : Option (α × List Ob)} {Q : α → List Ob → Prop} (h : Wp r Q) : Wp r Q := h
theorem Wp.imp {r : Option (α × List Ob)} {Q R : α → List Ob → Prop} (h : Wp r Q) (i : ∀ a S, Q a S → R a S) : Wp r R := let ⟨a, S, e, q⟩ := h; ⟨a, S, e, i a S q⟩
theorem Wp.bind {r : Option (α × List Ob)} {k : α × List Ob → Option (β × List Ob)} {Q : β → List Ob → Prop} (h : Wp r fun a S => Wp (k (a, S)) Q) : Wp (r.bind k) Q := by
  obtain ⟨a, S, e, b, S', e2, q⟩ := h
  exact ⟨b, S', by rw [e, Option.bind_some, e2], q⟩
theorem Wp.map {r : Option (α × List Ob)} {g : α × List Ob → β × List Ob} {Q : β → List Ob → Prop} (h : Wp r fun a S => Q (g (a, S)).1 (g (a, S)).2) : Wp (r.map g) Q := by
  obtain ⟨a, S, e, q⟩ := h
  exact ⟨_, _, by rw [e]; rfl, q⟩
theorem Wp.opt {o : Option α} {g : α → β × List Ob} {Q : β → List Ob → Prop} (h : ∃ d, o = some d ∧ Q (g d).1 (g d).2) : Wp (o.map g) Q := by
  obtain ⟨d, rfl, q⟩ := h
  exact ⟨_, _, rfl, q⟩
end
section
variable {α : Type} {E : SE} {S : List Ob} {f fa fb fo fi fk fx fd : DF D} {c c1 c2 : DF Bool} {x y z d : D} {xs ys : List D} {b b1 b2 : Bool} {g : List Ob → D → D → Option D} {fs : DF (List D)} {i j k n : Nat} {p q : DFS} {Q : D → List Ob → Prop} {Qb : Bool → List Ob → Prop} {Ql : List D → List Ob → Prop} {Qo : Out → List Ob → Prop} {Qs : Src → List Ob → Prop} {Qi : Option Int → List Ob → Prop} {Qe : SE → List Ob → Prop}
theorem w_var (h : E[i]? = some (some d)) (q : Q d S) : Wp (dVar i E S) Q := .of (dVar_ev h) q
theorem w_c (q : Q d S) : Wp (dC d E S) Q := .of rfl q
theorem w_bin (h : Wp (fa E S) fun x S1 => Wp (fb E S1) fun y S2 => ∃ d, g S2 x y = some d ∧ Q d S2) : Wp (dBin g fa fb E S) Q :=
  Wp.bind (h.imp fun x S1 h1 => Wp.bind (h1.imp fun y S2 h2 => Wp.opt h2))
theorem w_test (h : Wp (f E S) fun d S1 => ∃ b, d = .bl b ∧ Qb b S1) : Wp (dTest f E S) Qb := Wp.bind (h.imp fun d S1 ⟨b, e, q⟩ => by subst e; exact .of rfl q)
theorem w_not (h : Wp (c E S) fun b S1 => Qb (!b) S1) : Wp (dNot c E S) Qb := Wp.map h
def Br (b : Bool) (P R : Prop) : Prop := (b = true → P) ∧ (b = false → R)
theorem br_t {P R : Prop} (h : P) : Br true P R := ⟨fun _ => h, fun z => nomatch z⟩
theorem br_f {P R : Prop} (h : R) : Br false P R := ⟨fun z => (nomatch z), fun _ => h⟩
theorem br {A P R : Prop} [Decidable A] (h1 : A → P) (h2 : ¬ A → R) : Br (decide A) P R := ⟨fun z => h1 (of_decide_eq_true z), fun z => h2 (of_decide_eq_false z)⟩
theorem br_yes {A P R : Prop} [Decidable A] (a : A) (h1 : P) : Br (decide A) P R := br (fun _ => h1) fun n => absurd a n
theorem br_no {A P R : Prop} [Decidable A] (a : ¬ A) (h1 : R) : Br (decide A) P R := br (fun n => absurd n a) fun _ => h1
theorem br_n {P R : Prop} {b : Bool} (h : Br b R P) : Br (!b) P R := by
  cases b
  · exact br_t (h.2 rfl)
  · exact br_f (h.1 rfl)
theorem w_if (h : Wp (c E S) fun b S1 => Br b (Wp (p E S1) Qo) (Wp (q E S1) Qo)) : Wp (sIf c p q E S) Qo := Wp.bind (h.imp fun b S1 hb => by
  cases b
  · exact hb.2 rfl
  · exact hb.1 rfl)
theorem w_dif (h : Wp (c E S) fun b S1 => Br b (Wp (fa E S1) Q) (Wp (fb E S1) Q)) : Wp (dIf c fa fb E S) Q := Wp.bind (h.imp fun b S1 hb => by
  cases b
  · exact hb.2 rfl
  · exact hb.1 rfl)
theorem w_and (h : Wp (c1 E S) fun b S1 => Br b (Wp (c2 E S1) Qb) (Qb false S1)) : Wp (dAnd c1 c2 E S) Qb := Wp.bind (h.imp fun b S1 hb => by
  cases b
  · exact .of rfl (hb.2 rfl)
  · exact hb.1 rfl)
theorem w_or (h : Wp (c1 E S) fun b S1 => Br b (Qb true S1) (Wp (c2 E S1) Qb)) : Wp (dOr c1 c2 E S) Qb := Wp.bind (h.imp fun b S1 hb => by
  cases b
  · exact hb.2 rfl
  · exact .of rfl (hb.1 rfl))
theorem w_andV (h : Wp (fa E S) fun d S1 => ∃ b, d = .bl b ∧ Br b (Wp (fb E S1) Q) (Q (.bl false) S1)) : Wp (dAndV fa fb E S) Q := Wp.bind (h.imp fun d S1 ⟨b, e, hb⟩ => by
  subst e
  cases b
  · exact .of rfl (hb.2 rfl)
  · exact hb.1 rfl)
theorem w_orV (h : Wp (fa E S) fun d S1 => ∃ b, d = .bl b ∧ Br b (Q (.bl true) S1) (Wp (fb E S1) Q)) : Wp (dOrV fa fb E S) Q := Wp.bind (h.imp fun d S1 ⟨b, e, hb⟩ => by
  subst e
  cases b
  · exact hb.2 rfl
  · exact .of rfl (hb.1 rfl))
theorem w_notV (h : Wp (fa E S) fun d S1 => ∃ b, d = .bl b ∧ Q (.bl (!b)) S1) : Wp (dNotV fa E S) Q := Wp.bind (h.imp fun d S1 ⟨b, e, hb⟩ => by
  subst e
  exact .of rfl hb)
theorem w_nil (q : Ql [] S) : Wp (dNil E S) Ql := .of rfl q
theorem w_cons (h : Wp (f E S) fun x S1 => Wp (fs E S1) fun xs S2 => Ql (x :: xs) S2) : Wp (dCons f fs E S) Ql := Wp.bind (h.imp fun x S1 h1 => Wp.map h1)
theorem w_few (h : Wp (fs E S) fun xs S1 => xs.length ≤ sizeLine ∧ Ql xs S1) : Wp (few fs E S) Ql := Wp.bind (h.imp fun xs S1 ⟨h1, h2⟩ => by rw [if_pos h1]; exact .of rfl h2)
theorem w_tree (h : Wp (fs E S) fun xs S1 => Q (.lst xs) S1) : Wp (dTree fs E S) Q := Wp.map h
theorem w_new (h : Wp (fs E S) fun xs S1 => Q (.ptr S1.length) (S1 ++ [.lst xs])) : Wp (dNew fs E S) Q := Wp.map h
theorem w_tup (h : Wp (fs E S) fun xs S1 => xs.length ≤ sizeLine ∧ Q (.tup xs) S1) : Wp (dTup fs E S) Q := Wp.map (w_few h)
theorem w_cb {gg : List Ob → List D → Option α} {Qa : α → List Ob → Prop} (h : Wp (fs E S) fun xs S1 => ∃ d, gg S1 xs = some d ∧ Qa d S1) : Wp (dCB gg fs E S) Qa := Wp.bind (h.imp fun xs S1 h1 => Wp.opt h1)
theorem w_call {sem : List D → List Ob → Option (D × List Ob)} (h : Wp (fs E S) fun xs S1 => xs.length = n ∧ Wp (sem xs S1) Q) : Wp (dCall n sem fs E S) Q := Wp.bind (h.imp fun xs S1 ⟨h1, h2⟩ => by rw [if_pos h1]; exact h2)
theorem w_isi {gg : Tg → Option Bool} (h : Wp (f E S) fun d S1 => ∃ b, (tgOf S1 d).bind gg = some b ∧ Q (.bl b) S1) : Wp (dIsi gg f E S) Q := Wp.bind (h.imp fun d S1 h1 => Wp.opt h1)
theorem w_fld {m : Str} (h : Wp (f E S) fun d S1 => ∃ v, fldOf S1 d m = some v ∧ Q v S1) : Wp (dFld m f E S) Q := Wp.bind (h.imp fun d S1 h1 => Wp.opt h1)
theorem w_nopart (q : Qi none S) : Wp (dNoPart E S) Qi := .of rfl q
theorem w_part (h : Wp (f E S) fun d S1 => ∃ m, d = .int m ∧ Qi (some m) S1) : Wp (dPart f E S) Qi := Wp.bind (h.imp fun d S1 ⟨m, e, q⟩ => by subst e; exact .of rfl q)
theorem w_slL {fl fh : DF (Option Int)} (h : Wp (f E S) fun d S1 => Wp (fl E S1) fun l S2 => Wp (fh E S2) fun r S3 => ∃ xs, lstOf S3 d = some xs ∧ Ql (cutL xs l r) S3) : Wp (dSlL f fl fh E S) Ql :=
  Wp.bind (h.imp fun d S1 h1 => Wp.bind (h1.imp fun l S2 h2 => Wp.bind (h2.imp fun r S3 h3 => Wp.opt h3)))
theorem w_slS {fl fh : DF (Option Int)} (h : Wp (f E S) fun d S1 => Wp (fl E S1) fun l S2 => Wp (fh E S2) fun r S3 => ∃ z, d = .str z ∧ z.length ≤ sizeLine ∧ Q (.str (cutS z l r)) S3) : Wp (dSlS f fl fh E S) Q :=
  Wp.bind (h.imp fun d S1 h1 => Wp.bind (h1.imp fun l S2 h2 => Wp.bind (h2.imp fun r S3 ⟨z, e, hz, q⟩ => by subst e; exact .of (if_pos hz) q)))
theorem w_dget (h : Wp (fd E S) fun d S1 => Wp (fk E S1) fun k S2 => ∃ v, dictGet S2 d k = some (some v) ∧ Q v S2) : Wp (dDGet fd fk E S) Q := Wp.bind (h.imp fun d S1 h1 => Wp.bind (h1.imp fun k S2 ⟨v, e, q⟩ => by
  simp only [e]
  exact .of rfl q))
theorem w_newK (q : Q (.ptr S.length) (S ++ [.dK []])) : Wp (dNewK E S) Q := .of rfl q
theorem w_newT (q : Q (.ptr S.length) (S ++ [.dT []])) : Wp (dNewT E S) Q := .of rfl q
theorem w_app (h : Wp (fo E S) fun o S1 => Wp (fx E S1) fun d S2 => ∃ k xs, o = .ptr k ∧ S2[k]? = some (.lst xs) ∧ xs.length < sizeLine ∧ (∃ x0, S1[k]? = some (.lst x0)) ∧ Q .non (S2.set k (.lst (xs ++ [d])))) : Wp (dApp fo fx E S) Q := by
  obtain ⟨o, S1, e1, d, S2, e2, k, xs, rfl, h1, h2, ⟨x0, h3⟩, q⟩ := h
  refine .of ?_ q
  unfold dApp
  rw [e1, Option.bind_some, e2, Option.bind_some]
  simp only [h1, h2, h3, if_true]
theorem w_lst0 {gg : List D → Option (D × List D)} (h : Wp (fo E S) fun o S1 => ∃ k xs d ys, o = .ptr k ∧ S1[k]? = some (.lst xs) ∧ gg xs = some (d, ys) ∧ Q d (S1.set k (.lst ys))) : Wp (dLst0 gg fo E S) Q := by
  obtain ⟨o, S1, e1, k, xs, d, ys, rfl, h1, h2, q⟩ := h
  refine .of ?_ q
  unfold dLst0
  rw [e1, Option.bind_some]
  simp only [h1, h2, Option.map_some]
theorem w_prop {sem : List D → List Ob → Option (D × List Ob)} (h : Wp (f E S) fun d S1 => tgOf S1 d = some (.o n) ∧ Wp (sem [d] S1) Q) : Wp (dProp n sem f E S) Q := Wp.bind (h.imp fun d S1 ⟨e, h1⟩ => by
  simp only [e, if_true]
  exact h1)
theorem w_own {sem : List D → List Ob → Option (D × List Ob)} {neg : Bool} (h : Wp (fa E S) fun x S1 => Wp (fb E S1) fun y S2 => tgOf S2 x = some (.o n) ∧ (∃ t, tgOf S2 y = some t ∧ okT t = true) ∧ Wp (sem [x, y] S2) fun d S3 => ∃ b, d = .bl b ∧ Q (.bl (if neg then !b else b)) S3) : Wp (dOwn n sem neg fa fb E S) Q := by
  obtain ⟨x, S1, e1, y, S2, e2, h1, ⟨t, h2, h4⟩, d, S3, e3, b, rfl, q⟩ := h
  refine .of (a := .bl (if neg then !b else b)) (S' := S3) ?_ q
  unfold dOwn
  rw [e1, Option.bind_some, e2, Option.bind_some]
  simp only [h1, h2]
  simp [h4, e3]
theorem w_ownE {sem : List D → List Ob → Option (D × List Ob)} (h : Wp (fa E S) fun x S1 => Wp (fb E S1) fun y S2 => tgOf S2 x = some (.o n) ∧ (∃ t, tgOf S2 y = some t ∧ okT t = true) ∧ Wp (sem [x, y] S2) fun d S3 => ∃ b, d = .bl b ∧ Q (.bl b) S3) : Wp (dOwn n sem false fa fb E S) Q := w_own h
theorem w_ownN {sem : List D → List Ob → Option (D × List Ob)} (h : Wp (fa E S) fun x S1 => Wp (fb E S1) fun y S2 => tgOf S2 x = some (.o n) ∧ (∃ t, tgOf S2 y = some t ∧ okT t = true) ∧ Wp (sem [x, y] S2) fun d S3 => ∃ b, d = .bl b ∧ Q (.bl (!b)) S3) : Wp (dOwn n sem true fa fb E S) Q := w_own h
theorem w_repN (h : Wp (fa E S) fun x S1 => Wp (fb E S1) fun y S2 => ∃ xs m, lstOf S2 x = some xs ∧ y = .int m ∧ dRepN (dC x) (dC y) E S2 = some ((List.replicate m.toNat xs).flatten, S2) ∧ Ql (List.replicate m.toNat xs).flatten S2) : Wp (dRepN fa fb E S) Ql := by
  obtain ⟨x, S1, e1, y, S2, e2, xs, m, h1, rfl, h3, q⟩ := h
  refine .of ?_ q
  unfold dRepN at h3 ⊢
  rw [e1, Option.bind_some, e2, Option.bind_some]
  exact h3
theorem w_catN (h : Wp (fa E S) fun x S1 => Wp (fb E S1) fun y S2 => ∃ xs ys, lstOf S2 x = some xs ∧ lstOf S2 y = some ys ∧ xs.length + ys.length ≤ sizeLine ∧ Ql (xs ++ ys) S2) : Wp (dCatN fa fb E S) Ql := by
  obtain ⟨x, S1, e1, y, S2, e2, xs, ys, h1, h2, h3, q⟩ := h
  refine .of ?_ q
  unfold dCatN
  rw [e1, Option.bind_some, e2, Option.bind_some]
  simp only [h1, h2, h3, if_true]
theorem w_get1 (h : Wp (fd E S) fun d S1 => isDict S1 d = true ∧ Wp (fk E S1) fun k S2 => ∃ o, dictGet S2 d k = some o ∧ Q (o.getD .non) S2) : Wp (dGet1 fd fk E S) Q := Wp.bind (h.imp fun d S1 ⟨e, h1⟩ => by
  rw [if_pos e]
  exact Wp.bind (h1.imp fun k S2 h2 => Wp.opt h2))
theorem w_get2 (h : Wp (fd E S) fun d S1 => isDict S1 d = true ∧ Wp (fk E S1) fun k S2 => Wp (fx E S2) fun x S3 => ∃ o, dictGet S3 d k = some o ∧ Q (o.getD x) S3) : Wp (dGet2 fd fk fx E S) Q := Wp.bind (h.imp fun d S1 ⟨e, h1⟩ => by
  rw [if_pos e]
  exact Wp.bind (h1.imp fun k S2 h2 => Wp.bind (h2.imp fun x S3 h3 => Wp.opt h3)))
theorem w_sNil (q : Qo (.nx E) S) : Wp (sNil E S) Qo := .of rfl q
def Nxt (q : DFS) (Qo : Out → List Ob → Prop) : Out → List Ob → Prop
  | .nx E, S => Wp (q E S) Qo
  | o, S => Qo o S
theorem nxt_nx {E : SE} {S : List Ob} (h : Wp (q E S) Qo) : Nxt q Qo (.nx E) S := h
theorem nxt_rt {S : List Ob} (h : Qo (.rt d) S) : Nxt q Qo (.rt d) S := h
theorem w_seq (h : Wp (p E S) (Nxt q Qo)) : Wp (sSeq p q E S) Qo := by
  obtain ⟨o, S1, e, h⟩ := h
  unfold sSeq
  cases o with
  | nx E1 =>
    obtain ⟨o2, S2, e2, h2⟩ := h
    exact .of (by rw [e, Option.bind_some]; exact e2) h2
  | rt d => exact .of (by rw [e, Option.bind_some]) h
  | bk E1 => exact .of (by rw [e, Option.bind_some]) h
  | ct E1 => exact .of (by rw [e, Option.bind_some]) h
theorem w_asg (h : Wp (f E S) fun d S1 => Qo (.nx (E.set i (some d))) S1) : Wp (sAsg i f E S) Qo := Wp.map h
theorem w_ret (h : Wp (f E S) fun d S1 => Qo (.rt d) S1) : Wp (sRet f E S) Qo := Wp.map h
theorem w_retN (q : Qo (.rt .non) S) : Wp (sRetN E S) Qo := .of rfl q
theorem w_drop (h : Wp (f E S) fun d S1 => Qo (.nx E) S1) : Wp (sDrop f E S) Qo := Wp.map h
theorem w_aug {gg : List Ob → D → D → Option D} (h : E[i]? = some (some x)) (h2 : Wp (f E S) fun y S1 => ∃ d, gg S1 x y = some d ∧ Qo (.nx (E.set i (some d))) S1) : Wp (sAug i gg f E S) Qo := by
  obtain ⟨y, S1, e, d, e2, q⟩ := h2
  refine .of ?_ q
  unfold sAug
  simp only [h, e, Option.bind_some, e2, Option.map_some]
theorem w_par (h : Wp (fs E S) fun xs S1 => ∃ x y, xs = [x, y] ∧ Qo (.nx ((E.set i (some x)).set j (some y))) S1) : Wp (sPar i j fs E S) Qo := by
  obtain ⟨xs, S1, e, x, y, rfl, q⟩ := h
  refine .of ?_ q
  unfold sPar
  rw [e]
  rfl
theorem w_gN (q : Qe (E.set i (some d)) S) : Wp (gN i d E S) Qe := .of rfl q
theorem w_gsNil (q : Qe E S) : Wp (gsNil [] E S) Qe := .of rfl q
theorem w_gsCons {gg : DFG} {gs : DFGs} (h : Wp (gg x E S) fun E1 S1 => Wp (gs xs E1 S1) Qe) : Wp (gsCons gg gs (x :: xs) E S) Qe := Wp.bind h
theorem w_gTu {gs : DFGs} (h1 : tupOf d = some xs) (h2 : xs.length = n) (h : Wp (gs xs E S) Qe) : Wp (gTu n gs d E S) Qe := by
  unfold gTu
  rw [h1]
  simp only [if_pos h2]
  exact h
theorem w_gSetL (h : Wp (fo E S) fun o S1 => Wp (fi E S1) fun m S2 => ∃ k xs mi j, o = .ptr k ∧ m = .int mi ∧ S2[k]? = some (.lst xs) ∧ ixN xs.length mi = some j ∧ Qe E (S2.set k (.lst (xs.set j d)))) : Wp (gSetL fo fi d E S) Qe := by
  obtain ⟨o, S1, e1, m, S2, e2, k, xs, mi, j, rfl, rfl, h1, h2, q⟩ := h
  exact .of (gSetL_ev e1 e2 h1 h2) q
theorem w_asgG {gg : DFG} (h : Wp (f E S) fun d S1 => Wp (gg d E S1) fun E1 S2 => Qo (.nx E1) S2) : Wp (sAsgG f gg E S) Qo := Wp.bind (h.imp fun d S1 h1 => Wp.map h1)
theorem w_sV {vs : List Nat} (h : Wp (p (wipeE E vs) S) Qo) : Wp (sV vs p E S) Qo := h
theorem w_sW {vs : List Nat} (h : Wp (p E S) fun o S1 => Qo (wOut vs o) S1) : Wp (sW vs p E S) Qo := Wp.map h
theorem w_sFld {x : Str} (h : Wp (fx E S) fun v S1 => Wp (fo E S1) fun o S2 => ∃ k c fs, o = .ptr k ∧ S2[k]? = some (.ins c fs) ∧ fs.length < 1000 ∧ Qo (.nx E) (S2.set k (.ins c (putFD x v fs)))) : Wp (sFldD x fo fx E S) Qo := by
  obtain ⟨v, S1, e1, o, S2, e2, k, c, fs, rfl, h1, h2, q⟩ := h
  exact .of (sFldD_ev e1 e2 h1 h2) q
theorem w_sDP (h : Wp (fx E S) fun v S1 => Wp (fd E S1) fun o S2 => Wp (fk E S2) fun key S3 => ∃ S4, putO S3 o key v = some S4 ∧ Qo (.nx E) S4) : Wp (sDP fd fk fx E S) Qo := by
  obtain ⟨v, S1, e1, o, S2, e2, key, S3, e3, S4, e4, q⟩ := h
  refine .of ?_ q
  unfold sDP
  rw [e1, Option.bind_some, e2, Option.bind_some, e3, Option.bind_some, e4]
  rfl
theorem w_iLst (h : Wp (f E S) fun d S1 => ∃ l, lstOf S1 d = some l ∧ Qs (.live d) S1) : Wp (iLst f E S) Qs := by
  obtain ⟨d, S1, e, l, e2, q⟩ := h
  exact .of (live_ev e e2) q
theorem w_iTu (h : Wp (f E S) fun d S1 => ∃ l, tupOf d = some l ∧ Qs (.fix l) S1) : Wp (iTu f E S) Qs := by
  obtain ⟨d, S1, e, l, e2, q⟩ := h
  exact .of (iTu_ev e e2) q
theorem w_iSt (h : Wp (f E S) fun d S1 => ∃ z, d = .str z ∧ Qs (.fix (signsOf z)) S1) : Wp (iSt f E S) Qs := by
  obtain ⟨d, S1, e, z, rfl, q⟩ := h
  exact .of (iSt_ev e) q
theorem w_iRg1 (h : Wp (fs E S) fun xs S1 => ∃ m : Nat, xs = [.int (m : Nat)] ∧ m ≤ 1000000 ∧ Qs (.fix ((List.range m).map fun i : Nat => D.int (i : Nat))) S1) : Wp (iRg1 fs E S) Qs := by
  obtain ⟨xs, S1, e, m, rfl, hm, q⟩ := h
  exact .of (by rw [rg1_ev e hm, upto0]) q
theorem w_iRg2 (h : Wp (fs E S) fun xs S1 => ∃ a m : Nat, xs = [.int (a : Nat), .int (m : Nat)] ∧ a ≤ 1000000 ∧ m ≤ 1000000 ∧ Qs (.fix ((List.range (m - a)).map fun i : Nat => D.int ((a + i : Nat) : Int))) S1) : Wp (iRg2 fs E S) Qs := by
  obtain ⟨xs, S1, e, a, m, rfl, ha, hm, q⟩ := h
  refine .of ?_ q
  unfold iRg2
  rw [e, Option.bind_some]
  simp only
  rw [if_pos (by omega)]
  unfold upto
  rw [show ((m : Int) - (a : Int)).toNat = m - a by omega]
  simp
end
section
variable {α : Type} {E : SE} {S : List Ob} {xs : List α} {f : α → D} {fi : DF Src} {tg : DFG} {Ql : List D → List Ob → Prop} {Qo : Out → List Ob → Prop}
def ForOk (tg : DFG) (b : DFS) (E : SE) (Qo : Out → List Ob → Prop) (s : Src) (S : List Ob) : Prop := Wp (loopF tg b s (s.len S) 0 E S) Qo
theorem w_for {b : DFS} (h : Wp (fi E S) (ForOk tg b E Qo)) : Wp (sFor fi tg b E S) Qo := Wp.bind h
def LcOk (vs : List Nat) (tg : DFG) (t : DF Bool) (el : DF D) (E : SE) (Ql : List D → List Ob → Prop) (s : Src) (S : List Ob) : Prop := Wp (lcF tg t el s (wipeE E vs) (s.len S) 0 [] S) Ql
theorem w_lc {vs : List Nat} {t : DF Bool} {el : DF D} (h : Wp (fi E S) (LcOk vs tg t el E Ql)) : Wp (dLc vs fi tg t el E S) Ql := Wp.bind h
theorem lc_by {vs : List Nat} {t : DF Bool} {el : DF D} {s : Src} (xs : List α) (f : α → D) (b : α → Bool) (v : α → D)
    (hG : Gv s S (xs.map f)) (hz : xs.length ≤ 1000000)
    (step : ∀ x ∈ xs, Wp (tg (f x) (wipeE E vs) S) fun E1 S1 => S1 = S ∧ Wp (t E1 S) fun bb S2 => S2 = S ∧ bb = b x ∧ (b x = true → Wp (el E1 S) fun d S3 => S3 = S ∧ d = v x))
    (k : Ql ((xs.filter b).map v) S) : LcOk vs tg t el E Ql s S := by
  have step2 : ∀ x, ∃ E1, x ∈ xs → tg (f x) (wipeE E vs) S = some (E1, S) ∧ t E1 S = some (b x, S) ∧ (b x = true → el E1 S = some (v x, S)) := fun x => by
    by_cases hx : x ∈ xs
    · obtain ⟨E1, S2, e1, rfl, bb, S3, e2, rfl, rfl, h⟩ := step x hx
      exact ⟨E1, fun _ => ⟨e1, e2, fun hb => by
        obtain ⟨d, S4, e3, rfl, rfl⟩ := h hb
        exact e3⟩⟩
    · exact ⟨[], fun h => absurd h hx⟩
  have := lc_ev (vs := vs) (fi := fun E S => some (s, S)) (E := E) (S := S) (tg := tg) (t := t) (el := el) (E1 := fun x => Classical.choose (step2 x)) rfl hG (Nat.le_trans hz (by decide)) (fun x hx => (Classical.choose_spec (step2 x) hx).1) (fun x hx => (Classical.choose_spec (step2 x) hx).2.1) (fun x hx hb => (Classical.choose_spec (step2 x) hx).2.2 hb)
  exact .of this k
theorem lcm_by {vs : List Nat} {el : DF D} {s : Src} (xs : List α) (f : α → D) (v : α → D)
    (hG : Gv s S (xs.map f)) (hz : xs.length ≤ 1000000)
    (step : ∀ x ∈ xs, Wp (tg (f x) (wipeE E vs) S) fun E1 S1 => S1 = S ∧ Wp (el E1 S) fun d S3 => S3 = S ∧ d = v x)
    (k : Ql (xs.map v) S) : LcOk vs tg dYes el E Ql s S := by
  refine lc_by xs f (fun _ => true) v hG hz (fun x hx => (step x hx).imp fun E1 S1 ⟨e, h⟩ => ⟨e, .of rfl ⟨rfl, rfl, fun _ => h⟩⟩) ?_
  rw [List.filter_eq_self.mpr (fun _ _ => rfl)]
  exact k
end
section
variable {α : Type} {E : SE} {S : List Ob} {kf : DF D} {f : DF α} {fd : DF D} {Q : α → List Ob → Prop} {Qs : Src → List Ob → Prop}
theorem w_lock (hk : Wp (kf E S) fun d _ => ∃ k S1, d = .ptr k ∧ lockO S k = some S1 ∧ Wp (f E S1) fun a S2 => ∃ S3, freeO S2 k = some S3 ∧ Q a S3) : Wp (lockAt kf f E S) Q := by
  obtain ⟨d, S0, e, k, S1, rfl, h1, a, S2, e2, S3, h2, q⟩ := hk
  refine .of ?_ q
  unfold lockAt
  simp only [e, Option.map_some, h1, Option.bind_some, e2, h2]
theorem w_iDk {g : Nat → Src} (h : Wp (fd E S) fun d S1 => ∃ k l, d = .ptr k ∧ (S1[k]? = some (.lkK l) ∨ ∃ l, S1[k]? = some (.lkT l)) ∧ Qs (g k) S1) : Wp (iDk g fd E S) Qs := by
  obtain ⟨d, S1, e, k, l, rfl, h1, q⟩ := h
  refine .of ?_ q
  unfold iDk
  rw [e, Option.bind_some]
  rcases h1 with h1 | ⟨l, h1⟩ <;> simp only [h1]
end
theorem w_run {m : Nat} {p : DFS} {ds : List D} {S : List Ob} {Q : D → List Ob → Prop} (h : Wp (p (ds.map some ++ List.replicate (m - ds.length) none) S) fun o S1 => match o with
    | .nx _ => Q .non S1
    | .rt d => Q d S1
    | _ => False) : Wp (runB m p ds S) Q := by
  obtain ⟨o, S1, e, h⟩ := h
  unfold runB
  rw [e, Option.bind_some]
  cases o with
  | nx E => exact .of rfl h
  | rt d => exact .of rfl h
  | bk E => exact h.elim
  | ct E => exact h.elim
theorem eq_str {S : List Ob} (a b : Str) : opEq S (.str a) (.str b) = some (.bl (decide (a = b))) := by
  have h : opEq S (.str a) (.str b) = some (.bl (decide (V.str a = V.str b))) := rfl
  rw [h]
  congr 2
  exact decide_eq_decide.mpr ⟨fun e => V.str.inj e, fun e => by rw [e]⟩
theorem ne_str {S : List Ob} (a b : Str) : opNe S (.str a) (.str b) = some (.bl (!decide (a = b))) := by
  have h : opNe S (.str a) (.str b) = some (.bl (!decide (V.str a = V.str b))) := rfl
  rw [h]
  congr 3
  exact decide_eq_decide.mpr ⟨fun e => V.str.inj e, fun e => by rw [e]⟩
theorem lstOf_end {S : List Ob} (l : List D) : lstOf (S ++ [.lst l]) (.ptr S.length) = some l := by
  unfold lstOf
  simp only [end_at]
theorem Pu.app {S T : List Ob} {p n : Nat} (h : Pu S p n) : Pu (S ++ T) p n := by
  obtain ⟨a, b, c, h1, h2⟩ := h.ex
  exact ⟨a, b, c, by rw [List.getElem?_append_left (List.getElem?_eq_some_iff.mp h1).1]; exact h1, h2⟩
theorem But.app {S S' T : List Ob} {p : Nat} (h : But p (S ++ T) S') (hp : p < S.length) : ∃ S'', S' = S'' ++ T ∧ But p S S'' := by
  refine ⟨S'.take S.length, ?_, ?_, fun k hk => ?_⟩
  · have hl := h.len
    rw [List.length_append] at hl
    refine List.ext_getElem? fun k => ?_
    by_cases hk : k < S.length
    · rw [List.getElem?_append_left (by rw [List.length_take]; omega), List.getElem?_take_of_lt hk]
    · have e1 : (S'.take S.length).length = S.length := by rw [List.length_take]; omega
      rw [List.getElem?_append_right (by omega), e1, h.ne k (by omega), List.getElem?_append_right (by omega)]
  · have hl := h.len
    rw [List.length_append] at hl
    rw [List.length_take]
    omega
  · by_cases hk2 : k < S.length
    · rw [List.getElem?_take_of_lt hk2, h.ne k hk, List.getElem?_append_left hk2]
    · have hl := h.len
      rw [List.length_append] at hl
      rw [List.getElem?_eq_none (by rw [List.length_take]; omega), List.getElem?_eq_none (by omega)]
theorem draw_nat {S : List Ob} {p n m : Nat} (h : Pu S p n) (hm : 0 < m) (hm2 : m < 1073741824) (hn : n < 1000000) : ∃ (r : Nat) (S' : List Ob), c__law_draw [.ptr p, .int (m : Nat)] S = some (.int (r : Nat), S') ∧ r < m ∧ Pu S' p (n + 1) ∧ But p S S' := by
  obtain ⟨r, S', h1, h2, h3, h4, h5⟩ := draw_ok (m := (m : Nat)) h (by omega) (by omega) hn
  obtain ⟨k, rfl⟩ := Int.eq_ofNat_of_zero_le h2
  exact ⟨k, S', h1, by omega, h4, h5⟩
theorem len_lst' {S : List Ob} {xs : List D} : fLen S [.lst xs] = some (.int (xs.length : Nat)) := len_lst rfl
theorem w_draw {S : List Ob} {p n m : Nat} {Q : D → List Ob → Prop} (h : Pu S p n) (hm : 0 < m) (hm2 : m < 1073741824) (hn : n < 1000000) (k : ∀ (r : Nat) S', r < m → Pu S' p (n + 1) → But p S S' → Q (.int (r : Nat)) S') : Wp (c__law_draw [.ptr p, .int (m : Nat)] S) Q := by
  obtain ⟨r, S', h1, h2, h3, h4⟩ := draw_nat h hm hm2 hn
  exact .of h1 (k r S' h2 h3 h4)
end DL
local macro_rules | `(tactic| walk_at "w1") => `(tactic| first
  | (with_reducible first | apply DL.w_seq | apply DL.w_sV | apply DL.w_sW | apply DL.w_if | apply DL.w_asg | apply DL.w_ret | apply DL.w_drop | apply DL.w_sNil | apply DL.w_test | apply DL.w_not | apply DL.w_bin | apply DL.w_c | apply DL.w_nil | apply DL.w_cons | apply DL.w_few | apply DL.w_tree | apply DL.w_new | apply DL.w_tup | apply DL.w_cb | apply DL.w_call | apply DL.w_isi | apply DL.w_fld | apply DL.w_nopart | apply DL.w_part | apply DL.w_slL | apply DL.w_slS | apply DL.w_dget | apply DL.w_newK | apply DL.w_newT | apply DL.w_app | apply DL.w_lst0 | apply DL.w_prop | apply DL.w_ownE | apply DL.w_ownN | apply DL.w_catN | apply DL.w_get1 | apply DL.w_get2 | apply DL.w_and | apply DL.w_or | apply DL.w_andV | apply DL.w_orV | apply DL.w_notV | apply DL.w_dif | apply DL.w_retN | apply DL.w_par | apply DL.w_gN | apply DL.w_gsNil | apply DL.w_gsCons | apply DL.w_gSetL | apply DL.w_asgG | apply DL.w_sFld | apply DL.w_sDP | apply DL.w_iLst | apply DL.w_iTu | apply DL.w_iSt | apply DL.w_iRg1 | apply DL.w_iRg2 | apply DL.w_for | apply DL.w_lc | apply DL.w_lock | apply DL.w_iDk | apply w_join | apply w_meth | apply DL.nxt_nx | apply DL.nxt_rt)
  | (with_reducible refine DL.w_var (by with_unfolding_all rfl) ?_) | (with_reducible refine DL.w_gTu (by with_unfolding_all rfl) (by with_unfolding_all rfl) ?_) | (with_reducible refine DL.w_aug (by with_unfolding_all rfl) ?_)
  | ((fail_if_success (with_reducible apply DL.wp_id)); first
  | (refine ⟨DL.lenOk (Nat.le_of_ble_eq_true rfl), ?_⟩) | (refine ⟨show _ ≤ 1000000 by omega, ?_⟩) | (refine ⟨(Nat.le_of_ble_eq_true rfl : _ ≤ 1000000), ?_⟩) | (refine ⟨rfl, ?_⟩)
  | (refine DL.br_t ?_) | (refine DL.br_f ?_) | (with_reducible refine DL.br_n ?_) | (refine DL.br_yes (by first | assumption | exact rfl | omega) ?_) | (refine DL.br_no (by first | assumption | omega) ?_)
  | (with_reducible refine ⟨_, DL.eq_int _ _, ?_⟩) | (with_reducible refine ⟨_, DL.ne_int _ _, ?_⟩) | (with_reducible refine ⟨_, DL.eq_wd _ _, ?_⟩) | (with_reducible refine ⟨_, DL.ne_wd _ _, ?_⟩) | (with_reducible refine ⟨_, DL.eq_str _ _, ?_⟩) | (with_reducible refine ⟨_, DL.ne_str _ _, ?_⟩) | (with_reducible refine ⟨_, DL.in_tup _, ?_⟩) | (with_reducible refine ⟨_, DL.in_ktp _, ?_⟩) | (with_reducible refine ⟨_, DL.in_lst _, ?_⟩) | (with_reducible refine ⟨_, DL.len_lst', ?_⟩) | (with_reducible refine ⟨_, DL.add_wd (by first | omega | (simp; omega)), ?_⟩)
  | (with_reducible refine ⟨_, DL.opMul_ev (.inr (by omega)), ?_⟩) | (with_reducible refine ⟨_, DL.opMul_ev (.inl (by omega)), ?_⟩) | (with_reducible refine ⟨_, DL.opMod_ev (by first | assumption | omega), ?_⟩) | (with_reducible refine ⟨_, DL.opDiv_ev (by first | assumption | omega), ?_⟩)
  | (refine ⟨_, rfl, ?_⟩) | (refine ⟨_, _, rfl, ?_⟩) | exact rfl)
  | fail)
local macro_rules | `(tactic| walk_at "r1") => `(tactic| repeat' (walk_at "w1"))
set_option Elab.async false
set_option linter.all false
set_option maxRecDepth 100000
set_option maxHeartbeats 4000000
namespace DL
open PySem PySem.Spec PyProof.Rows L2
end DL
set_option Elab.async false
set_option linter.all false
set_option maxRecDepth 100000
set_option maxHeartbeats 4000000
namespace DL
open PySem PySem.Spec PyProof.Rows L2
noncomputable section
end
end DL
set_option Elab.async false
set_option linter.all false
set_option maxRecDepth 100000
set_option maxHeartbeats 4000000
namespace DL
open PySem PySem.Spec PyProof.Rows L2
noncomputable section
structure SmallW (W : List Row) : Prop where
  n : W.length ≤ 400
  l : ∀ w ∈ W, w.length ≤ 400
end
end DL
set_option Elab.async false
set_option linter.all false
set_option maxRecDepth 100000
set_option maxHeartbeats 4000000
namespace DL
open PySem PySem.Spec PyProof.Rows L2
noncomputable section
structure Nice (w : Nat) (p : PyData) : Prop where
  s : p.showable = true
  d : p.hasDict = false
  l : p.leavesShort 60 = true
  h : p.depth ≤ 50
  w : p.weight ≤ w
structure NiceA (w : Nat) (h : Nat) (ps : List PyData) : Prop where
  s : PyData.showableAll ps = true
  d : PyData.hasDictAll ps = false
  l : PyData.leavesShortAll 60 ps = true
  h : PyData.depthAll ps ≤ h
  w : PyData.weightAll ps ≤ w
def rowsP (A : List Row) : PyData := .list ((A.map ws).map PyData.str)
theorem Nice.ok {w : Nat} {p : PyData} (n : Nice w p) (hw : w ≤ 200000) : okP p := by
  refine ⟨n.s, n.d, by have := n.h; omega, ?_⟩
  have h1 := PyData.shown_le 60 (by omega) p n.l
  have h2 := n.w
  have h3 : 62 * 200000 + 60 ≤ sizeLine := by decide
  omega
theorem toP_lst {S : List Ob} {n : Nat} {d : D} {ds : List D} {ps : List PyData} (hd : lstOf S d = some ds) (h : ds.mapM (toP S n) = some ps) : toP S (n + 1) d = some (.list ps) := by
  have ht : tupOf d = none := by cases d <;> first | rfl | cases hd
  cases d with
  | lst xs =>
    cases hd
    show ((ds.mapM (toP S n)).map PyData.list) = _
    rw [h]
    rfl
  | ptr k =>
    have e : toP S (n + 1) (.ptr k) = (match lstOf S (.ptr k) with | some xs => (xs.mapM (toP S n)).map PyData.list | none => none) := rfl
    rw [e, hd]
    simp only [h, Option.map_some]
  | _ => cases hd
theorem toP_rows {S : List Ob} {n : Nat} {d : D} {A : List Row} (hd : lstOf S d = some (A.map wd)) : toP S (n + 2) d = some (rowsP A) := by
  refine toP_lst hd ?_
  rw [← map_wd]
  exact mapM_strs S n _
end
end DL
set_option Elab.async false
set_option linter.all false
set_option maxRecDepth 100000
set_option maxHeartbeats 4000000
namespace DL
open PySem PySem.Spec PyProof.Rows L2
noncomputable section
end
end DL
set_option Elab.async false
set_option linter.all false
set_option maxRecDepth 100000
set_option maxHeartbeats 2000000
namespace DL
open PySem PySem.Spec PyProof.Rows L2
noncomputable section
section
variable {α : Type} {E : SE} {S : List Ob} {f fo : DF D} {fs : DF (List D)} {n k : Nat} {Q : D → List Ob → Prop} {Qo : Out → List Ob → Prop}
theorem w_join (h : Wp (fo E S) fun a S1 => ∃ x, a = .str x ∧ Wp (f E S1) fun d S2 => ∃ r, joinO S2 (.str x) d = some r ∧ Q r S2) : Wp (dJoin fo f E S) Q := Wp.bind (h.imp fun a S1 ⟨x, e, h1⟩ => by
  subst e
  exact Wp.bind (h1.imp fun d S2 h2 => Wp.opt h2))
theorem w_meth {m : Str} {sem : List D → List Ob → Option (D × List Ob)} (h : Wp (f E S) fun d S1 => tgOf S1 d = some (.o k) ∧ fldOf S1 d m = none ∧ Wp (fs E S1) fun xs S2 => xs.length + 1 = n ∧ Wp (sem (d :: xs) S2) Q) : Wp (dMeth k n m sem f fs E S) Q := by
  obtain ⟨d, S1, e, h1, h2, xs, S2, e2, h3, r, S3, e3, q⟩ := h
  refine .of ?_ q
  unfold dMeth
  rw [e, Option.bind_some]
  simp only [h1, h2, and_self, if_true, e2, Option.bind_some, h3, e3]
end
theorem w_pick {S : List Ob} {p n : Nat} {xs : List D} {Q : D → List Ob → Prop} (h : Pu S p n) (hn : n < 1000000) (hx : 0 < xs.length) (hx2 : xs.length < 1000000) (k : ∀ x S', x ∈ xs → Pu S' p (n + 1) → But p S S' → Q x S') : Wp (c__law_pick [.ptr p, .lst xs] S) Q := by
  obtain ⟨x, S', h1, h2, h3, h4⟩ := pick_ok h hn hx hx2
  exact .of h1 (k x S' h2 h3 h4)
theorem w_purse {C : Ctx} {S : List Ob} {t : Int} {Q : D → List Ob → Prop} (ht : 0 ≤ t) (ht2 : t < 1000) (k : ∀ S', Pu S' S.length 0 → Q (.ptr S.length) S') : Wp (c__law_purse C [.scr, .int t] S) Q := by
  obtain ⟨a, b, hpu, ha, hb, hb2⟩ := purse_ok (C := C) (S := S) (t := t) ht ht2
  exact .of hpu (k _ ⟨a, b, 0, end_at, ha, hb, hb2, Int.le_refl _, Int.le_refl _⟩)
theorem w_c0 {E : SE} {S : List Ob} {Q : D → List Ob → Prop} (q : Q (wd [false]) S) : Wp (dC (.str "0") E S) Q := by
  rw [wd_0]
  exact w_c q
theorem w_c1 {E : SE} {S : List Ob} {Q : D → List Ob → Prop} (q : Q (wd [true]) S) : Wp (dC (.str "1") E S) Q := by
  rw [wd_1]
  exact w_c q
theorem w_cn {E : SE} {S : List Ob} {Q : D → List Ob → Prop} (q : Q (wd []) S) : Wp (dC (.str "") E S) Q := by
  rw [wd_nil]
  exact w_c q
theorem ex_bl {x : Bool} {Q : Bool → Prop} (q : Q x) : ∃ b, D.bl x = D.bl b ∧ Q b := ⟨x, rfl, q⟩
theorem ex_int {x : Int} {Q : Int → Prop} (q : Q x) : ∃ b, D.int x = D.int b ∧ Q b := ⟨x, rfl, q⟩
theorem ex_str {x : Str} {Q : Str → Prop} (q : Q x) : ∃ b, D.str x = D.str b ∧ Q b := ⟨x, rfl, q⟩
theorem ex_two {x y : D} {Q : D → D → Prop} (q : Q x y) : ∃ a b, [x, y] = [a, b] ∧ Q a b := ⟨x, y, rfl, q⟩
theorem ex_rg {n : Nat} {Q : Nat → Prop} (q : Q n) : ∃ m : Nat, [D.int (n : Nat)] = [D.int (m : Nat)] ∧ Q m := ⟨n, rfl, q⟩
theorem ex_rgi {i : Int} {n : Nat} {Q : Nat → Prop} (h : i = (n : Nat)) (q : Q n) : ∃ m : Nat, [D.int i] = [D.int (m : Nat)] ∧ Q m := ⟨n, by rw [h], q⟩
theorem add_int {S : List Ob} (a b : Int) : opAdd S (.int a) (.int b) = some (.int (a + b)) := rfl
theorem sub_int {S : List Ob} (a b : Int) : opSub S (.int a) (.int b) = some (.int (a - b)) := rfl
theorem cmp_int {c : Int → Int → Bool} {S : List Ob} (a b : Int) : opCmp c S (.int a) (.int b) = some (.bl (c a b)) := rfl
theorem lst_lst {S : List Ob} (l : List D) : lstOf S (.lst l) = some l := rfl
theorem tup_tup (l : List D) : tupOf (.tup l) = some l := rfl
theorem ktp_ktp (l : List D) : tupOf (.ktp l) = some l := rfl
theorem isi_str {S : List Ob} (x : Str) : (tgOf S (.str x)).bind (isiB "str") = some true := rfl
theorem isi_lst {S : List Ob} (x : List D) : (tgOf S (.lst x)).bind (isiB "list") = some true := rfl
theorem isi_code {S : List Ob} (W : List Row) : (tgOf S (codeW W)).bind (isiO 0) = some true := rfl
theorem int_int {S : List Ob} (i : Int) : fInt S [.int i] = some (.int i) := rfl
theorem str_str {S : List Ob} (i : Str) : fStr S [.str i] = some (.str i) := rfl
theorem is_tup {S : List Ob} (l : List D) : opIs S (.tup l) .non = some (.bl false) := rfl
theorem is_non {S : List Ob} : opIs S .non .non = some (.bl true) := rfl
theorem isn_tup {S : List Ob} (l : List D) : opIsNot S (.tup l) .non = some (.bl true) := rfl
theorem isn_non {S : List Ob} : opIsNot S .non .non = some (.bl false) := rfl
theorem isn_bl {S : List Ob} (a b : Bool) : opIsNot S (.bl a) (.bl b) = some (.bl (!decide (a = b))) := by cases a <;> cases b <;> rfl
theorem is_bl {S : List Ob} (a b : Bool) : opIs S (.bl a) (.bl b) = some (.bl (decide (a = b))) := by cases a <;> cases b <;> rfl
theorem list_lst {S : List Ob} (l : List D) : fList S [.lst l] = some l := rfl
theorem fld_waysW {S : List Ob} (W : List Row) : fldOf S (codeW W) "ways" = some (.dT (waysW W)) := rfl
theorem fld_headsW {S : List Ob} (W : List Row) : fldOf S (codeW W) "heads" = some (.ktp ((ordR (headsW W)).map wd)) := by
  rw [codeW_obj]
  rfl
theorem fld_rowsW {S : List Ob} (W : List Row) : fldOf S (codeW W) "rows" = some (.tup ((ordR W).map wd)) := by
  rw [codeW_obj]
  rfl
end
end DL
local macro_rules | `(tactic| walk_at "w2") => `(tactic| first
  | (with_reducible first | apply DL.w_seq | apply DL.w_sV | apply DL.w_sW | apply DL.w_if | apply DL.w_asg | apply DL.w_ret | apply DL.w_drop | apply DL.w_sNil | apply DL.w_test | apply DL.w_not | apply DL.w_bin | apply DL.w_c0 | apply DL.w_c1 | apply DL.w_cn | apply DL.w_c | apply DL.w_nil | apply DL.w_cons | apply DL.w_few | apply DL.w_tree | apply DL.w_new | apply DL.w_tup | apply DL.w_cb | apply DL.w_call | apply DL.w_isi | apply DL.w_fld | apply DL.w_nopart | apply DL.w_part | apply DL.w_slL | apply DL.w_slS | apply DL.w_dget | apply DL.w_newK | apply DL.w_newT | apply DL.w_app | apply DL.w_lst0 | apply DL.w_prop | apply DL.w_ownE | apply DL.w_ownN | apply DL.w_catN | apply DL.w_get1 | apply DL.w_get2 | apply DL.w_and | apply DL.w_or | apply DL.w_andV | apply DL.w_orV | apply DL.w_notV | apply DL.w_dif | apply DL.w_retN | apply DL.w_par | apply DL.w_gN | apply DL.w_gsNil | apply DL.w_gsCons | apply DL.w_gSetL | apply DL.w_asgG | apply DL.w_sFld | apply DL.w_sDP | apply DL.w_iLst | apply DL.w_iTu | apply DL.w_iSt | apply DL.w_iRg1 | apply DL.w_iRg2 | apply DL.w_for | apply DL.w_lc | apply DL.w_lock | apply DL.w_iDk | apply DL.w_join | apply DL.w_meth | apply DL.nxt_nx | apply DL.nxt_rt)
  | (with_reducible refine DL.w_var (by with_unfolding_all rfl) ?_) | (with_reducible refine DL.w_gTu (by with_unfolding_all rfl) (by with_unfolding_all rfl) ?_) | (with_reducible refine DL.w_aug (by with_unfolding_all rfl) ?_)
  | ((fail_if_success (with_reducible apply DL.wp_id)); first
  | (refine ⟨DL.lenOk (Nat.le_of_ble_eq_true rfl), ?_⟩) | (refine ⟨show _ ≤ 1000000 by omega, ?_⟩) | (refine ⟨(Nat.le_of_ble_eq_true rfl : _ ≤ 1000000), ?_⟩) | (refine ⟨rfl, ?_⟩)
  | (refine DL.br_t ?_) | (refine DL.br_f ?_) | (with_reducible refine DL.br_n ?_) | (refine DL.br_yes (by first | assumption | exact rfl | omega) ?_) | (refine DL.br_no (by first | assumption | omega) ?_)
  | (with_reducible refine ⟨_, DL.eq_int _ _, ?_⟩) | (with_reducible refine ⟨_, DL.ne_int _ _, ?_⟩) | (with_reducible refine ⟨_, DL.eq_wd _ _, ?_⟩) | (with_reducible refine ⟨_, DL.ne_wd _ _, ?_⟩) | (with_reducible refine ⟨_, DL.eq_str _ _, ?_⟩) | (with_reducible refine ⟨_, DL.ne_str _ _, ?_⟩) | (with_reducible refine ⟨_, DL.in_tup _, ?_⟩) | (with_reducible refine ⟨_, DL.in_ktp _, ?_⟩) | (with_reducible refine ⟨_, DL.in_lst _, ?_⟩) | (with_reducible refine ⟨_, DL.len_lst', ?_⟩) | (with_reducible refine ⟨_, DL.add_wd (by first | omega | (simp; omega)), ?_⟩)
  | (with_reducible refine ⟨_, DL.opMul_ev (.inr (by omega)), ?_⟩) | (with_reducible refine ⟨_, DL.opMul_ev (.inl (by omega)), ?_⟩) | (with_reducible refine ⟨_, DL.opMod_ev (by first | assumption | omega), ?_⟩) | (with_reducible refine ⟨_, DL.opDiv_ev (by first | assumption | omega), ?_⟩)
  | (with_reducible refine ⟨_, DL.add_int _ _, ?_⟩) | (with_reducible refine ⟨_, DL.sub_int _ _, ?_⟩) | (with_reducible refine ⟨_, DL.cmp_int _ _, ?_⟩) | (with_reducible refine ⟨_, DL.lst_lst _, ?_⟩) | (with_reducible refine ⟨_, DL.tup_tup _, ?_⟩) | (with_reducible refine ⟨_, DL.ktp_ktp _, ?_⟩) | (with_reducible refine ⟨_, DL.isi_str _, ?_⟩) | (with_reducible refine ⟨_, DL.isi_lst _, ?_⟩) | (with_reducible refine ⟨_, DL.isi_code _, ?_⟩) | (with_reducible refine ⟨_, DL.int_int _, ?_⟩) | (with_reducible refine ⟨_, DL.str_str _, ?_⟩) | (with_reducible refine ⟨_, DL.is_tup _, ?_⟩) | (with_reducible refine ⟨_, DL.is_non, ?_⟩) | (with_reducible refine ⟨_, DL.isn_tup _, ?_⟩) | (with_reducible refine ⟨_, DL.isn_non, ?_⟩) | (with_reducible refine ⟨_, DL.isn_bl _ _, ?_⟩) | (with_reducible refine ⟨_, DL.is_bl _ _, ?_⟩) | (with_reducible refine ⟨_, DL.list_lst _, ?_⟩) | (with_reducible refine ⟨_, DL.fld_waysW _, ?_⟩) | (with_reducible refine ⟨_, DL.fld_headsW _, ?_⟩) | (with_reducible refine ⟨_, DL.fld_rowsW _, ?_⟩) | (with_reducible refine ⟨_, DL.lstOf_end _, ?_⟩) | (with_reducible apply DL.ex_bl) | (with_reducible apply DL.ex_int) | (with_reducible apply DL.ex_str) | (with_reducible apply DL.ex_two) | (with_reducible apply DL.ex_rg) | (with_reducible refine DL.ex_rgi (by with_unfolding_all rfl) ?_))
  | fail)
local macro_rules | `(tactic| walk_at "r2") => `(tactic| repeat' (walk_at "w2"))
set_option Elab.async false
set_option linter.all false
set_option maxRecDepth 100000
set_option maxHeartbeats 4000000
namespace DL
open PySem PySem.Spec PyProof.Rows L2
noncomputable section
end
end DL
set_option Elab.async false
set_option linter.all false
set_option maxRecDepth 100000
set_option maxHeartbeats 4000000
namespace DL
open PySem PySem.Spec PyProof.Rows L2
noncomputable section
end
end DL
set_option Elab.async false
set_option linter.all false
namespace DL
namespace Tr
def neg (r : Row) : Row := r.map fun x => !x
def fill : Tr → Tr
  | no => lf
  | lf => lf
  | nd a b => nd (fill a) (fill b)
end Tr
end DL
set_option Elab.async false
set_option linter.all false
set_option maxRecDepth 100000
set_option maxHeartbeats 4000000
namespace DL
open PySem PySem.Spec PyProof.Rows L2
noncomputable section
open Tr (neg)
end
end DL
set_option Elab.async false
set_option linter.all false
set_option maxRecDepth 100000
set_option maxHeartbeats 4000000
namespace DL
open PySem PySem.Spec PyProof.Rows L2
noncomputable section
open Tr
end
end DL
set_option Elab.async false
set_option linter.all false
set_option maxRecDepth 100000
set_option maxHeartbeats 8000000
namespace DL
open PySem PySem.Spec PyProof.Rows L2
noncomputable section
def aftP : Option (Row × List Row) → PyData
  | none => .none
  | some p => .tuple [.str (ws p.1), rowsP p.2]
theorem toP_tup {S : List Ob} {n : Nat} {ds : List D} {ps : List PyData} (h : ds.mapM (toP S n) = some ps) : toP S (n + 1) (.tup ds) = some (.tuple ps) := by
  show ((ds.mapM (toP S n)).map PyData.tuple) = _
  rw [h]
  rfl
theorem toP_aft {S : List Ob} {n : Nat} {o : Row × List Row} {d : D} (h : lstOf S d = some (o.2.map wd)) : toP S (n + 3) (.tup [wd o.1, d]) = some (aftP (some o)) := by
  refine toP_tup ?_
  rw [List.mapM_cons, List.mapM_cons, toP_rows h]
  rfl
def IsAft (S : List Ob) (o : Option (Row × List Row)) (d : D) : Prop := match o with
  | none => d = .non
  | some p => ∃ e, d = .tup [wd p.1, e] ∧ lstOf S e = some (p.2.map wd)
theorem IsAft.toP {S : List Ob} {o : Option (Row × List Row)} {d : D} (h : IsAft S o d) : toP S 60 d = some (aftP o) := by
  cases o with
  | none =>
    cases h
    rfl
  | some p =>
    obtain ⟨e, rfl, h2⟩ := h
    exact toP_aft (n := 57) h2
def Due (S : List Ob) (p k : Nat) (o : Option (Row × List Row)) (r : D) : Prop := match o with
  | none => r = .non
  | some q => r = .tup [wd q.1, .ptr k] ∧ S[k]? = some (.lst (q.2.map wd)) ∧ p < k
theorem Due.is {S : List Ob} {p k : Nat} {o : Option (Row × List Row)} {r : D} (h : Due S p k o r) : IsAft S o r := by
  cases o with
  | none => exact h
  | some q =>
    obtain ⟨rfl, h2, _⟩ := h
    exact ⟨_, rfl, by simp only [lstOf, h2]⟩
theorem Due.app {S T : List Ob} {p k : Nat} {o : Option (Row × List Row)} {r : D} (h : Due S p k o r) : Due (S ++ T) p k o r := by
  cases o with
  | none => exact h
  | some q =>
    obtain ⟨rfl, h2, h3⟩ := h
    exact ⟨rfl, by rw [List.getElem?_append_left (List.getElem?_eq_some_iff.mp h2).1]; exact h2, h3⟩
theorem Pu.put {S : List Ob} {p n k : Nat} {ob : Ob} (h : Pu S p n) (hk : p < k) : Pu (S.set k ob) p n := by
  obtain ⟨a, b, c, h1, h2⟩ := h.ex
  exact ⟨a, b, c, by rw [List.getElem?_set_ne (by omega)]; exact h1, h2⟩
end
end DL
set_option Elab.async false
set_option linter.all false
set_option maxRecDepth 100000
set_option maxHeartbeats 4000000
namespace DL
open PySem PySem.Spec PyProof.Rows L2
noncomputable section
open Tr
end
end DL
set_option Elab.async false
set_option linter.all false
set_option maxRecDepth 100000
set_option maxHeartbeats 16000000
namespace DL
open PySem PySem.Spec PyProof.Rows L2
noncomputable section
open Tr
end
end DL
set_option Elab.async false
set_option linter.all false
set_option maxRecDepth 100000
set_option maxHeartbeats 1000000
namespace DL
open PySem PySem.Spec PyProof.Rows L2
section
variable {E : SE} {S : List Ob} {f fd fk fx fo fe : DF D} {fs : DF (List D)} {c : DF Bool} {p : DFS} {Q : D → List Ob → Prop} {Qo : Out → List Ob → Prop} {Qs : Src → List Ob → Prop}
theorem w_enu (h : Wp (fs E S) fun xs S1 => ∃ d l, xs = [d] ∧ seqOf S1 d = some l ∧ Qs (.view fun S' => (seqOf S' d).map enumD) S1) : Wp (iEnu fs E S) Qs := by
  obtain ⟨xs, S1, e, d, l, rfl, h1, q⟩ := h
  refine .of ?_ q
  unfold iEnu
  rw [e, Option.bind_some]
  simp only [h1, Option.map_some]
def keysD : D → Option (List D)
  | .dK l => some (l.map fun p => keyD p.1)
  | .dT l => some (l.map fun p => keyT p.1)
  | _ => none
theorem w_iKy (h : Wp (f E S) fun d S1 => ∃ l, keysD d = some l ∧ Qs (.fix l) S1) : Wp (iKy f E S) Qs := by
  obtain ⟨d, S1, e, l, h1, q⟩ := h
  refine .of ?_ q
  unfold iKy
  rw [e, Option.bind_some]
  cases d <;> first | (cases h1; rfl) | cases h1
theorem w_tix (h : Wp (fo E S) fun o S1 => ∃ xs, o = .ktp xs ∧ Wp (fe E S1) fun y S2 => ∃ d, opTIx S2 (.ktp xs) y = some d ∧ Q d S2) : Wp (dTIx fo fe E S) Q := by
  obtain ⟨o, S1, e, xs, rfl, y, S2, e2, d, e3, q⟩ := h
  refine .of ?_ q
  unfold dTIx
  rw [e, Option.bind_some]
  simp only [e2, Option.bind_some, e3, Option.map_some]
theorem w_tupRg (h : Wp (f E S) fun d S1 => ∃ n : Nat, d = .int (n : Nat) ∧ n ≤ 1000000 ∧ Q (.tup ((List.range n).map fun i : Nat => D.int (i : Nat))) S1) : Wp (dTupRg f E S) Q := by
  obtain ⟨d, S1, e, n, rfl, hn, q⟩ := h
  refine .of ?_ q
  unfold dTupRg
  rw [e, Option.bind_some]
  simp only
  rw [if_pos ⟨by omega, by omega⟩, Int.toNat_natCast]
theorem w_setdT (h : Wp (fd E S) fun d S1 => isDict S1 d = true ∧ Wp (fk E S1) fun k S2 => Wp (fx E S2) fun x S3 => ∃ j kvs key, d = .ptr j ∧ S3[j]? = some (.dT kvs) ∧ tkeyOf k = some key ∧ kvs.length < sizeLine ∧ (∀ y, getD' kvs key = some y → Q y S3) ∧ (getD' kvs key = none → Q x (S3.set j (.dT (putD kvs key x))))) : Wp (dSetdT fd fk fx E S) Q := by
  obtain ⟨d, S1, e1, hd, k, S2, e2, x, S3, e3, j, kvs, key, rfl, h1, h2, h3, h4, h5⟩ := h
  unfold dSetdT
  rw [e1, Option.bind_some, if_pos hd, e2, Option.bind_some, e3, Option.bind_some]
  simp only [h1, h2, h3, if_true]
  cases hg : getD' kvs key with
  | none => exact .of rfl (h5 hg)
  | some y => exact .of rfl (h4 y hg)
theorem w_treeK {fl : DF (List (Key × D))} (h : Wp (fl E S) fun l S1 => Q (.dK l) S1) : Wp (dTreeK fl E S) Q := Wp.map h
theorem w_newD {fl : DF (List (Key × D))} (h : Wp (fl E S) fun l S1 => Q (.ptr S1.length) (S1 ++ [.dK l])) : Wp (dNewD fl E S) Q := Wp.map h
theorem w_treeT {fl : DF (List (List Key × D))} (h : Wp (fl E S) fun l S1 => Q (.dT l) S1) : Wp (dTreeT fl E S) Q := Wp.map h
theorem w_newDT {fl : DF (List (List Key × D))} (h : Wp (fl E S) fun l S1 => Q (.ptr S1.length) (S1 ++ [.dT l])) : Wp (dNewDT fl E S) Q := Wp.map h
end
section
variable {α : Type} {E : SE} {S : List Ob} {xs : List α} {f : α → D} {fi : DF Src} {tg : DFG} {kx vx : DF D} {s : Src}
end
end DL
set_option Elab.async false
set_option linter.all false
namespace DL
open PySem PySem.Spec PyProof.Rows L2
theorem w_par3 {E : SE} {S : List Ob} {fs : DF (List D)} {i j l : Nat} {Qo : Out → List Ob → Prop} (h : Wp (fs E S) fun xs S1 => ∃ x y z, xs = [x, y, z] ∧ Qo (.nx (((E.set i (some x)).set j (some y)).set l (some z))) S1) : Wp (sPar3 i j l fs E S) Qo := by
  obtain ⟨xs, S1, e, x, y, z, rfl, q⟩ := h
  refine .of ?_ q
  unfold sPar3
  rw [e]
  rfl
end DL
set_option Elab.async false
set_option linter.all false
set_option maxRecDepth 100000
set_option maxHeartbeats 2000000
namespace DL
open PySem PySem.Spec PyProof.Rows L2
section
variable {X : Cx} {pins : List (Addr × Obj)} {σ : L2.St} {H : Hp} {s : Shared}
end
section
variable {P : Program} {w : World} {K : PySem.W.Frag} {mg : Str → Option Value} {base : Heap} {N ps fr : List Str} {q : Str} {params : Arguments} {body : Expr} {scope : Scope} {cl : List (Str × Addr)} {c' f : Addr} {k : Nat} {A : Around} {outer : List Env} {s : Shared} {H : Hp} {us : List Value} {vs : List V} {ws : List (Option V)} {Q : VK} {pm ctv : Value} {t : TE}
end
def LamAt (P : Program) (w : World) (K : PySem.W.Frag) (mg : Str → Option Value) (base : Heap) (C : Ctx) (k n : Nat) (outer : List Env) (s0 : Shared) (H0 : Hp) (f : Addr) (lam : List D → List Ob → Option (D × List Ob)) : Prop :=
  ∀ (s : Shared) (H : Hp), Un (frs outer) [] H0 H s0.heap s.heap → HOk P w H s.heap → PySem.W.FnAt f s.heap ∧ ∀ (A : Around) (outer' : List Env) (us : List Value) (vs : List V) (Q : VK), Room k A → Env0 P w K mg base A outer' s H → (∀ t ∈ C.T, LamX.TabS H t.1 t.2) → Vals vs us → spD K (C.at f) n lam vs H Q E0 →
    codeAny (model P w) A (.call (.ref f) ⟨us, []⟩) (CR CX0 outer' P w H s Q E0) s
def scalD : D → Bool
  | .non | .bl _ | .int _ | .str _ => true
  | _ => false
def scalE (E : SE) (j : Nat) : Option D := match E[j]? with
  | some (some d) => if scalD d then some d else none
  | _ => none
def lamS (fb : DF D) (js : List Nat) (E : SE) : List D → List Ob → Option (D × List Ob) := fun ds S => fb (ds.map some ++ js.map (scalE E)) S
section
variable {X : Cx} {C : Ctx} {pins : List (Addr × Obj)} {σ : L2.St} {H : Hp} {s : Shared} {F : Hp} {π : List Addr} {E : SE} {N ps fr : List Str} {js : List Nat} {P : Addr} {q : Str} {params : Arguments} {body : Expr} {scope : Scope} {pos : Pos} {f : Addr} {k : Nat} {fb : DF D}
end
section
variable {P : Program} {w : World} {K : PySem.W.Frag} {mg : Str → Option Value} {base : Heap} {C : Ctx}
abbrev LSem := List D → List Ob → Option (D × List Ob)
structure HoOk (P : Program) (w : World) (K : PySem.W.Frag) (mg : Str → Option Value) (base : Heap) (C : Ctx) (k kl n nl : Nat) (f : Addr) (fd : FuncData) (ps : List Str) (semR : LSem → List D → List Ob → D × List Ob → Prop) : Prop where
  len : ps.length = n + 1
  run : ∀ (A : Around) (outer : List Env) (s : Shared) (H : Hp) (args : Args) (us : List Value) (vs : List V) (fl : Addr) (lam : LSem) (Q : VK), Room k A → Env0 P w K mg base A outer s H → LamAt P w K mg base C kl nl outer s H fl lam → BindsTo s fd args (ps.zip us) → Vals (vs ++ [.ref fl]) us →
    (∃ Λ F π S ds d S', ds.length = n ∧ Wd K C Λ F π S H ∧ RepA K C F π ds vs ∧ semR lam ds S (d, S') ∧ Post K C Λ F π H S' d Q) → codeAny (model P w) A (.call (.ref f) args) (CR CX0 outer P w H s Q E0) s
structure HoFn (P : Program) (w : World) (K : PySem.W.Frag) (mg : Str → Option Value) (base : Heap) (C : Ctx) (k kl : Nat) (x : Str) (n nl : Nat) (semF : LSem → LSem) : Prop where
  ex : ∃ f fd ps, HoOk P w K mg base C k kl n nl f fd ps (fun lam ds S r => semF lam ds S = some r) ∧ mg x = some (.ref f) ∧ PySem.W.keepIn K (.ref f) = true ∧ Binds K fd ps []
theorem HoOk.imp {k kl n nl : Nat} {f : Addr} {fd : FuncData} {ps : List Str} {R R' : LSem → List D → List Ob → D × List Ob → Prop} (h : HoOk P w K mg base C k kl n nl f fd ps R) (hs : ∀ lam ds S r, ds.length = n → R' lam ds S r → R lam ds S r) : HoOk P w K mg base C k kl n nl f fd ps R' := by
  refine ⟨h.len, fun A outer s H args us vs fl lam Q hr e0 hl hb rv hsp => ?_⟩
  obtain ⟨Λ, F, π, S, ds, d, S', hn, wd, rd, hsem, p⟩ := hsp
  exact h.run A outer s H args us vs fl lam Q hr e0 hl hb rv ⟨Λ, F, π, S, ds, d, S', hn, wd, rd, hs _ _ _ _ hn hsem, p⟩
end
section
variable {X : Cx} {C : Ctx} {e : Expr} {es : List Expr} {pos p : Pos} {x a : Str} {k kl n nl i : Nat}
theorem Wd.lam {K : PySem.W.Frag} {Λ : Lk} {F : Hp} {π : List Addr} {S : List Ob} {H H1 : Hp} {P : Addr} {ps : Array Value} (w : Wd K C Λ F π S H) (hP : H P = some (.tbl ps)) (e : ∀ b o, H b = some o → b ≠ P → H1 b = some o) (ht : ∀ t ∈ C.T, LamX.TabS H1 t.1 t.2) : Wd K C Λ F π S H1 where
  ext := fun b u h => e b u (w.ext b u h) fun z => by
    have y := w.ext b u h
    rw [z, hP] at y
    cases y
    exact w.nt b ps h
  len := w.len
  nd := w.nd
  fr := w.fr
  ob := fun k o q h1 h2 => by
    have r := w.ob k o q h1 h2
    obtain ⟨x, hx⟩ := r.there
    exact ObR.heap ((e q x hx fun z => ObR.plain (z ▸ hP) (TblExt.tbl rfl) r).trans hx.symm) r
  tb := ht
  nt := w.nt
theorem Ext.lam {F : Hp} {π : List Addr} {H H1 : Hp} {P : Addr} {ps ps' : Array Value} (hP : H P = some (.tbl ps)) (e : ∀ b o, H b = some o → b ≠ P → H1 b = some o) (hP1 : H1 P = some (.tbl ps')) : Ext F π H F π H1 :=
  ⟨Same.refl _, List.prefix_refl _, fun b o h _ t => e b o h fun z => t ps (by rw [z, hP] at h; exact (Option.some.inj h).symm), fun _ _ _ z => z, fun _ _ _ _ z _ => .inr z, fun b o h _ => by
    by_cases z : b = P
    · exact ⟨_, z ▸ hP1⟩
    · exact ⟨o, e b o h z⟩⟩
def dHo (n : Nat) (semF : LSem → LSem) (fb : DF D) (js : List Nat) (fs : DF (List D)) : DF D := fun E S => (fs E S).bind fun p => if p.1.length = n then semF (lamS fb js E) p.1 p.2 else none
def dFn (i n : Nat) (lam : LSem) (fs : DF (List D)) : DF D := fun E S => (fs E S).bind fun p => match E[i]? with
  | some (some .fn) => if p.1.length = n then lam p.1 p.2 else none
  | _ => none
end
section
variable {P : Program} {w : World} {K : PySem.W.Frag} {mg : Str → Option Value} {base : Heap} {C : Ctx} {f : Addr} {fd : FuncData}
end
structure LTab (K : PySem.W.Frag) (mg : Str → Option Value) (base : Heap) (C : Ctx) (c P : Addr) (q : Str) : Prop where
  tb : LamX.TabB base mg c P
  m : (P, q) ∈ C.T
  u : ∀ t ∈ C.T, t.1 = P → t.2 = q
end DL
set_option Elab.async false
set_option linter.all false
set_option maxRecDepth 100000
set_option maxHeartbeats 2000000
namespace DL
open PySem PySem.Spec PyProof.Rows L2
section
variable {X : Cx} {e : Expr} {te : TE} {apos cpos p pos : Pos}
end
section
variable {X : Cx} {C : Ctx} {e : Expr} {f : DF D} {apos mpos p pos : Pos}
def dVals (f : DF D) : DF (List D) := fun E S => (f E S).bind fun p => match p.1 with
  | .ptr k => match p.2[k]? with
    | some (.dK l) => some (l.map (·.2), p.2)
    | _ => none
  | _ => none
end
end DL
set_option Elab.async false
set_option linter.all false
set_option maxRecDepth 100000
set_option maxHeartbeats 2000000
namespace DL
open PySem PySem.Spec PyProof.Rows L2
section
variable {X : Cx} {k v : Expr} {tk tv : TE} {pos : Pos}
end
section
variable {X : Cx} {C : Ctx} {k v : Expr} {fk fv : DF D} {pos : Pos}
def dDispT (fk fv : DF D) : DF D := fun E S => (fk E S).bind fun p => (fv E p.2).bind fun q => match tkeyOf p.1 with
  | some key => some (.ptr q.2.length, q.2 ++ [.dT [(key, q.1)]])
  | none => none
end
end DL
set_option Elab.async false
set_option linter.all false
set_option maxRecDepth 100000
set_option maxHeartbeats 1000000
namespace DL
open PySem PySem.Spec PyProof.Rows L2
section
variable {E : SE} {S : List Ob} {f fd fk fx fb : DF D} {fs : DF (List D)} {Q : D → List Ob → Prop} {Ql : List D → List Ob → Prop} {n i : Nat} {lam : LSem} {semF : LSem → LSem} {js : List Nat}
theorem w_ho (h : Wp (fs E S) fun xs S1 => xs.length = n ∧ Wp (semF (lamS fb js E) xs S1) Q) : Wp (dHo n semF fb js fs E S) Q := Wp.bind (h.imp fun xs S1 ⟨h1, h2⟩ => by
  simp only
  rw [if_pos h1]
  exact h2)
theorem w_fn (he : E[i]? = some (some .fn)) (h : Wp (fs E S) fun xs S1 => xs.length = n ∧ Wp (lam xs S1) Q) : Wp (dFn i n lam fs E S) Q := Wp.bind (h.imp fun xs S1 ⟨h1, h2⟩ => by
  simp only [he]
  rw [if_pos h1]
  exact h2)
theorem w_vals (h : Wp (f E S) fun d S1 => ∃ k l, d = .ptr k ∧ S1[k]? = some (.dK l) ∧ Ql (l.map (·.2)) S1) : Wp (dVals f E S) Ql := Wp.bind (h.imp fun d S1 ⟨k, l, e, h1, h2⟩ => by
  subst e
  simp only [h1]
  exact .of rfl h2)
theorem w_setdK (h : Wp (fd E S) fun d S1 => isDict S1 d = true ∧ Wp (fk E S1) fun k S2 => Wp (fx E S2) fun x S3 => ∃ j kvs key, d = .ptr j ∧ S3[j]? = some (.dK kvs) ∧ keyOf k = some key ∧ kvs.length < sizeLine ∧ (∀ y, getD' kvs key = some y → Q y S3) ∧ (getD' kvs key = none → Q x (S3.set j (.dK (putD kvs key x))))) : Wp (dSetd fd fk fx E S) Q := by
  obtain ⟨d, S1, e1, hd, k, S2, e2, x, S3, e3, j, kvs, key, rfl, h1, h2, h3, h4, h5⟩ := h
  cases hg : getD' kvs key with
  | none =>
    refine .of ?_ (h5 hg)
    unfold dSetd
    rw [e1, Option.bind_some, if_pos hd, e2, Option.bind_some, e3, Option.bind_some]
    simp only [h1, h2, h3, if_true, hg]
  | some y =>
    refine .of ?_ (h4 y hg)
    unfold dSetd
    rw [e1, Option.bind_some, if_pos hd, e2, Option.bind_some, e3, Option.bind_some]
    simp only [h1, h2, h3, if_true, hg]
theorem w_dispT (h : Wp (fk E S) fun k S1 => Wp (fx E S1) fun x S2 => ∃ key, tkeyOf k = some key ∧ Q (.ptr S2.length) (S2 ++ [.dT [(key, x)]])) : Wp (dDispT fk fx E S) Q := by
  obtain ⟨k, S1, e1, x, S2, e2, key, e3, q⟩ := h
  refine .of ?_ q
  unfold dDispT
  rw [e1, Option.bind_some, e2, Option.bind_some]
  simp only [e3]
end
end DL
set_option Elab.async false
set_option linter.all false
set_option maxRecDepth 100000
set_option maxHeartbeats 1000000
namespace DL
open PySem PySem.Spec PyProof.Rows L2
noncomputable section
section
variable {n : Nat} {S : List Ob} {b : D}
theorem inv_non (h : Rz n S b .non) : b = .non := by cases b <;> simp [Rz] at h <;> rfl
theorem inv_bl {x : Bool} (h : Rz n S b (.bl x)) : b = .bl x := by cases b <;> simp [Rz] at h <;> rw [h]
theorem inv_int {x : Int} (h : Rz n S b (.int x)) : b = .int x := by cases b <;> simp [Rz] at h <;> rw [h]
theorem inv_str {x : Str} (h : Rz n S b (.str x)) : b = .str x := by cases b <;> simp [Rz] at h <;> rw [h]
theorem inv_scr (h : Rz n S b .scr) : b = .scr := by cases b <;> simp [Rz] at h <;> rfl
theorem inv_ty {x : String} (h : Rz n S b (.ty x)) : b = .ty x := by cases b <;> simp [Rz] at h <;> rw [h]
theorem inv_fn (h : Rz n S b .fn) : b = .fn := by cases b <;> simp [Rz] at h <;> rfl
theorem inv_cls {x : Nat} (h : Rz n S b (.cls x)) : b = .cls x := by cases b <;> simp [Rz] at h <;> rw [h]
theorem inv_exc {c : Nat} {x : D} (h : Rz n S b (.exc c x)) : ∃ y, b = .exc c y ∧ Rz n S y x := by
  cases b with
  | exc c2 y =>
    obtain ⟨z, e, h⟩ := h
    cases e
    exact ⟨_, rfl, h⟩
  | lst _ => rcases h with ⟨_, e, _⟩ | ⟨_, _, _, e, _⟩ <;> cases e
  | dK _ => rcases h with ⟨_, e, _⟩ | ⟨_, _, _, e, _⟩ <;> cases e
  | dT _ => rcases h with ⟨_, e, _⟩ | ⟨_, _, _, e, _⟩ <;> cases e
  | obj _ _ => rcases h with ⟨_, e, _⟩ | ⟨_, _, _, e, _⟩ <;> cases e
  | tup _ => obtain ⟨_, e, _⟩ := h; cases e
  | ktp _ => obtain ⟨_, e, _⟩ := h; cases e
  | ptr _ => obtain ⟨e, _⟩ := h; cases e
  | _ => exact (nomatch h)
theorem inv_lst {xs : List D} (h : Rz n S b (.lst xs)) : ∃ ys, b = .lst ys ∧ RzA n S ys xs := by cases b <;> simp [Rz] at h <;> exact ⟨_, rfl, h⟩
theorem inv_tup {xs : List D} (h : Rz n S b (.tup xs)) : ∃ ys, b = .tup ys ∧ RzA n S ys xs := by cases b <;> simp [Rz] at h <;> exact ⟨_, rfl, h⟩
theorem inv_ktp {xs : List D} (h : Rz n S b (.ktp xs)) : ∃ ys, b = .ktp ys ∧ RzA n S ys xs := by cases b <;> simp [Rz] at h <;> exact ⟨_, rfl, h⟩
theorem inv_dK {xs : List (Key × D)} (h : Rz n S b (.dK xs)) : ∃ ys, b = .dK ys ∧ RzK n S ys xs := by cases b <;> simp [Rz] at h <;> exact ⟨_, rfl, h⟩
theorem inv_dT {xs : List (List Key × D)} (h : Rz n S b (.dT xs)) : ∃ ys, b = .dT ys ∧ RzT n S ys xs := by cases b <;> simp [Rz] at h <;> exact ⟨_, rfl, h⟩
theorem inv_obj {c : Nat} {xs : List (Str × D)} (h : Rz n S b (.obj c xs)) : ∃ ys, b = .obj c ys ∧ RzF n S ys xs := by
  cases b with
  | obj c2 ys =>
    rcases h with ⟨_, e, h⟩ | ⟨k2, xs2, _, e, h1, h2⟩
    · cases e
      exact ⟨_, rfl, h⟩
    · cases e
  | _ => simp [Rz] at h
theorem inv_lo {k : Nat} (hk : k < n) (h : Rz n S b (.ptr k)) : b = .ptr k := by
  cases b <;> simp [Rz] at h <;> first | (rw [h.1]) | omega
theorem inv_pL {k : Nat} {xs : List D} (hk : n ≤ k) (hs : S[k]? = some (.lst xs)) (h : Rz n S b (.ptr k)) : ∃ ys, b = .lst ys ∧ RzA n S ys xs := by
  cases b with
  | lst ys =>
    rcases h with ⟨_, e, _⟩ | ⟨k2, xs2, _, e, h1, h2⟩
    · cases e
    · cases e
      rw [hs] at h1
      cases h1
      exact ⟨_, rfl, h2⟩
  | dK ys =>
    rcases h with ⟨_, e, _⟩ | ⟨k2, xs2, _, e, h1, h2⟩
    · cases e
    · cases e
      rw [hs] at h1
      cases h1
  | dT ys =>
    rcases h with ⟨_, e, _⟩ | ⟨k2, xs2, _, e, h1, h2⟩
    · cases e
    · cases e
      rw [hs] at h1
      cases h1
  | obj c ys =>
    rcases h with ⟨_, e, _⟩ | ⟨k2, xs2, _, e, h1, h2⟩
    · cases e
    · cases e
      rw [hs] at h1
      cases h1
  | ptr k2 =>
    obtain ⟨e, h2⟩ := h
    cases e
    exact absurd h2 (Nat.not_lt.mpr hk)
  | _ => simp [Rz] at h
theorem inv_pK {k : Nat} {xs : List (Key × D)} (hk : n ≤ k) (hs : S[k]? = some (.dK xs)) (h : Rz n S b (.ptr k)) : ∃ ys, b = .dK ys ∧ RzK n S ys xs := by
  cases b with
  | lst ys =>
    rcases h with ⟨_, e, _⟩ | ⟨k2, xs2, _, e, h1, h2⟩
    · cases e
    · cases e
      rw [hs] at h1
      cases h1
  | dK ys =>
    rcases h with ⟨_, e, _⟩ | ⟨k2, xs2, _, e, h1, h2⟩
    · cases e
    · cases e
      rw [hs] at h1
      cases h1
      exact ⟨_, rfl, h2⟩
  | dT ys =>
    rcases h with ⟨_, e, _⟩ | ⟨k2, xs2, _, e, h1, h2⟩
    · cases e
    · cases e
      rw [hs] at h1
      cases h1
  | obj c ys =>
    rcases h with ⟨_, e, _⟩ | ⟨k2, xs2, _, e, h1, h2⟩
    · cases e
    · cases e
      rw [hs] at h1
      cases h1
  | ptr k2 =>
    obtain ⟨e, h2⟩ := h
    cases e
    exact absurd h2 (Nat.not_lt.mpr hk)
  | _ => simp [Rz] at h
theorem inv_pT {k : Nat} {xs : List (List Key × D)} (hk : n ≤ k) (hs : S[k]? = some (.dT xs)) (h : Rz n S b (.ptr k)) : ∃ ys, b = .dT ys ∧ RzT n S ys xs := by
  cases b with
  | lst ys =>
    rcases h with ⟨_, e, _⟩ | ⟨k2, xs2, _, e, h1, h2⟩
    · cases e
    · cases e
      rw [hs] at h1
      cases h1
  | dK ys =>
    rcases h with ⟨_, e, _⟩ | ⟨k2, xs2, _, e, h1, h2⟩
    · cases e
    · cases e
      rw [hs] at h1
      cases h1
  | dT ys =>
    rcases h with ⟨_, e, _⟩ | ⟨k2, xs2, _, e, h1, h2⟩
    · cases e
    · cases e
      rw [hs] at h1
      cases h1
      exact ⟨_, rfl, h2⟩
  | obj c ys =>
    rcases h with ⟨_, e, _⟩ | ⟨k2, xs2, _, e, h1, h2⟩
    · cases e
    · cases e
      rw [hs] at h1
      cases h1
  | ptr k2 =>
    obtain ⟨e, h2⟩ := h
    cases e
    exact absurd h2 (Nat.not_lt.mpr hk)
  | _ => simp [Rz] at h
theorem inv_pI {k c : Nat} {xs : List (Str × D)} (hk : n ≤ k) (hs : S[k]? = some (.ins c xs)) (h : Rz n S b (.ptr k)) : ∃ ys, b = .obj c ys ∧ RzF n S ys xs := by
  cases b with
  | lst ys =>
    rcases h with ⟨_, e, _⟩ | ⟨k2, xs2, _, e, h1, h2⟩
    · cases e
    · cases e
      rw [hs] at h1
      cases h1
  | dK ys =>
    rcases h with ⟨_, e, _⟩ | ⟨k2, xs2, _, e, h1, h2⟩
    · cases e
    · cases e
      rw [hs] at h1
      cases h1
  | dT ys =>
    rcases h with ⟨_, e, _⟩ | ⟨k2, xs2, _, e, h1, h2⟩
    · cases e
    · cases e
      rw [hs] at h1
      cases h1
  | obj c ys =>
    rcases h with ⟨_, e, _⟩ | ⟨k2, xs2, _, e, h1, h2⟩
    · cases e
    · cases e
      rw [hs] at h1
      cases h1
      exact ⟨_, rfl, h2⟩
  | ptr k2 =>
    obtain ⟨e, h2⟩ := h
    cases e
    exact absurd h2 (Nat.not_lt.mpr hk)
  | _ => simp [Rz] at h
end
section
variable {n : Nat} {S : List Ob}
mutual
theorem rz_uniq : ∀ (a b d : D), Rz n S a d → Rz n S b d → a = b
  | .non, b, d, h, g => by cases (show d = .non from h); exact (inv_non g).symm
  | .bl x, b, d, h, g => by cases (show d = .bl x from h); exact (inv_bl g).symm
  | .int x, b, d, h, g => by cases (show d = .int x from h); exact (inv_int g).symm
  | .str x, b, d, h, g => by cases (show d = .str x from h); exact (inv_str g).symm
  | .scr, b, d, h, g => by cases (show d = .scr from h); exact (inv_scr g).symm
  | .ty x, b, d, h, g => by cases (show d = .ty x from h); exact (inv_ty g).symm
  | .cls x, b, d, h, g => by cases (show d = .cls x from h); exact (inv_cls g).symm
  | .fn, b, d, h, g => by cases (show d = .fn from h); exact (inv_fn g).symm
  | .exc c y, b, d, h, g => by
    obtain ⟨x, rfl, h⟩ := h
    obtain ⟨z, rfl, g2⟩ := inv_exc g
    rw [rz_uniq y z x h g2]
  | .ptr k, b, d, h, g => by obtain ⟨rfl, hk⟩ := h; exact (inv_lo hk g).symm
  | .tup ys, b, d, h, g => by
    obtain ⟨xs, rfl, h⟩ := h
    obtain ⟨zs, rfl, g2⟩ := inv_tup g
    rw [rzA_uniq ys zs xs h g2]
  | .ktp ys, b, d, h, g => by
    obtain ⟨xs, rfl, h⟩ := h
    obtain ⟨zs, rfl, g2⟩ := inv_ktp g
    rw [rzA_uniq ys zs xs h g2]
  | .lst ys, b, d, h, g => by
    rcases h with ⟨xs, rfl, h⟩ | ⟨k, xs, hk, rfl, hs, h⟩
    · obtain ⟨zs, rfl, g2⟩ := inv_lst g
      rw [rzA_uniq ys zs xs h g2]
    · obtain ⟨zs, rfl, g2⟩ := inv_pL hk hs g
      rw [rzA_uniq ys zs xs h g2]
  | .dK ys, b, d, h, g => by
    rcases h with ⟨xs, rfl, h⟩ | ⟨k, xs, hk, rfl, hs, h⟩
    · obtain ⟨zs, rfl, g2⟩ := inv_dK g
      rw [rzK_uniq ys zs xs h g2]
    · obtain ⟨zs, rfl, g2⟩ := inv_pK hk hs g
      rw [rzK_uniq ys zs xs h g2]
  | .dT ys, b, d, h, g => by
    rcases h with ⟨xs, rfl, h⟩ | ⟨k, xs, hk, rfl, hs, h⟩
    · obtain ⟨zs, rfl, g2⟩ := inv_dT g
      rw [rzT_uniq ys zs xs h g2]
    · obtain ⟨zs, rfl, g2⟩ := inv_pT hk hs g
      rw [rzT_uniq ys zs xs h g2]
  | .obj c ys, b, d, h, g => by
    rcases h with ⟨xs, rfl, h⟩ | ⟨k, xs, hk, rfl, hs, h⟩
    · obtain ⟨zs, rfl, g2⟩ := inv_obj g
      rw [rzF_uniq ys zs xs h g2]
    · obtain ⟨zs, rfl, g2⟩ := inv_pI hk hs g
      rw [rzF_uniq ys zs xs h g2]
theorem rzA_uniq : ∀ (a b d : List D), RzA n S a d → RzA n S b d → a = b
  | [], b, d, h, g => by
    cases (show d = [] from h)
    cases b with
    | nil => rfl
    | cons y b => obtain ⟨_, _, e, _⟩ := g; cases e
  | x :: a, b, d, h, g => by
    obtain ⟨u, d, rfl, h1, h2⟩ := h
    cases b with
    | nil => cases (show u :: d = [] from g)
    | cons y b =>
      obtain ⟨v, d', e, g1, g2⟩ := g
      cases e
      rw [rz_uniq x y u h1 g1, rzA_uniq a b d h2 g2]
theorem rzK_uniq : ∀ (a b d : List (Key × D)), RzK n S a d → RzK n S b d → a = b
  | [], b, d, h, g => by
    cases (show d = [] from h)
    cases b with
    | nil => rfl
    | cons y b => obtain ⟨_, _, e, _⟩ := g; cases e
  | (k, x) :: a, b, d, h, g => by
    obtain ⟨u, d, rfl, h1, h2⟩ := h
    cases b with
    | nil => cases (show (k, u) :: d = [] from g)
    | cons y b =>
      obtain ⟨v, d', e, g1, g2⟩ := g
      cases e
      rw [rz_uniq x y.2 u h1 g1, rzK_uniq a b d h2 g2]
theorem rzT_uniq : ∀ (a b d : List (List Key × D)), RzT n S a d → RzT n S b d → a = b
  | [], b, d, h, g => by
    cases (show d = [] from h)
    cases b with
    | nil => rfl
    | cons y b => obtain ⟨_, _, e, _⟩ := g; cases e
  | (k, x) :: a, b, d, h, g => by
    obtain ⟨u, d, rfl, h1, h2⟩ := h
    cases b with
    | nil => cases (show (k, u) :: d = [] from g)
    | cons y b =>
      obtain ⟨v, d', e, g1, g2⟩ := g
      cases e
      rw [rz_uniq x y.2 u h1 g1, rzT_uniq a b d h2 g2]
theorem rzF_uniq : ∀ (a b d : List (Str × D)), RzF n S a d → RzF n S b d → a = b
  | [], b, d, h, g => by
    cases (show d = [] from h)
    cases b with
    | nil => rfl
    | cons y b => obtain ⟨_, _, e, _⟩ := g; cases e
  | (k, x) :: a, b, d, h, g => by
    obtain ⟨u, d, rfl, h1, h2⟩ := h
    cases b with
    | nil => cases (show (k, u) :: d = [] from g)
    | cons y b =>
      obtain ⟨v, d', e, g1, g2⟩ := g
      cases e
      rw [rz_uniq x y.2 u h1 g1, rzF_uniq a b d h2 g2]
end
end
end
end DL
set_option Elab.async false
set_option linter.all false
set_option maxRecDepth 100000
set_option maxHeartbeats 16000000
namespace DL
open PySem PySem.Spec PyProof.Rows L2
noncomputable section
local macro_rules | `(tactic| walk_at "wp") => `(tactic| first
  | (with_reducible first | apply w_seq | apply w_sV | apply w_sW | apply w_if | apply w_asg | apply w_ret | apply w_drop | apply w_sNil | apply w_test | apply w_not | apply w_bin | apply w_c0 | apply w_c1 | apply w_cn | apply w_c | apply w_nil | apply w_cons | apply w_few | apply w_tree | apply w_new | apply w_tup | apply w_cb | apply w_call | apply w_isi | apply w_fld | apply w_nopart | apply w_part | apply w_slL | apply w_slS | apply w_dget | apply w_newK | apply w_newT | apply w_app | apply w_lst0 | apply w_prop | apply w_ownE | apply w_ownN | apply w_catN | apply w_get1 | apply w_get2 | apply w_and | apply w_or | apply w_andV | apply w_orV | apply w_notV | apply w_dif | apply w_retN | apply w_par | apply w_gN | apply w_gsNil | apply w_gsCons | apply w_gSetL | apply w_asgG | apply w_sFld | apply w_sDP | apply w_iLst | apply w_iTu | apply w_iSt | apply w_iRg1 | apply w_iRg2 | apply w_for | apply w_lc | apply w_lock | apply w_iDk | apply w_join | apply w_meth | apply w_enu | apply w_nget2 | apply w_zipN | apply w_augL | apply w_newN | apply w_nget | apply w_sNP | apply w_iNk | apply w_iVy | apply w_iIy | apply w_sLock | apply w_par3 | apply w_iZip | apply w_dZip | apply w_orO | apply w_rem | apply w_revL | apply w_ho | apply w_vals | apply w_setdK | apply w_dispT | apply w_iKy | apply w_tix | apply w_tupRg | apply w_setdT | apply w_treeK | apply w_newD | apply w_treeT | apply w_newDT | apply nxt_nx | apply nxt_rt)
  | (with_reducible refine w_var (by with_unfolding_all rfl) ?_) | (with_reducible refine w_fn (by with_unfolding_all rfl) ?_) | (with_reducible refine w_gTu (by with_unfolding_all rfl) (by with_unfolding_all rfl) ?_) | (with_reducible refine w_aug (by with_unfolding_all rfl) ?_)
  | ((fail_if_success (with_reducible apply wp_id)); first
  | (refine ⟨lenOk (Nat.le_of_ble_eq_true rfl), ?_⟩) | (refine ⟨show _ ≤ 1000000 by omega, ?_⟩) | (refine ⟨(Nat.le_of_ble_eq_true rfl : _ ≤ 1000000), ?_⟩) | (refine ⟨rfl, ?_⟩)
  | (refine br_t ?_) | (refine br_f ?_) | (with_reducible refine br_n ?_) | (refine br_yes (by first | assumption | exact rfl | omega) ?_) | (refine br_no (by first | assumption | omega) ?_)
  | (with_reducible refine ⟨_, eq_int _ _, ?_⟩) | (with_reducible refine ⟨_, ne_int _ _, ?_⟩) | (with_reducible refine ⟨_, eq_wd _ _, ?_⟩) | (with_reducible refine ⟨_, ne_wd _ _, ?_⟩) | (with_reducible refine ⟨_, eq_str _ _, ?_⟩) | (with_reducible refine ⟨_, ne_str _ _, ?_⟩) | (with_reducible refine ⟨_, in_tup _, ?_⟩) | (with_reducible refine ⟨_, in_ktp _, ?_⟩) | (with_reducible refine ⟨_, in_lst _, ?_⟩) | (with_reducible refine ⟨_, len_lst', ?_⟩) | (with_reducible refine ⟨_, add_wd (by first | omega | (simp; omega)), ?_⟩)
  | (with_reducible refine ⟨_, opMul_ev (.inr (by omega)), ?_⟩) | (with_reducible refine ⟨_, opMul_ev (.inl (by omega)), ?_⟩) | (with_reducible refine ⟨_, opMod_ev (by first | assumption | omega), ?_⟩) | (with_reducible refine ⟨_, opDiv_ev (by first | assumption | omega), ?_⟩)
  | (with_reducible refine ⟨_, add_int _ _, ?_⟩) | (with_reducible refine ⟨_, sub_int _ _, ?_⟩) | (with_reducible refine ⟨_, cmp_int _ _, ?_⟩) | (with_reducible refine ⟨_, lst_lst _, ?_⟩) | (with_reducible refine ⟨_, tup_tup _, ?_⟩) | (with_reducible refine ⟨_, ktp_ktp _, ?_⟩) | (with_reducible refine ⟨_, isi_str _, ?_⟩) | (with_reducible refine ⟨_, isi_lst _, ?_⟩) | (with_reducible refine ⟨_, isi_code _, ?_⟩) | (with_reducible refine ⟨_, int_int _, ?_⟩) | (with_reducible refine ⟨_, str_str _, ?_⟩) | (with_reducible refine ⟨_, is_tup _, ?_⟩) | (with_reducible refine ⟨_, is_non, ?_⟩) | (with_reducible refine ⟨_, isn_tup _, ?_⟩) | (with_reducible refine ⟨_, isn_non, ?_⟩) | (with_reducible refine ⟨_, isn_bl _ _, ?_⟩) | (with_reducible refine ⟨_, is_bl _ _, ?_⟩) | (with_reducible refine ⟨_, list_lst _, ?_⟩) | (with_reducible refine ⟨_, fld_waysW _, ?_⟩) | (with_reducible refine ⟨_, fld_headsW _, ?_⟩) | (with_reducible refine ⟨_, fld_rowsW _, ?_⟩) | (with_reducible refine ⟨_, lstOf_end _, ?_⟩) | (with_reducible apply ex_bl) | (with_reducible apply ex_int) | (with_reducible apply ex_str) | (with_reducible apply ex_two) | (with_reducible apply ex_rg) | (with_reducible refine ex_rgi (by with_unfolding_all rfl) ?_))
  | fail)
theorem w_exc {c : Nat} {f : DF D} {E : SE} {S : List Ob} {Q : D → List Ob → Prop} (h : Wp (f E S) fun x S1 => Q (.exc c x) S1) : Wp (EX.dExc c (dCons f dNil) E S) Q := by
  obtain ⟨x, S1, e, q⟩ := h
  refine .of ?_ q
  unfold EX.dExc dCons
  rw [e]
  rfl
theorem w_excK {c : Nat} {f : DF D} {E : SE} {S : List Ob} {Q : D → List Ob → Prop} (h : Wp (f E S) fun x S1 => Q (.exc c x) S1) : Wp (EX.dExcK c f E S) Q := by
  obtain ⟨x, S1, e, q⟩ := h
  refine .of ?_ q
  unfold EX.dExcK
  rw [e]
  rfl
theorem w_exc0 {c : Nat} {E : SE} {S : List Ob} {Q : D → List Ob → Prop} (h : Q (.exc c .non) S) : Wp (EX.dExc0 c E S) Q := .of rfl h
theorem w_isi0 {g : Tg → Option Bool} {f : DF D} {E : SE} {S : List Ob} {Q : D → List Ob → Prop} (h : Wp (f E S) fun d S1 => ∃ b, (EX.tg0Of S1 d).bind g = some b ∧ Q (.bl b) S1) : Wp (EX.dIsi0 g f E S) Q := by
  obtain ⟨d, S1, e, b, h1, q⟩ := h
  refine .of ?_ q
  unfold EX.dIsi0
  rw [e, Option.bind_some]
  simp only [h1, Option.map_some]
local macro_rules | `(tactic| walk_at "wp") => `(tactic| with_reducible first | apply w_exc | apply w_excK | apply w_exc0 | apply w_isi0)
def g__law_classes : DFS := (sSeq (sAsg 1 (dTree (few (dCons (EX.dIsx (EX.gXi 8 0) (dVar 0)) (dCons (EX.dIsx (EX.gXi 8 1) (dVar 0)) (dCons (EX.dIsx (EX.gXi 8 2) (dVar 0)) dNil))))))
    (sSeq (sAsg 1 (dTree (dCatN (dVar 1) (dTree (few (dCons (EX.dIsx (EX.gXi 8 3) (dVar 0)) (dCons (EX.dIsx (EX.gXi 8 4) (dVar 0)) dNil)))))))
    (sSeq (sAsg 1 (dTree (dCatN (dVar 1) (dTree (few (dCons (EX.dIsx (EX.gXi 8 5) (dVar 0)) dNil))))))
    (sSeq (sAsg 1 (dTree (dCatN (dVar 1) (dTree (few (dCons (EX.dIsx (EX.gXi 8 6) (dVar 0)) (dCons (EX.dIsx (EX.gXi 8 7) (dVar 0)) dNil)))))))
    (sSeq (sIf (dOr (dNot (dTest (EX.dIsx (EX.gXa 8) (dVar 0)))) (dNot (dTest (EX.dIsx (EX.gXa 8) (dVar 0))))) (sRet (dTree (few dNil))) sNil)
    (sRet (dTree (dLc [2] (iRg1 (dCons (dCB fLen (dCons (dVar 1) dNil)) dNil)) (gN 2) (dTest (dBin atD (dVar 1) (dVar 2))) (dVar 2)))))))))
abbrev c__law_classes : List D → List Ob → Option (D × List Ob) := runB 3 g__law_classes
def g__law_right : DFS := (sSeq (sAsg 2 (dTree (dLc [3] (iLst (dVar 0)) (gN 3) dYes (EX.dXval (dVar 3)))))
    (sSeq (sIf (dTest (dBin opNe (dCB EX.fReprX (dCons (dVar 2) dNil)) (dCB EX.fReprX (dCons (dTree (dRepN (dTree (few (dCons (dVar 1) dNil))) (dCB fLen (dCons (dVar 0) dNil)))) dNil)))) (sRet (dC (.bl false))) sNil)
    (sRet (dBin opEq (dTree (dLc [3] (iLst (dVar 0)) (gN 3) dYes (dCall 1 c__law_classes (dCons (dVar 3) dNil)))) (dTree (dLc [4] (iRg1 (dCons (dCB fLen (dCons (dVar 0) dNil)) dNil)) (gN 4) dYes (dTree (few (dCons (dVar 4) dNil)))))))))
abbrev c__law_right : List D → List Ob → Option (D × List Ob) := runB 5 g__law_right
def g_law (C : Ctx) : DFS := (sSeq (sAsg 1 (dCall 2 (c__law_purse C) (dCons (dVar 0) (dCons (dC (.int 0)) dNil))))
    (sSeq (sAsg 2 (dBin opAdd (dBin opMul (dCall 2 c__law_draw (dCons (dVar 1) (dCons (dBin opPow (dC (.int 10)) (dC (.int 6))) dNil))) (dBin opPow (dC (.int 10)) (dC (.int 33)))) (dCall 2 c__law_draw (dCons (dVar 1) (dCons (dBin opPow (dC (.int 10)) (dC (.int 6))) dNil)))))
    (sSeq (sAsg 3 (dCall 2 c__law_pick (dCons (dVar 1) (dCons (dTree (few (dCons (dC .non) (dCons (dC (.bl true)) (dCons (dVar 2) (dCons (dBin opSub (dC (.int 0)) (dVar 2)) (dCons (dBin opMulT (dC (.str "x")) (dCall 2 c__law_draw (dCons (dVar 1) (dCons (dC (.int 9)) dNil)))) (dCons (dTup dNil) (dCons (dNew (few (dCons (dVar 2) dNil))) (dCons (dNew (few (dCons (dTree (few dNil)) (dCons (dTree (few (dCons (dC (.str "a")) dNil))) dNil)))) (dCons dNewK dNil))))))))))) dNil))))
    (sSeq (sAsg 4 (dTree (few (dCons (EX.dExc 0 (dCons (dVar 3) dNil)) (dCons (EX.dExc 1 (dCons (dVar 3) dNil)) (dCons (EX.dExc 2 (dCons (dVar 3) dNil)) (dCons (EX.dExc 3 (dCons (dVar 3) dNil)) dNil)))))))
    (sSeq (sAsg 4 (dTree (dCatN (dVar 4) (dTree (few (dCons (EX.dExc 4 (dCons (dVar 3) dNil)) dNil))))))
    (sSeq (sAsg 4 (dTree (dCatN (dVar 4) (dTree (few (dCons (EX.dExc 5 (dCons (dVar 3) dNil)) (dCons (EX.dExc 6 (dCons (dVar 3) dNil)) (dCons (EX.dExc 7 (dCons (dVar 3) dNil)) dNil))))))))
    (sSeq (sAsg 5 (dNew (few (dCons (EX.dExcK 0 (dVar 3)) (dCons (EX.dExcK 1 (dVar 3)) (dCons (EX.dExcK 2 (dVar 3)) dNil))))))
    (sSeq (sAsg 5 (dNew (dCatN (dVar 5) (dTree (few (dCons (EX.dExcK 3 (dVar 3)) dNil))))))
    (sSeq (sAsg 5 (dNew (dCatN (dVar 5) (dTree (few (dCons (EX.dExcK 4 (dVar 3)) (dCons (EX.dExcK 5 (dVar 3)) (dCons (EX.dExcK 6 (dVar 3)) dNil))))))))
    (sSeq (sDrop (dApp (dVar 5) (EX.dExcK 7 (dVar 3))))
    (sSeq (sAsg 6 (dTree (few (dCons (EX.dExc0 0) (dCons (EX.dExc0 1) (dCons (EX.dExc0 2) (dCons (EX.dExc0 3) (dCons (EX.dExc0 4) (dCons (EX.dExc0 5) dNil)))))))))
    (sSeq (sAsg 6 (dTree (dCatN (dVar 6) (dTree (few (dCons (EX.dExc0 6) (dCons (EX.dExc0 7) dNil)))))))
    (sSeq (sIf (dOr (dNot (dTest (dCall 2 c__law_right (dCons (dVar 4) (dCons (dVar 3) dNil))))) (dOr (dNot (dTest (dCall 2 c__law_right (dCons (dVar 5) (dCons (dVar 3) dNil))))) (dNot (dTest (dCall 2 c__law_right (dCons (dVar 6) (dCons (dC .non) dNil))))))) (sRet (dC (.bl false))) sNil)
    (sSeq (sIf (dTest (EX.dIsi0 (isiB "list") (dVar 3))) (sSeq (sDrop (dApp (dVar 3) (dC (.str "more"))))
    (sRet (dAndV (dCall 2 c__law_right (dCons (dVar 4) (dCons (dVar 3) dNil))) (dCall 2 c__law_right (dCons (dVar 5) (dCons (dVar 3) dNil)))))) sNil)
    (sRet (dC (.bl true)))))))))))))))))
def exs (g : D) : List D := (List.range 8).map fun n => .exc n g
theorem classes_ok {S : List Ob} {g : D} : ∀ n < 8, c__law_classes [.exc n g] S = some (.lst [.int (n : Nat)], S)
  | 0, _ => by kernel_rfl
  | 1, _ => by kernel_rfl
  | 2, _ => by kernel_rfl
  | 3, _ => by kernel_rfl
  | 4, _ => by kernel_rfl
  | 5, _ => by kernel_rfl
  | 6, _ => by kernel_rfl
  | 7, _ => by kernel_rfl
  | n + 8, h => by omega
theorem right_ok {S : List Ob} {d g t : D} (hl : lstOf S d = some (exs g)) (h : EX.fReprX S [.lst (List.replicate 8 g)] = some t) (hs : ∃ x, t = .str x) : c__law_right [d, g] S = some (.bl true, S) := by
  have key : Wp (runB 5 g__law_right [d, g] S) fun r S' => r = .bl true ∧ S' = S := by
    obtain ⟨x, rfl⟩ := hs
    have hn : fLen S [d] = some (.int 8) := len_lst hl
    refine w_run ?_
    unfold g__law_right
    repeat' (walk_at "wp")
    refine ⟨_, hl, ?_⟩
    refine lcm_by (List.range 8) (fun n => .exc n g) (fun _ => g) (gv_live hl) (by decide) (fun n _ => ?_) ?_
    · repeat' (walk_at "wp")
      exact .of (a := g) (S' := S) rfl ⟨rfl, rfl⟩
    repeat' (walk_at "wp")
    refine ⟨_, h, ?_⟩
    repeat' (walk_at "wp")
    refine w_repN ?_
    repeat' (walk_at "wp")
    refine ⟨_, hn, ?_⟩
    refine ⟨[g], 8, rfl, rfl, by rfl, ?_⟩
    repeat' (walk_at "wp")
    refine ⟨_, h, ?_⟩
    repeat' (walk_at "wp")
    refine ⟨_, hl, ?_⟩
    refine lcm_by (List.range 8) (fun n => .exc n g) (fun n => .lst [.int (n : Nat)]) (gv_live hl) (by decide) (fun n hm => ?_) ?_
    · repeat' (walk_at "wp")
      exact .of (classes_ok n (List.mem_range.mp hm)) ⟨rfl, rfl⟩
    repeat' (walk_at "wp")
    refine ⟨_, hn, ?_⟩
    repeat' (walk_at "wp")
    refine lcm_by (List.range 8) (fun n => .int (n : Nat)) (fun n => .lst [.int (n : Nat)]) gv_fix (by decide) (fun n _ => ?_) ?_
    · repeat' (walk_at "wp")
      exact rfl
    repeat' (walk_at "wp")
    exact ⟨.bl true, by kernel_rfl, rfl, rfl⟩
  obtain ⟨_, _, e, rfl, rfl⟩ := key
  exact e
theorem repr8 {S : List Ob} {g : D} {p : PyData} (h : toP S 59 g = some p) (h1 : p.showable = true) (h2 : p.hasDict = false) (h3 : p.depth ≤ 50) (h4 : p.shown.length ≤ 100000) : ∃ t, EX.fReprX S [.lst (List.replicate 8 g)] = some (.str t) := by
  have hp : toP S 60 (.lst (List.replicate 8 g)) = some (.list (List.replicate 8 p)) := by
    simp [toP, tupOf, lstOf, h]
  have ok : okP (.list (List.replicate 8 p)) := by
    refine ⟨?_, ?_, ?_, ?_⟩
    · simp [PyData.showable, PyData.showableAll, h1, List.replicate]
    · simp [PyData.hasDict, PyData.hasDictAll, h2, List.replicate]
    · simp [PyData.depth, PyData.depthAll, List.replicate]
      omega
    · rw [sizeLine_eq]
      have e1 : (PySem.Str.ofString "[").length = 1 := rfl
      have e2 : (PySem.Str.ofString "").length = 0 := rfl
      have e3 : (PySem.Str.ofString ", ").length = 2 := rfl
      have e4 : (PySem.Str.ofString "]").length = 1 := rfl
      simp [PyData.shown, PyData.shownAll, List.replicate, listText, textFrom, strLen_append]
      omega
  have old : fRepr S [.lst (List.replicate 8 g)] = some (.str (PyData.list (List.replicate 8 p)).shown) := by
    simp only [fRepr, hp, Option.bind_some, if_pos ok]
  have hx : lstOf S (.lst (List.replicate 8 g)) = some (List.replicate 8 g) := rfl
  simp only [EX.fReprX, hx]
  split
  · exact ⟨_, rfl⟩
  · exact ⟨_, old⟩
def Sh (S : List Ob) (x : D) : Prop := ∃ t, EX.fReprX S [.lst (List.replicate 8 x)] = some (.str t)
structure Giv (S : List Ob) (x : D) : Prop where
  sh : ∀ Y, Sh (S ++ Y) x
  ty : ∃ t b, (∀ Y, EX.tg0Of (S ++ Y) x = some t) ∧ isiB "list" t = some b ∧ (b = true → ∃ k ys, x = .ptr k ∧ S[k]? = some (.lst ys) ∧ ys.length < 100 ∧ ∀ Y, Sh ((S ++ Y).set k (.lst (ys ++ [.str "more"]))) x)
theorem giv_no {S : List Ob} {x : D} {p : PyData} {t : Tg} (h : ∀ X, toP X 59 x = some p) (h1 : p.showable = true) (h2 : p.hasDict = false) (h3 : p.depth ≤ 50) (h4 : p.shown.length ≤ 100000) (ht : ∀ X, EX.tg0Of X x = some t) (hf : isiB "list" t = some false) : Giv S x :=
  ⟨fun Y => repr8 (h _) h1 h2 h3 h4, t, false, fun Y => ht _, hf, fun z => nomatch z⟩
theorem toP_ptr {X : List Ob} {k n : Nat} {ys : List D} (h : X[k]? = some (.lst ys)) : toP X (n + 1) (.ptr k) = (ys.mapM (toP X n)).map .list := by
  simp [toP, tupOf, lstOf, h]
theorem giv_li {S : List Ob} {k : Nat} {ys : List D} {ps : List PyData} (hk : S[k]? = some (.lst ys)) (hp : ∀ X, ys.mapM (toP X 58) = some ps) (hl : ys.length < 100) (h1 : PyData.showableAll ps = true) (h2 : PyData.hasDictAll ps = false) (h3 : PyData.depthAll ps ≤ 40) (h4 : (PyData.list ps).shown.length ≤ 100000)
    (h5 : (PyData.list (ps ++ [.str "more"])).showable = true) (h6 : (PyData.list (ps ++ [.str "more"])).hasDict = false) (h7 : (PyData.list (ps ++ [.str "more"])).depth ≤ 50) (h8 : (PyData.list (ps ++ [.str "more"])).shown.length ≤ 100000) : Giv S (.ptr k) := by
  have hj : k < S.length := (List.getElem?_eq_some_iff.mp hk).1
  have hY : ∀ Y : List Ob, (S ++ Y)[k]? = some (.lst ys) := fun Y => by rw [List.getElem?_append_left hj]; exact hk
  refine ⟨fun Y => repr8 (p := .list ps) (by rw [toP_ptr (hY Y), hp]; rfl) (by simpa [PyData.showable] using h1) (by simpa [PyData.hasDict] using h2) (by simp only [PyData.depth]; omega) h4, .b "list", true, fun Y => by simp only [EX.tg0Of, tgOf, hY], rfl, fun _ => ⟨k, ys, rfl, hk, hl, fun Y => ?_⟩⟩
  have hX : ((S ++ Y).set k (.lst (ys ++ [.str "more"])))[k]? = some (.lst (ys ++ [.str "more"])) := by
    rw [List.getElem?_set_self (by rw [List.length_append]; omega)]
  refine repr8 (p := .list (ps ++ [.str "more"])) (by rw [toP_ptr hX, List.mapM_append, hp]; rfl) h5 h6 h7 h8
theorem giv_di {S : List Ob} {k : Nat} (hk : S[k]? = some (.dK [])) : Giv S (.ptr k) := by
  have hj : k < S.length := (List.getElem?_eq_some_iff.mp hk).1
  have hY : ∀ Y : List Ob, (S ++ Y)[k]? = some (.dK []) := fun Y => by rw [List.getElem?_append_left hj]; exact hk
  refine ⟨fun Y => ⟨(EX.nils 8).shown, ?_⟩, .b "dict", false, fun Y => by simp only [EX.tg0Of, tgOf, hY], rfl, fun z => nomatch z⟩
  have hx : lstOf (S ++ Y) (.lst (List.replicate 8 (.ptr k))) = some (List.replicate 8 (.ptr k)) := rfl
  have he : (List.replicate 8 (D.ptr k)).all (EX.emp (S ++ Y)) = true := by
    simp [EX.emp, hY]
  have hc : ((List.replicate 8 (D.ptr k) ≠ [] ∧ (List.replicate 8 (D.ptr k)).all (EX.emp (S ++ Y)) = true) ∧ (EX.nils (List.replicate 8 (D.ptr k)).length).showable = true ∧ (EX.nils (List.replicate 8 (D.ptr k)).length).depth ≤ 60 ∧ (EX.nils (List.replicate 8 (D.ptr k)).length).shown.length ≤ sizeLine) := by
    rw [List.length_replicate, sizeLine_eq]
    exact ⟨⟨by simp, he⟩, by decide +kernel, by decide +kernel, by decide +kernel⟩
  simp only [EX.fReprX, hx]
  rw [if_pos hc, List.length_replicate]
theorem int_shown {i : Int} (h : i.natAbs.log2 < 1920) : (PyData.int i).shown.length ≤ 1921 := by
  simp only [PyData.shown]
  exact int_text_len_1921 h
theorem giv_int {S : List Ob} {i : Int} (h : i.natAbs.log2 < 1920) : Giv S (.int i) :=
  giv_no (p := .int i) (t := .b "int") (fun _ => rfl) (by simpa [PyData.showable] using h) rfl (by simp [PyData.depth]) (Nat.le_trans (int_shown h) (by decide)) (fun _ => rfl) rfl
theorem giv_ints {S : List Ob} {k : Nat} {i : Int} (hk : S[k]? = some (.lst [.int i])) (h : i.natAbs.log2 < 1920) : Giv S (.ptr k) := by
  have e1 : (PySem.Str.ofString "[").length = 1 := rfl
  have e2 : (PySem.Str.ofString "").length = 0 := rfl
  have e3 : (PySem.Str.ofString ", ").length = 2 := rfl
  have e4 : (PySem.Str.ofString "]").length = 1 := rfl
  have e5 : (reprText (PySem.Str.ofString "more")).length = 6 := by decide +kernel
  have hl : (PySem.Str.ofString i.repr).length ≤ 1921 := int_text_len_1921 h
  refine giv_li (ps := [.int i]) hk (fun _ => rfl) (show 1 < 100 by decide) (by simpa [PyData.showableAll, PyData.showable] using h) rfl (by simp [PyData.depth, PyData.depthAll]) ?_ (by simpa [PyData.showableAll, PyData.showable] using h) rfl (by simp [PyData.depth, PyData.depthAll]) ?_
  · simp [PyData.shown, PyData.shownAll, listText, textFrom, strLen_append]
    omega
  · simp [PyData.shown, PyData.shownAll, listText, textFrom, strLen_append]
    omega
theorem set_end1 {A : List Ob} {o p : Ob} : (A ++ [o]).set A.length p = A ++ [p] := by
  rw [List.set_append_right _ _ (Nat.le_refl _), Nat.sub_self]
  rfl
theorem law01 (C : Ctx) : ∃ S', runB 7 (g_law C) [.scr] [] = some (.bl true, S') := by
  have key : Wp (runB 7 (g_law C) [.scr] []) fun d _ => d = .bl true := by
    refine w_run ?_
    unfold g_law
    repeat' (walk_at "wp")
    refine w_purse (by omega) (by omega) fun S0 P0 => ?_
    have p6 : ∀ X : List Ob, opPow X (.int 10) (.int 6) = some (.int ((1000000 : Nat) : Int)) := fun _ => by kernel_rfl
    have p33 : ∀ X : List Ob, opPow X (.int 10) (.int 33) = some (.int (10 ^ 33)) := fun _ => by kernel_rfl
    repeat' (walk_at "wp")
    refine ⟨_, p6 _, ?_⟩
    repeat' (walk_at "wp")
    refine w_draw P0 (by decide) (by decide) (by omega) fun r1 S1 h1 P1 B1 => ?_
    repeat' (walk_at "wp")
    refine ⟨_, p33 _, ?_⟩
    repeat' (walk_at "wp")
    refine ⟨_, p6 _, ?_⟩
    repeat' (walk_at "wp")
    refine w_draw P1 (by decide) (by decide) (by omega) fun r2 S2 h2 P2 B2 => ?_
    repeat' (walk_at "wp")
    refine w_draw P2 (by decide) (by decide) (by omega) fun r3 S3 h3 P3 B3 => ?_
    repeat' (walk_at "wp")
    have hT : opMulT S3 (.str "x") (.int (r3 : Nat)) = some (.str (repS "x" r3)) := by
      have h3 : r3 < 9 := h3
      have hz : (0 : Int) ≤ (r3 : Nat) ∧ ((r3 : Nat) : Int) ≤ 1000 ∧ 0 < ("x" : Str).length ∧ ("x" : Str).length * ((r3 : Nat) : Int).toNat ≤ sizeLine := by
        refine ⟨by omega, by omega, by decide, ?_⟩
        rw [sizeLine_eq]
        have : ("x" : Str).length = 1 := rfl
        rw [this]
        omega
      simp only [opMulT]
      rw [if_pos hz]
      rfl
    refine ⟨_, hT, ?_⟩
    repeat' (walk_at "wp")
    refine w_pick (P3.app.app.app) (by omega) (by simp) (by simp) fun x S4 hx P4 B4 => ?_
    have G : Giv S4 x := by
      have hb : ∀ i : Int, i.natAbs < 2 ^ 1920 → i.natAbs.log2 < 1920 := fun i h => by
        by_cases h0 : i.natAbs = 0
        · rw [h0]; decide
        · exact (Nat.log2_lt h0).2 h
      have L0 : 0 < S3.length := by
        obtain ⟨_, _, _, z, _⟩ := P3.ex
        exact Nat.lt_of_le_of_lt (Nat.zero_le _) (List.getElem?_eq_some_iff.mp z).1
      have n1 : (((r1 : Nat) : Int) * 10 ^ 33 + (r2 : Nat)).natAbs < 2 ^ 1920 := by
        have : (((r1 : Nat) : Int) * 10 ^ 33 + (r2 : Nat)).natAbs = r1 * 10 ^ 33 + r2 := by omega
        rw [this]
        refine Nat.lt_of_lt_of_le (show _ < 2 ^ 130 by omega) (Nat.pow_le_pow_right (by decide) (by decide))
      have n2 : (0 - (((r1 : Nat) : Int) * 10 ^ 33 + (r2 : Nat))).natAbs < 2 ^ 1920 := by
        have : (0 - (((r1 : Nat) : Int) * 10 ^ 33 + (r2 : Nat))).natAbs = (((r1 : Nat) : Int) * 10 ^ 33 + (r2 : Nat)).natAbs := by omega
        rw [this]
        exact n1
      have at_ : ∀ k o, 0 < k → (S3 ++ [Ob.lst [D.int (↑r1 * 10 ^ 33 + ↑r2)]] ++ [Ob.lst [D.lst [], D.lst [D.str "a"]]] ++ [Ob.dK []])[k]? = some o → S4[k]? = some o := fun k o h q => by
        rw [B4.ne k (by simpa using Nat.ne_of_gt h)]
        exact q
      simp only [List.mem_cons, List.not_mem_nil, or_false] at hx
      rcases hx with rfl | rfl | rfl | rfl | rfl | rfl | rfl | rfl | rfl
      · exact giv_no (p := .none) (t := .b "NoneType") (fun _ => rfl) rfl rfl (by decide) (by decide +kernel) (fun _ => rfl) rfl
      · exact giv_no (p := .bool true) (t := .b "bool") (fun _ => rfl) rfl rfl (by decide) (by decide +kernel) (fun _ => rfl) rfl
      · exact giv_int (hb _ n1)
      · exact giv_int (hb _ n2)
      · refine giv_no (p := .str (repS "x" r3)) (t := .b "str") (fun _ => rfl) rfl rfl (by simp [PyData.depth]) ?_ (fun _ => rfl) rfl
        have h3 : r3 < 9 := h3
        clear hT at_ B4 P4 P3 B3
        have : ∀ r < 9, (PyData.str (repS "x" r)).shown.length ≤ 100000 := by decide +kernel
        exact this r3 h3
      · exact giv_no (p := .tuple []) (t := .b "tuple") (fun _ => rfl) rfl rfl (by decide) (by decide +kernel) (fun _ => rfl) rfl
      · refine giv_ints (at_ _ _ L0 ?_) (hb _ n1)
        rw [List.append_assoc, List.append_assoc]
        exact end_at
      · refine giv_li (ps := [.list [], .list [.str "a"]]) (at_ _ (.lst [.lst [], .lst [.str "a"]]) (by simp) ?_) (fun _ => rfl) (by decide) (by decide +kernel) (by decide +kernel) (by decide +kernel) (by decide +kernel) (by decide +kernel) (by decide +kernel) (by decide +kernel) (by decide +kernel)
        rw [List.append_assoc _ [Ob.lst [D.lst [], D.lst [D.str "a"]]]]
        exact end_at
      · refine giv_di (at_ _ _ (by simp) ?_)
        exact end_at
    clear hx P4 B4
    have hz : ∀ n, n ≤ 100 → n ≤ sizeLine := fun n h => by rw [sizeLine_eq]; omega
    repeat' (walk_at "wp")
    refine ⟨_, _, rfl, rfl, hz _ (by simp), ?_⟩
    repeat' (walk_at "wp")
    refine ⟨_, _, rfl, rfl, hz _ (by simp), ?_⟩
    repeat' (walk_at "wp")
    refine ⟨_, _, lstOf_end _, rfl, hz _ (by simp), ?_⟩
    repeat' (walk_at "wp")
    refine ⟨_, _, lstOf_end _, rfl, hz _ (by simp), ?_⟩
    repeat' (walk_at "wp")
    refine ⟨_, _, rfl, end_at, Nat.lt_of_le_of_lt (show _ ≤ 99 by simp) (Nat.lt_of_succ_le (hz _ (Nat.le_refl _))), ⟨_, end_at⟩, ?_⟩
    rw [set_end1]
    repeat' (walk_at "wp")
    refine ⟨_, _, rfl, rfl, hz _ (by simp), ?_⟩
    have ex0 : ∀ y : D, [D.exc 0 y, D.exc 1 y, D.exc 2 y] ++ [D.exc 3 y] ++ [D.exc 4 y, D.exc 5 y, D.exc 6 y] ++ [D.exc 7 y] = exs y := fun _ => rfl
    have ex1 : ∀ y : D, [D.exc 0 y, D.exc 1 y, D.exc 2 y, D.exc 3 y] ++ [D.exc 4 y] ++ [D.exc 5 y, D.exc 6 y, D.exc 7 y] = exs y := fun _ => rfl
    have ex2 : ∀ y : D, [D.exc 0 y, D.exc 1 y, D.exc 2 y, D.exc 3 y, D.exc 4 y, D.exc 5 y] ++ [D.exc 6 y, D.exc 7 y] = exs y := fun _ => rfl
    rw [ex0, ex1, ex2]
    have eY : ∃ Y k, S4 ++ [Ob.lst [D.exc 0 x, D.exc 1 x, D.exc 2 x]] ++ [Ob.lst ([D.exc 0 x, D.exc 1 x, D.exc 2 x] ++ [D.exc 3 x])] ++ [Ob.lst (exs x)] = S4 ++ Y ∧ (S4 ++ [Ob.lst [D.exc 0 x, D.exc 1 x, D.exc 2 x]] ++ [Ob.lst ([D.exc 0 x, D.exc 1 x, D.exc 2 x] ++ [D.exc 3 x])]).length = k ∧ (S4 ++ Y)[k]? = some (.lst (exs x)) ∧ S4.length ≤ k := by
      refine ⟨_, _, by rw [List.append_assoc, List.append_assoc], rfl, ?_, by simp⟩
      rw [← List.append_assoc, ← List.append_assoc]
      exact end_at
    obtain ⟨Y, k, eY, ek, hk, kl⟩ := eY
    rw [eY, ek]
    clear eY ek
    repeat' (walk_at "wp")
    have rt : ∀ X, Sh X x → c__law_right [.lst (exs x), x] X = some (.bl true, X) := fun X ⟨t, ht⟩ => right_ok rfl ht ⟨_, rfl⟩
    have rp : ∀ X, Sh X x → X[k]? = some (.lst (exs x)) → c__law_right [.ptr k, x] X = some (.bl true, X) := fun X ⟨t, ht⟩ h => right_ok (by simp only [lstOf, h]) ht ⟨_, rfl⟩
    have r0 : ∀ X, c__law_right [.lst (exs .non), .non] X = some (.bl true, X) := fun X => by
      obtain ⟨t, ht⟩ := repr8 (S := X) (g := .non) (p := .none) rfl rfl rfl (by decide) (by decide +kernel)
      exact right_ok rfl ht ⟨_, rfl⟩
    refine .of (rt _ (G.sh Y)) ?_
    repeat' (walk_at "wp")
    refine .of (rp _ (G.sh Y) hk) ?_
    repeat' (walk_at "wp")
    refine .of (r0 _) ?_
    repeat' (walk_at "wp")
    obtain ⟨t, b, g1, g2, g3⟩ := G.ty
    refine ⟨b, by rw [g1]; exact g2, b, rfl, ?_⟩
    refine (⟨fun hb => ?_, fun hb => ?_⟩ : Br _ _ _)
    · obtain ⟨j, ys, rfl, q1, q2, q3⟩ := g3 hb
      have hj : j < S4.length := (List.getElem?_eq_some_iff.mp q1).1
      have q1' : (S4 ++ Y)[j]? = some (.lst ys) := by rw [List.getElem?_append_left hj]; exact q1
      repeat' (walk_at "wp")
      refine ⟨j, ys, rfl, q1', Nat.lt_of_lt_of_le q2 (hz _ (Nat.le_refl _)), ⟨_, q1'⟩, ?_⟩
      have hk2 : ((S4 ++ Y).set j (.lst (ys ++ [.str "more"])))[k]? = some (.lst (exs (.ptr j))) := by
        rw [List.getElem?_set_ne (by omega)]
        exact hk
      repeat' (walk_at "wp")
      refine .of (rt _ (q3 Y)) ?_
      repeat' (walk_at "wp")
      refine .of (rp _ (q3 Y) hk2) ?_
      repeat' (walk_at "wp")
      exact rfl
    · repeat' (walk_at "wp")
      exact rfl
  obtain ⟨_, S', e, rfl⟩ := key
  exact ⟨S', e⟩
end
end DL
set_option Elab.async false
set_option linter.all false
set_option maxRecDepth 100000
set_option maxHeartbeats 8000000
namespace DL
open PySem PySem.Spec PyProof.Rows L2
noncomputable section
def topS (i : Nat) : Stmt := PySem.Challenge.pw_instepagain_k01_errors_made.main.body.getD i (.Pass ⟨0, 0, 0, 0⟩)
structure Txt (P : Program) (w : World) (K : PySem.W.Frag) (mg : Str → Option Value) (base : Heap) (C : Ctx) : Prop where
  b : Bt mg
  hw : C.w = w
  xo : ∀ c, EX.XcOk P K (C.xc c)
  x_InvalidCode : mg "InvalidCode" = some (.ref (C.xc 0))
  x_InvalidRow : mg "InvalidRow" = some (.ref (C.xc 1))
  x_InvalidState : mg "InvalidState" = some (.ref (C.xc 2))
  x_InvalidKind : mg "InvalidKind" = some (.ref (C.xc 3))
  x_InvalidChances : mg "InvalidChances" = some (.ref (C.xc 4))
  x_InvalidLengths : mg "InvalidLengths" = some (.ref (C.xc 5))
  x_InvalidCodes : mg "InvalidCodes" = some (.ref (C.xc 6))
  x_InvalidMark : mg "InvalidMark" = some (.ref (C.xc 7))
  kx : ∀ i, i < 8 → ∀ n b, EX.gXi 8 i n = some b → PySem.W.kitOne K (.ref (C.xc n)) (.ref (C.xc i)) = some b
  kx_InStepAgainError : ∀ n b, EX.gXa 8 n = some b → PySem.W.kitOne K (.ref (C.xc n)) (.ref (C.cls 0)) = some b
  z_ValueError : mg "ValueError" = none
  kx_ValueError : ∀ n b, EX.gXa 8 n = some b → PySem.W.kitOne K (.ref (C.xc n)) (.type "ValueError") = some b
  c_InStepAgainError : mg "InStepAgainError" = some (.ref (C.cls 0))
theorem Txt.at {P : Program} {w : World} {K : PySem.W.Frag} {mg : Str → Option Value} {base : Heap} {C : Ctx} (T : Txt P w K mg base C) (fl : Addr) : Txt P w K mg base (C.at fl) := ⟨T.b, T.hw, T.xo, T.x_InvalidCode, T.x_InvalidRow, T.x_InvalidState, T.x_InvalidKind, T.x_InvalidChances, T.x_InvalidLengths, T.x_InvalidCodes, T.x_InvalidMark, T.kx, T.kx_InStepAgainError, T.z_ValueError, T.kx_ValueError, T.c_InStepAgainError⟩
section
variable {P : Program} {w : World} {K : PySem.W.Frag} {mg : Str → Option Value} {base : Heap} {C : Ctx} {f : Addr} {fd : FuncData}
abbrev s__law_purse : Stmt := topS 11
theorem sc__law_purse : FnScope ["_law_script", "_law_at", "_law_cell"] ["_law_script", "_law_at"] (defScope s__law_purse) := ⟨rfl, rfl, rfl, by decide +kernel, rfl, by decide +kernel, by decide +kernel⟩
theorem ok__law_purse (F : Fun K "_law_purse" "_law_purse" s__law_purse f fd) (T : Txt P w K mg base C) : FnOk P w K mg base CX0 1 f fd ["_law_script", "_law_at"] (spD K C 2 (runB 3 (g__law_purse C))) :=
  fn_ok F sc__law_purse fun cdv A outer s H E hr => (db_cons (ds_set 2 sc__law_purse.nd de_int)
    (db_cons (ds_if (dt_lt (de_var 1) (de_lenScr (i := 0) T.b.len)) (db_one (ds_set 2 sc__law_purse.nd (de_scr (i := 0) (de_var 1)))) db_nil)
    (db_one (ds_ret (de_new (dn_lst (da_cons (de_mod (de_intC T.b (da_cons (de_max2 T.b (da_cons (de_sub (de_var 2) (de_pow de_int de_int)) (da_cons de_int da_nil))) da_nil)) (de_pow (de_pow de_int de_int) de_int)) (da_cons (de_mod (de_intC T.b (da_cons (de_add (de_var 2) (de_mul de_int (de_var 1))) da_nil)) de_int) (da_cons de_int da_nil)))))))))
abbrev s__law_draw : Stmt := topS 12
theorem sc__law_draw : FnScope ["_law_purse_here", "_law_many", "_law_drawn", "_law_turn", "_law_number"] ["_law_purse_here", "_law_many"] (defScope s__law_draw) := ⟨rfl, rfl, rfl, by decide +kernel, rfl, by decide +kernel, by decide +kernel⟩
theorem ok__law_draw (F : Fun K "_law_draw" "_law_draw" s__law_draw f fd) (T : Txt P w K mg base C) : FnOk P w K mg base CX0 1 f fd ["_law_purse_here", "_law_many"] (spD K C 2 (runB 5 (g__law_draw))) :=
  fn_ok F sc__law_draw fun cdv A outer s H E hr => (db_cons (ds_if (dt_gt (de_ix (de_var 0) de_int) de_int) (db_cons (ds_set 2 sc__law_draw.nd (de_mod (de_intC T.b (da_cons (de_ix (de_var 0) de_int) da_nil)) (de_var 1)))
    (db_cons (ds_asg (de_div (de_ix (de_var 0) de_int) (de_var 1)) (dg_setL (de_var 0) de_int))
    (db_one (ds_ret (de_var 2))))) db_nil)
    (db_cons (ds_set 3 sc__law_draw.nd (de_add (de_ix (de_var 0) de_int) de_int))
    (db_cons (ds_asg (de_var 3) (dg_setL (de_var 0) de_int))
    (db_cons (ds_set 4 sc__law_draw.nd (de_mod (de_intC T.b (da_cons (de_mul (de_add (de_ix (de_var 0) de_int) (de_mul de_int (de_var 3))) (de_add (de_mul (de_var 3) (de_var 3)) de_int)) da_nil)) de_int))
    (db_cons (ds_set 4 sc__law_draw.nd (de_mod (de_intC T.b (da_cons (de_add (de_mul (de_var 4) (de_var 4)) (de_var 3)) da_nil)) de_int))
    (db_one (ds_ret (de_mod (de_div (de_mod (de_intC T.b (da_cons (de_mul (de_var 4) de_int) da_nil)) de_int) de_int) (de_var 1)))))))))
abbrev s__law_pick : Stmt := topS 13
theorem sc__law_pick : FnScope ["_law_purse_here", "_law_items"] ["_law_purse_here", "_law_items"] (defScope s__law_pick) := ⟨rfl, rfl, rfl, by decide +kernel, rfl, by decide +kernel, by decide +kernel⟩
theorem ok__law_pick (F : Fun K "_law_pick" "_law_pick" s__law_pick f fd) (T : Txt P w K mg base C) (h__law_draw : Fn P w K mg base C 1 "_law_draw" 2 c__law_draw) : FnOk P w K mg base CX0 2 f fd ["_law_purse_here", "_law_items"] (spD K C 2 (runB 2 (g__law_pick))) :=
  fn_ok F sc__law_pick fun cdv A outer s H E hr => (db_one (ds_ret (de_ix (de_var 1) (de_call h__law_draw (hr.mono (by decide)) (da_cons (de_var 0) (da_cons (de_len T.b (da_cons (de_var 1) da_nil)) da_nil))))))
abbrev s__law_classes : Stmt := topS 14
theorem sc__law_classes : FnScope ["_law_error", "_law_some", "_law_at"] ["_law_error"] (defScope s__law_classes) := ⟨rfl, rfl, rfl, by decide +kernel, rfl, by decide +kernel, by decide +kernel⟩
theorem ok__law_classes (F : Fun K "_law_classes" "_law_classes" s__law_classes f fd) (T : Txt P w K mg base C) : FnOk P w K mg base CX0 1 f fd ["_law_error"] (spD K C 1 (runB 3 (g__law_classes))) :=
  fn_ok F sc__law_classes fun cdv A outer s H E hr => (db_cons (ds_set 1 sc__law_classes.nd (de_tree (dn_lst (da_cons (EX.de_isX (te := tC .non) T.xo (pe_glob (v := .ref (C.xc 0)) (by rfl) T.x_InvalidCode rfl (by decide)) (.own _) (T.kx 0 (by decide)) (de_var 0) T.b.isinstance) (da_cons (EX.de_isX (te := tC .non) T.xo (pe_glob (v := .ref (C.xc 1)) (by rfl) T.x_InvalidRow rfl (by decide)) (.own _) (T.kx 1 (by decide)) (de_var 0) T.b.isinstance) (da_cons (EX.de_isX (te := tC .non) T.xo (pe_glob (v := .ref (C.xc 2)) (by rfl) T.x_InvalidState rfl (by decide)) (.own _) (T.kx 2 (by decide)) (de_var 0) T.b.isinstance) da_nil))))))
    (db_cons (ds_set 1 sc__law_classes.nd (de_tree (dn_cat (de_var 1) (de_tree (dn_lst (da_cons (EX.de_isX (te := tC .non) T.xo (pe_glob (v := .ref (C.xc 3)) (by rfl) T.x_InvalidKind rfl (by decide)) (.own _) (T.kx 3 (by decide)) (de_var 0) T.b.isinstance) (da_cons (EX.de_isX (te := tC .non) T.xo (pe_glob (v := .ref (C.xc 4)) (by rfl) T.x_InvalidChances rfl (by decide)) (.own _) (T.kx 4 (by decide)) (de_var 0) T.b.isinstance) da_nil)))))))
    (db_cons (ds_set 1 sc__law_classes.nd (de_tree (dn_cat (de_var 1) (de_tree (dn_lst (da_cons (EX.de_isX (te := tC .non) T.xo (pe_glob (v := .ref (C.xc 5)) (by rfl) T.x_InvalidLengths rfl (by decide)) (.own _) (T.kx 5 (by decide)) (de_var 0) T.b.isinstance) da_nil))))))
    (db_cons (ds_set 1 sc__law_classes.nd (de_tree (dn_cat (de_var 1) (de_tree (dn_lst (da_cons (EX.de_isX (te := tC .non) T.xo (pe_glob (v := .ref (C.xc 6)) (by rfl) T.x_InvalidCodes rfl (by decide)) (.own _) (T.kx 6 (by decide)) (de_var 0) T.b.isinstance) (da_cons (EX.de_isX (te := tC .non) T.xo (pe_glob (v := .ref (C.xc 7)) (by rfl) T.x_InvalidMark rfl (by decide)) (.own _) (T.kx 7 (by decide)) (de_var 0) T.b.isinstance) da_nil)))))))
    (db_cons (ds_if (DW.dt (dw_or (dt_not (dt_val (EX.de_isX (te := tC .non) T.xo (pe_glob (v := .ref (C.cls 0)) (by rfl) T.c_InStepAgainError rfl (by decide)) (.own _) T.kx_InStepAgainError (de_var 0) T.b.isinstance))) (dw_or1 (dt_not (dt_val (EX.de_isX (te := tC .non) T.xo (pe_bltn (v := .ty "ValueError") (by rfl) T.z_ValueError (by decide +kernel) rfl (by decide) (by decide)) (.ty "ValueError") T.kx_ValueError (de_var 0) T.b.isinstance)))))) (db_one (ds_ret (de_tree (dn_lst da_nil)))) db_nil)
    (db_one (ds_ret (de_tree (dn_lc [("_law_at", 2)] sc__law_classes.nd (di_range1 T.b.range (da_cons (de_len T.b (da_cons (de_var 1) da_nil)) da_nil)) (fun _ => (dg_name 2 sc__law_classes.nd)) (fun _ => (dts_one (dt_val (de_ix (de_var 1) (de_var 2))))) (fun _ => (de_var 2)))))))))))
abbrev s__law_right : Stmt := topS 15
theorem sc__law_right : FnScope ["_law_errors", "_law_given", "_law_told", "_law_error", "_law_at"] ["_law_errors", "_law_given"] (defScope s__law_right) := ⟨rfl, rfl, rfl, by decide +kernel, rfl, by decide +kernel, by decide +kernel⟩
theorem ok__law_right (F : Fun K "_law_right" "_law_right" s__law_right f fd) (T : Txt P w K mg base C) (h__law_classes : Fn P w K mg base C 1 "_law_classes" 1 c__law_classes) : FnG P w K mg base 2 f fd ["_law_errors", "_law_given"] (spD K C 2 (runB 5 (g__law_right))) :=
  fnG_ok F sc__law_right fun cdv A outer s H hr hG => (db_cons (ds_setLc false 2 [("_law_error", 3)] sc__law_right.nd (di_lst (de_var 0)) (fun _ => (dg_name 3 sc__law_right.nd)) (fun _ => dts_nil) (fun _ => (EX.de_xval T.xo (de_var 3))))
    (db_cons (ds_if (dt_ne hr.units (EX.de_reprX T.b hr hG (da_cons (de_var 2) da_nil)) (EX.de_reprX T.b hr hG (da_cons (de_tree (dn_rep (de_tree (dn_lst (da_cons (de_var 1) da_nil))) (de_len T.b (da_cons (de_var 0) da_nil)))) da_nil))) (db_one (ds_ret de_bl)) db_nil)
    (db_one (ds_ret (de_eq hr.units (de_tree (dn_lc [("_law_error", 3)] sc__law_right.nd (di_lst (de_var 0)) (fun _ => (dg_name 3 sc__law_right.nd)) (fun _ => dts_nil) (fun _ => (de_call h__law_classes (hr.mono (by decide)) (da_cons (de_var 3) da_nil))))) (de_tree (dn_lc [("_law_at", 4)] sc__law_right.nd (di_range1 T.b.range (da_cons (de_len T.b (da_cons (de_var 0) da_nil)) da_nil)) (fun _ => (dg_name 4 sc__law_right.nd)) (fun _ => dts_nil) (fun _ => (de_tree (dn_lst (da_cons (de_var 4) da_nil)))))))))))
abbrev s_law : Stmt := topS 16
theorem sc_law : FnScope ["_law_script", "_law_purse_here", "_law_number", "_law_given", "_law_placed", "_law_named", "_law_bare"] ["_law_script"] (defScope s_law) := ⟨rfl, rfl, rfl, by decide +kernel, rfl, by decide +kernel, by decide +kernel⟩
theorem ok_law (F : Fun K "law" "law" s_law f fd) (T : Txt P w K mg base C) (h__law_draw : Fn P w K mg base C 1 "_law_draw" 2 c__law_draw) (h__law_pick : Fn P w K mg base C 2 "_law_pick" 2 c__law_pick) (h__law_purse : Fn P w K mg base C 1 "_law_purse" 2 (c__law_purse C)) (h__law_right : FnL P w K mg base C 2 "_law_right" 2 c__law_right) : FnG P w K mg base 4 f fd ["_law_script"] (spD K C 1 (runB 7 (g_law C))) :=
  fnG_ok F sc_law fun cdv A outer s H hr hG => (db_cons (ds_set 1 sc_law.nd (de_call h__law_purse (hr.mono (by decide)) (da_cons (de_var 0) (da_cons de_int da_nil))))
    (db_cons (ds_set 2 sc_law.nd (de_add (de_mul (de_call h__law_draw (hr.mono (by decide)) (da_cons (de_var 1) (da_cons (de_pow de_int de_int) da_nil))) (de_pow de_int de_int)) (de_call h__law_draw (hr.mono (by decide)) (da_cons (de_var 1) (da_cons (de_pow de_int de_int) da_nil)))))
    (db_cons (ds_set 3 sc_law.nd (de_call h__law_pick (hr.mono (by decide)) (da_cons (de_var 1) (da_cons (de_tree (dn_lst (da_cons de_non (da_cons de_bl (da_cons (de_var 2) (da_cons (de_sub de_int (de_var 2)) (da_cons (de_mulT de_str (de_call h__law_draw (hr.mono (by decide)) (da_cons (de_var 1) (da_cons de_int da_nil)))) (da_cons (de_tup da_nil) (da_cons (de_new (dn_lst (da_cons (de_var 2) da_nil))) (da_cons (de_new (dn_lst (da_cons (de_tree (dn_lst da_nil)) (da_cons (de_tree (dn_lst (da_cons de_str da_nil))) da_nil)))) (da_cons de_newK da_nil))))))))))) da_nil))))
    (db_cons (ds_set 4 sc_law.nd (de_tree (dn_lst (da_cons (EX.de_exc (T.xo 0) (hr.mono (by decide)) T.x_InvalidCode (da_cons (de_var 3) da_nil)) (da_cons (EX.de_exc (T.xo 1) (hr.mono (by decide)) T.x_InvalidRow (da_cons (de_var 3) da_nil)) (da_cons (EX.de_exc (T.xo 2) (hr.mono (by decide)) T.x_InvalidState (da_cons (de_var 3) da_nil)) (da_cons (EX.de_exc (T.xo 3) (hr.mono (by decide)) T.x_InvalidKind (da_cons (de_var 3) da_nil)) da_nil)))))))
    (db_cons (ds_set 4 sc_law.nd (de_tree (dn_cat (de_var 4) (de_tree (dn_lst (da_cons (EX.de_exc (T.xo 4) (hr.mono (by decide)) T.x_InvalidChances (da_cons (de_var 3) da_nil)) da_nil))))))
    (db_cons (ds_set 4 sc_law.nd (de_tree (dn_cat (de_var 4) (de_tree (dn_lst (da_cons (EX.de_exc (T.xo 5) (hr.mono (by decide)) T.x_InvalidLengths (da_cons (de_var 3) da_nil)) (da_cons (EX.de_exc (T.xo 6) (hr.mono (by decide)) T.x_InvalidCodes (da_cons (de_var 3) da_nil)) (da_cons (EX.de_exc (T.xo 7) (hr.mono (by decide)) T.x_InvalidMark (da_cons (de_var 3) da_nil)) da_nil))))))))
    (db_cons (ds_set 5 sc_law.nd (de_new (dn_lst (da_cons (EX.de_excK (T.xo 0) (hr.mono (by decide)) T.x_InvalidCode (de_var 3)) (da_cons (EX.de_excK (T.xo 1) (hr.mono (by decide)) T.x_InvalidRow (de_var 3)) (da_cons (EX.de_excK (T.xo 2) (hr.mono (by decide)) T.x_InvalidState (de_var 3)) da_nil))))))
    (db_cons (ds_set 5 sc_law.nd (de_new (dn_cat (de_var 5) (de_tree (dn_lst (da_cons (EX.de_excK (T.xo 3) (hr.mono (by decide)) T.x_InvalidKind (de_var 3)) da_nil))))))
    (db_cons (ds_set 5 sc_law.nd (de_new (dn_cat (de_var 5) (de_tree (dn_lst (da_cons (EX.de_excK (T.xo 4) (hr.mono (by decide)) T.x_InvalidChances (de_var 3)) (da_cons (EX.de_excK (T.xo 5) (hr.mono (by decide)) T.x_InvalidLengths (de_var 3)) (da_cons (EX.de_excK (T.xo 6) (hr.mono (by decide)) T.x_InvalidCodes (de_var 3)) da_nil))))))))
    (db_cons (ds_expr (de_append (de_var 5) (EX.de_excK (T.xo 7) (hr.mono (by decide)) T.x_InvalidMark (de_var 3))))
    (db_cons (ds_set 6 sc_law.nd (de_tree (dn_lst (da_cons (EX.de_exc0 (T.xo 0) (hr.mono (by decide)) T.x_InvalidCode) (da_cons (EX.de_exc0 (T.xo 1) (hr.mono (by decide)) T.x_InvalidRow) (da_cons (EX.de_exc0 (T.xo 2) (hr.mono (by decide)) T.x_InvalidState) (da_cons (EX.de_exc0 (T.xo 3) (hr.mono (by decide)) T.x_InvalidKind) (da_cons (EX.de_exc0 (T.xo 4) (hr.mono (by decide)) T.x_InvalidChances) (da_cons (EX.de_exc0 (T.xo 5) (hr.mono (by decide)) T.x_InvalidLengths) da_nil)))))))))
    (db_cons (ds_set 6 sc_law.nd (de_tree (dn_cat (de_var 6) (de_tree (dn_lst (da_cons (EX.de_exc0 (T.xo 6) (hr.mono (by decide)) T.x_InvalidCodes) (da_cons (EX.de_exc0 (T.xo 7) (hr.mono (by decide)) T.x_InvalidMark) da_nil)))))))
    (db_cons (ds_if (DW.dt (dw_or (dt_not (dt_val (de_callG h__law_right (hr.mono (by decide)) hG (da_cons (de_var 4) (da_cons (de_var 3) da_nil))))) (dw_or (dt_not (dt_val (de_callG h__law_right (hr.mono (by decide)) hG (da_cons (de_var 5) (da_cons (de_var 3) da_nil))))) (dw_or1 (dt_not (dt_val (de_callG h__law_right (hr.mono (by decide)) hG (da_cons (de_var 6) (da_cons de_non da_nil))))))))) (db_one (ds_ret de_bl)) db_nil)
    (db_cons (ds_if (dt_val (EX.de_isB0 "list" T.b (de_var 3) T.b.list)) (db_cons (ds_expr (de_append (de_var 3) de_str))
    (db_one (ds_ret (de_and (de_callG h__law_right (hr.mono (by decide)) hG (da_cons (de_var 4) (da_cons (de_var 3) da_nil))) (de_one (de_callG h__law_right (hr.mono (by decide)) hG (da_cons (de_var 5) (da_cons (de_var 3) da_nil)))))))) db_nil)
    (db_one (ds_ret de_bl))))))))))))))))
abbrev s_x0 : Stmt := inClass (topS 2) 0
abbrev s_x1 : Stmt := inClass (topS 3) 0
abbrev s_x2 : Stmt := inClass (topS 4) 0
abbrev s_x3 : Stmt := inClass (topS 5) 0
abbrev s_x4 : Stmt := inClass (topS 6) 0
abbrev s_x5 : Stmt := inClass (topS 7) 0
abbrev s_x6 : Stmt := inClass (topS 8) 0
abbrev s_x7 : Stmt := inClass (topS 9) 0
end
theorem all_mk {l : PySem.W.OpenLaw} {w : World} {K : PySem.W.Frag} {h : Heap} {mg : Str → Option Value} {fa : Addr} (X : K.In h) (G : h.Ns mainGlobals mg) (hfa : mg "law" = some (.ref fa))
    {C0 : Addr} {X0 fx0 Tx0 cdx0 ccx0 Nx0 : Addr} {nmx0 qx0 : Str} {bsx0 bmx0 subx0 : List Value} {snx0 : List Str} {abx0 : Bool} {colx0 : Option Bool} {ddx0 anx0 odx0 cddx0 cldx0 tdx0 : Option Addr} {k0x0 k1x0 k2x0 k3x0 k5x0 : Option Value} {kVx0 dcx0 pmx0 ctx0 ocx0 cclx0 clx0 tox0 : Value} {slx0 ccsx0 cslx0 tsx0 : Array (Option Value)} {vsx0 : Array Value} {tfx0 : Tok} {tnx0 : Nat} {X1 fx1 Tx1 cdx1 ccx1 Nx1 : Addr} {nmx1 qx1 : Str} {bsx1 bmx1 subx1 : List Value} {snx1 : List Str} {abx1 : Bool} {colx1 : Option Bool} {ddx1 anx1 odx1 cddx1 cldx1 tdx1 : Option Addr} {k0x1 k1x1 k2x1 k3x1 k5x1 : Option Value} {kVx1 dcx1 pmx1 ctx1 ocx1 cclx1 clx1 tox1 : Value} {slx1 ccsx1 cslx1 tsx1 : Array (Option Value)} {vsx1 : Array Value} {tfx1 : Tok} {tnx1 : Nat} {X2 fx2 Tx2 cdx2 ccx2 Nx2 : Addr} {nmx2 qx2 : Str} {bsx2 bmx2 subx2 : List Value} {snx2 : List Str} {abx2 : Bool} {colx2 : Option Bool} {ddx2 anx2 odx2 cddx2 cldx2 tdx2 : Option Addr} {k0x2 k1x2 k2x2 k3x2 k5x2 : Option Value} {kVx2 dcx2 pmx2 ctx2 ocx2 cclx2 clx2 tox2 : Value} {slx2 ccsx2 cslx2 tsx2 : Array (Option Value)} {vsx2 : Array Value} {tfx2 : Tok} {tnx2 : Nat} {X3 fx3 Tx3 cdx3 ccx3 Nx3 : Addr} {nmx3 qx3 : Str} {bsx3 bmx3 subx3 : List Value} {snx3 : List Str} {abx3 : Bool} {colx3 : Option Bool} {ddx3 anx3 odx3 cddx3 cldx3 tdx3 : Option Addr} {k0x3 k1x3 k2x3 k3x3 k5x3 : Option Value} {kVx3 dcx3 pmx3 ctx3 ocx3 cclx3 clx3 tox3 : Value} {slx3 ccsx3 cslx3 tsx3 : Array (Option Value)} {vsx3 : Array Value} {tfx3 : Tok} {tnx3 : Nat} {X4 fx4 Tx4 cdx4 ccx4 Nx4 : Addr} {nmx4 qx4 : Str} {bsx4 bmx4 subx4 : List Value} {snx4 : List Str} {abx4 : Bool} {colx4 : Option Bool} {ddx4 anx4 odx4 cddx4 cldx4 tdx4 : Option Addr} {k0x4 k1x4 k2x4 k3x4 k5x4 : Option Value} {kVx4 dcx4 pmx4 ctx4 ocx4 cclx4 clx4 tox4 : Value} {slx4 ccsx4 cslx4 tsx4 : Array (Option Value)} {vsx4 : Array Value} {tfx4 : Tok} {tnx4 : Nat} {X5 fx5 Tx5 cdx5 ccx5 Nx5 : Addr} {nmx5 qx5 : Str} {bsx5 bmx5 subx5 : List Value} {snx5 : List Str} {abx5 : Bool} {colx5 : Option Bool} {ddx5 anx5 odx5 cddx5 cldx5 tdx5 : Option Addr} {k0x5 k1x5 k2x5 k3x5 k5x5 : Option Value} {kVx5 dcx5 pmx5 ctx5 ocx5 cclx5 clx5 tox5 : Value} {slx5 ccsx5 cslx5 tsx5 : Array (Option Value)} {vsx5 : Array Value} {tfx5 : Tok} {tnx5 : Nat} {X6 fx6 Tx6 cdx6 ccx6 Nx6 : Addr} {nmx6 qx6 : Str} {bsx6 bmx6 subx6 : List Value} {snx6 : List Str} {abx6 : Bool} {colx6 : Option Bool} {ddx6 anx6 odx6 cddx6 cldx6 tdx6 : Option Addr} {k0x6 k1x6 k2x6 k3x6 k5x6 : Option Value} {kVx6 dcx6 pmx6 ctx6 ocx6 cclx6 clx6 tox6 : Value} {slx6 ccsx6 cslx6 tsx6 : Array (Option Value)} {vsx6 : Array Value} {tfx6 : Tok} {tnx6 : Nat} {X7 fx7 Tx7 cdx7 ccx7 Nx7 : Addr} {nmx7 qx7 : Str} {bsx7 bmx7 subx7 : List Value} {snx7 : List Str} {abx7 : Bool} {colx7 : Option Bool} {ddx7 anx7 odx7 cddx7 cldx7 tdx7 : Option Addr} {k0x7 k1x7 k2x7 k3x7 k5x7 : Option Value} {kVx7 dcx7 pmx7 ctx7 ocx7 cclx7 clx7 tox7 : Value} {slx7 ccsx7 cslx7 tsx7 : Array (Option Value)} {vsx7 : Array Value} {tfx7 : Tok} {tnx7 : Nat} {f1 : Addr} {od1 an1 : Option Addr} {sl1 : Array (Option Value)} {oc1 kV1 dc1 pm1 cd1 ct1 : Value} {f2 : Addr} {od2 an2 : Option Addr} {sl2 : Array (Option Value)} {oc2 kV2 dc2 pm2 cd2 ct2 : Value} {f3 : Addr} {od3 an3 : Option Addr} {sl3 : Array (Option Value)} {oc3 kV3 dc3 pm3 cd3 ct3 : Value} {f4 : Addr} {od4 an4 : Option Addr} {sl4 : Array (Option Value)} {oc4 kV4 dc4 pm4 cd4 ct4 : Value} {f5 : Addr} {od5 an5 : Option Addr} {sl5 : Array (Option Value)} {oc5 kV5 dc5 pm5 cd5 ct5 : Value} {f6 : Addr} {od6 an6 : Option Addr} {sl6 : Array (Option Value)} {oc6 kV6 dc6 pm6 cd6 ct6 : Value}
    (gC0 : PySem.W.nsIn K mainGlobals "InStepAgainError" = some (some (.ref C0)))
    (gX0 : PySem.W.nsIn K mainGlobals "InvalidCode" = some (some (.ref X0)))
    (xc0 : K.lookup X0 = some (excClassObj nmx0 qx0 X0 Nx0 bsx0 bmx0 true snx0 subx0 abx0 colx0 ddx0 k0x0 k1x0 k2x0 k3x0 k5x0 "ValueError.__new__"))
    (ebx0 : PySem.HandSPX.refsVE bmx0 = true)
    (xsa0 : PySem.W.findIn K (.ref X0) "__setattr__" = some (some (.builtin "object.__setattr__")))
    (xex0 : PySem.W.subIn K (.ref X0) (.type "BaseException") = some true)
    (xty0 : PySem.W.typeIn K (.ref X0) = some (.type "type"))
    (xkc0 : PySem.W.keepIn K (.ref X0) = true)
    (xga0 : PySem.W.findIn K (.ref X0) "__getattribute__" = some (some (.builtin "BaseException.__getattribute__")))
    (xgt0 : PySem.W.findIn K (.ref X0) "__getattr__" = some none)
    (xhd0 : PySem.W.hasDictIn K X0 = true)
    (xha0 : PySem.W.findIn K (.ref X0) "__class__" = some (some (.builtin "object.__class__")))
    (xmo0 : PySem.W.mroIn K X0 (.type "object") = some true)
    (xnv0 : PySem.W.findIn K (.ref X0) "value" = some none)
    (xin0 : PySem.W.findIn K (.ref X0) "__init__" = some (some (.ref fx0)))
    (xti0 : PySem.W.typeIn K (.ref fx0) = some (.type "function"))
    (xf0 : K.lookup fx0 = some ⟨ocx0, odx0, .func (EX.fnC "__init__" "InvalidCode.__init__" (defArgs s_x0) (defBody s_x0) (defScope s_x0) ccx0 (.ref Tx0) kVx0 dcx0 pmx0 anx0 (.ref cdx0) ctx0), slx0⟩)
    (xt0 : K.lookup Tx0 = some ⟨tox0, tdx0, .seq #[.none] tnx0, tsx0⟩)
    (xcd0 : PySem.W.codeIn K (.ref cdx0) "InvalidCode.__init__" = true)
    (xco0 : K.lookup cdx0 = some ⟨cclx0, cddx0, .fields vsx0, ccsx0⟩)
    (hcv0 : (vsx0[2]? : Option Value) = some (.str l.prog.main.file tfx0))
    (xcc0 : K.lookup ccx0 = some ⟨clx0, cldx0, .cell (some (.ref X0)), cslx0⟩)
    (xvi0 : PySem.W.ks_superIn K X0 X0 "__init__" = some (some (.builtin "ValueError.__init__")))
    (xve0 : PySem.W.subIn K (.ref X0) (.type "ValueError") = some true)
    (xse0 : PySem.W.mroIn K X0 (.ref X0) = some true)
    (gX1 : PySem.W.nsIn K mainGlobals "InvalidRow" = some (some (.ref X1)))
    (xc1 : K.lookup X1 = some (excClassObj nmx1 qx1 X1 Nx1 bsx1 bmx1 true snx1 subx1 abx1 colx1 ddx1 k0x1 k1x1 k2x1 k3x1 k5x1 "ValueError.__new__"))
    (ebx1 : PySem.HandSPX.refsVE bmx1 = true)
    (xsa1 : PySem.W.findIn K (.ref X1) "__setattr__" = some (some (.builtin "object.__setattr__")))
    (xex1 : PySem.W.subIn K (.ref X1) (.type "BaseException") = some true)
    (xty1 : PySem.W.typeIn K (.ref X1) = some (.type "type"))
    (xkc1 : PySem.W.keepIn K (.ref X1) = true)
    (xga1 : PySem.W.findIn K (.ref X1) "__getattribute__" = some (some (.builtin "BaseException.__getattribute__")))
    (xgt1 : PySem.W.findIn K (.ref X1) "__getattr__" = some none)
    (xhd1 : PySem.W.hasDictIn K X1 = true)
    (xha1 : PySem.W.findIn K (.ref X1) "__class__" = some (some (.builtin "object.__class__")))
    (xmo1 : PySem.W.mroIn K X1 (.type "object") = some true)
    (xnv1 : PySem.W.findIn K (.ref X1) "value" = some none)
    (xin1 : PySem.W.findIn K (.ref X1) "__init__" = some (some (.ref fx1)))
    (xti1 : PySem.W.typeIn K (.ref fx1) = some (.type "function"))
    (xf1 : K.lookup fx1 = some ⟨ocx1, odx1, .func (EX.fnC "__init__" "InvalidRow.__init__" (defArgs s_x1) (defBody s_x1) (defScope s_x1) ccx1 (.ref Tx1) kVx1 dcx1 pmx1 anx1 (.ref cdx1) ctx1), slx1⟩)
    (xt1 : K.lookup Tx1 = some ⟨tox1, tdx1, .seq #[.none] tnx1, tsx1⟩)
    (xcd1 : PySem.W.codeIn K (.ref cdx1) "InvalidRow.__init__" = true)
    (xco1 : K.lookup cdx1 = some ⟨cclx1, cddx1, .fields vsx1, ccsx1⟩)
    (hcv1 : (vsx1[2]? : Option Value) = some (.str l.prog.main.file tfx1))
    (xcc1 : K.lookup ccx1 = some ⟨clx1, cldx1, .cell (some (.ref X1)), cslx1⟩)
    (xvi1 : PySem.W.ks_superIn K X1 X1 "__init__" = some (some (.builtin "ValueError.__init__")))
    (xve1 : PySem.W.subIn K (.ref X1) (.type "ValueError") = some true)
    (xse1 : PySem.W.mroIn K X1 (.ref X1) = some true)
    (gX2 : PySem.W.nsIn K mainGlobals "InvalidState" = some (some (.ref X2)))
    (xc2 : K.lookup X2 = some (excClassObj nmx2 qx2 X2 Nx2 bsx2 bmx2 true snx2 subx2 abx2 colx2 ddx2 k0x2 k1x2 k2x2 k3x2 k5x2 "ValueError.__new__"))
    (ebx2 : PySem.HandSPX.refsVE bmx2 = true)
    (xsa2 : PySem.W.findIn K (.ref X2) "__setattr__" = some (some (.builtin "object.__setattr__")))
    (xex2 : PySem.W.subIn K (.ref X2) (.type "BaseException") = some true)
    (xty2 : PySem.W.typeIn K (.ref X2) = some (.type "type"))
    (xkc2 : PySem.W.keepIn K (.ref X2) = true)
    (xga2 : PySem.W.findIn K (.ref X2) "__getattribute__" = some (some (.builtin "BaseException.__getattribute__")))
    (xgt2 : PySem.W.findIn K (.ref X2) "__getattr__" = some none)
    (xhd2 : PySem.W.hasDictIn K X2 = true)
    (xha2 : PySem.W.findIn K (.ref X2) "__class__" = some (some (.builtin "object.__class__")))
    (xmo2 : PySem.W.mroIn K X2 (.type "object") = some true)
    (xnv2 : PySem.W.findIn K (.ref X2) "value" = some none)
    (xin2 : PySem.W.findIn K (.ref X2) "__init__" = some (some (.ref fx2)))
    (xti2 : PySem.W.typeIn K (.ref fx2) = some (.type "function"))
    (xf2 : K.lookup fx2 = some ⟨ocx2, odx2, .func (EX.fnC "__init__" "InvalidState.__init__" (defArgs s_x2) (defBody s_x2) (defScope s_x2) ccx2 (.ref Tx2) kVx2 dcx2 pmx2 anx2 (.ref cdx2) ctx2), slx2⟩)
    (xt2 : K.lookup Tx2 = some ⟨tox2, tdx2, .seq #[.none] tnx2, tsx2⟩)
    (xcd2 : PySem.W.codeIn K (.ref cdx2) "InvalidState.__init__" = true)
    (xco2 : K.lookup cdx2 = some ⟨cclx2, cddx2, .fields vsx2, ccsx2⟩)
    (hcv2 : (vsx2[2]? : Option Value) = some (.str l.prog.main.file tfx2))
    (xcc2 : K.lookup ccx2 = some ⟨clx2, cldx2, .cell (some (.ref X2)), cslx2⟩)
    (xvi2 : PySem.W.ks_superIn K X2 X2 "__init__" = some (some (.builtin "ValueError.__init__")))
    (xve2 : PySem.W.subIn K (.ref X2) (.type "ValueError") = some true)
    (xse2 : PySem.W.mroIn K X2 (.ref X2) = some true)
    (gX3 : PySem.W.nsIn K mainGlobals "InvalidKind" = some (some (.ref X3)))
    (xc3 : K.lookup X3 = some (excClassObj nmx3 qx3 X3 Nx3 bsx3 bmx3 true snx3 subx3 abx3 colx3 ddx3 k0x3 k1x3 k2x3 k3x3 k5x3 "ValueError.__new__"))
    (ebx3 : PySem.HandSPX.refsVE bmx3 = true)
    (xsa3 : PySem.W.findIn K (.ref X3) "__setattr__" = some (some (.builtin "object.__setattr__")))
    (xex3 : PySem.W.subIn K (.ref X3) (.type "BaseException") = some true)
    (xty3 : PySem.W.typeIn K (.ref X3) = some (.type "type"))
    (xkc3 : PySem.W.keepIn K (.ref X3) = true)
    (xga3 : PySem.W.findIn K (.ref X3) "__getattribute__" = some (some (.builtin "BaseException.__getattribute__")))
    (xgt3 : PySem.W.findIn K (.ref X3) "__getattr__" = some none)
    (xhd3 : PySem.W.hasDictIn K X3 = true)
    (xha3 : PySem.W.findIn K (.ref X3) "__class__" = some (some (.builtin "object.__class__")))
    (xmo3 : PySem.W.mroIn K X3 (.type "object") = some true)
    (xnv3 : PySem.W.findIn K (.ref X3) "value" = some none)
    (xin3 : PySem.W.findIn K (.ref X3) "__init__" = some (some (.ref fx3)))
    (xti3 : PySem.W.typeIn K (.ref fx3) = some (.type "function"))
    (xf3 : K.lookup fx3 = some ⟨ocx3, odx3, .func (EX.fnC "__init__" "InvalidKind.__init__" (defArgs s_x3) (defBody s_x3) (defScope s_x3) ccx3 (.ref Tx3) kVx3 dcx3 pmx3 anx3 (.ref cdx3) ctx3), slx3⟩)
    (xt3 : K.lookup Tx3 = some ⟨tox3, tdx3, .seq #[.none] tnx3, tsx3⟩)
    (xcd3 : PySem.W.codeIn K (.ref cdx3) "InvalidKind.__init__" = true)
    (xco3 : K.lookup cdx3 = some ⟨cclx3, cddx3, .fields vsx3, ccsx3⟩)
    (hcv3 : (vsx3[2]? : Option Value) = some (.str l.prog.main.file tfx3))
    (xcc3 : K.lookup ccx3 = some ⟨clx3, cldx3, .cell (some (.ref X3)), cslx3⟩)
    (xvi3 : PySem.W.ks_superIn K X3 X3 "__init__" = some (some (.builtin "ValueError.__init__")))
    (xve3 : PySem.W.subIn K (.ref X3) (.type "ValueError") = some true)
    (xse3 : PySem.W.mroIn K X3 (.ref X3) = some true)
    (gX4 : PySem.W.nsIn K mainGlobals "InvalidChances" = some (some (.ref X4)))
    (xc4 : K.lookup X4 = some (excClassObj nmx4 qx4 X4 Nx4 bsx4 bmx4 true snx4 subx4 abx4 colx4 ddx4 k0x4 k1x4 k2x4 k3x4 k5x4 "ValueError.__new__"))
    (ebx4 : PySem.HandSPX.refsVE bmx4 = true)
    (xsa4 : PySem.W.findIn K (.ref X4) "__setattr__" = some (some (.builtin "object.__setattr__")))
    (xex4 : PySem.W.subIn K (.ref X4) (.type "BaseException") = some true)
    (xty4 : PySem.W.typeIn K (.ref X4) = some (.type "type"))
    (xkc4 : PySem.W.keepIn K (.ref X4) = true)
    (xga4 : PySem.W.findIn K (.ref X4) "__getattribute__" = some (some (.builtin "BaseException.__getattribute__")))
    (xgt4 : PySem.W.findIn K (.ref X4) "__getattr__" = some none)
    (xhd4 : PySem.W.hasDictIn K X4 = true)
    (xha4 : PySem.W.findIn K (.ref X4) "__class__" = some (some (.builtin "object.__class__")))
    (xmo4 : PySem.W.mroIn K X4 (.type "object") = some true)
    (xnv4 : PySem.W.findIn K (.ref X4) "value" = some none)
    (xin4 : PySem.W.findIn K (.ref X4) "__init__" = some (some (.ref fx4)))
    (xti4 : PySem.W.typeIn K (.ref fx4) = some (.type "function"))
    (xf4 : K.lookup fx4 = some ⟨ocx4, odx4, .func (EX.fnC "__init__" "InvalidChances.__init__" (defArgs s_x4) (defBody s_x4) (defScope s_x4) ccx4 (.ref Tx4) kVx4 dcx4 pmx4 anx4 (.ref cdx4) ctx4), slx4⟩)
    (xt4 : K.lookup Tx4 = some ⟨tox4, tdx4, .seq #[.none] tnx4, tsx4⟩)
    (xcd4 : PySem.W.codeIn K (.ref cdx4) "InvalidChances.__init__" = true)
    (xco4 : K.lookup cdx4 = some ⟨cclx4, cddx4, .fields vsx4, ccsx4⟩)
    (hcv4 : (vsx4[2]? : Option Value) = some (.str l.prog.main.file tfx4))
    (xcc4 : K.lookup ccx4 = some ⟨clx4, cldx4, .cell (some (.ref X4)), cslx4⟩)
    (xvi4 : PySem.W.ks_superIn K X4 X4 "__init__" = some (some (.builtin "ValueError.__init__")))
    (xve4 : PySem.W.subIn K (.ref X4) (.type "ValueError") = some true)
    (xse4 : PySem.W.mroIn K X4 (.ref X4) = some true)
    (gX5 : PySem.W.nsIn K mainGlobals "InvalidLengths" = some (some (.ref X5)))
    (xc5 : K.lookup X5 = some (excClassObj nmx5 qx5 X5 Nx5 bsx5 bmx5 true snx5 subx5 abx5 colx5 ddx5 k0x5 k1x5 k2x5 k3x5 k5x5 "ValueError.__new__"))
    (ebx5 : PySem.HandSPX.refsVE bmx5 = true)
    (xsa5 : PySem.W.findIn K (.ref X5) "__setattr__" = some (some (.builtin "object.__setattr__")))
    (xex5 : PySem.W.subIn K (.ref X5) (.type "BaseException") = some true)
    (xty5 : PySem.W.typeIn K (.ref X5) = some (.type "type"))
    (xkc5 : PySem.W.keepIn K (.ref X5) = true)
    (xga5 : PySem.W.findIn K (.ref X5) "__getattribute__" = some (some (.builtin "BaseException.__getattribute__")))
    (xgt5 : PySem.W.findIn K (.ref X5) "__getattr__" = some none)
    (xhd5 : PySem.W.hasDictIn K X5 = true)
    (xha5 : PySem.W.findIn K (.ref X5) "__class__" = some (some (.builtin "object.__class__")))
    (xmo5 : PySem.W.mroIn K X5 (.type "object") = some true)
    (xnv5 : PySem.W.findIn K (.ref X5) "value" = some none)
    (xin5 : PySem.W.findIn K (.ref X5) "__init__" = some (some (.ref fx5)))
    (xti5 : PySem.W.typeIn K (.ref fx5) = some (.type "function"))
    (xf5 : K.lookup fx5 = some ⟨ocx5, odx5, .func (EX.fnC "__init__" "InvalidLengths.__init__" (defArgs s_x5) (defBody s_x5) (defScope s_x5) ccx5 (.ref Tx5) kVx5 dcx5 pmx5 anx5 (.ref cdx5) ctx5), slx5⟩)
    (xt5 : K.lookup Tx5 = some ⟨tox5, tdx5, .seq #[.none] tnx5, tsx5⟩)
    (xcd5 : PySem.W.codeIn K (.ref cdx5) "InvalidLengths.__init__" = true)
    (xco5 : K.lookup cdx5 = some ⟨cclx5, cddx5, .fields vsx5, ccsx5⟩)
    (hcv5 : (vsx5[2]? : Option Value) = some (.str l.prog.main.file tfx5))
    (xcc5 : K.lookup ccx5 = some ⟨clx5, cldx5, .cell (some (.ref X5)), cslx5⟩)
    (xvi5 : PySem.W.ks_superIn K X5 X5 "__init__" = some (some (.builtin "ValueError.__init__")))
    (xve5 : PySem.W.subIn K (.ref X5) (.type "ValueError") = some true)
    (xse5 : PySem.W.mroIn K X5 (.ref X5) = some true)
    (gX6 : PySem.W.nsIn K mainGlobals "InvalidCodes" = some (some (.ref X6)))
    (xc6 : K.lookup X6 = some (excClassObj nmx6 qx6 X6 Nx6 bsx6 bmx6 true snx6 subx6 abx6 colx6 ddx6 k0x6 k1x6 k2x6 k3x6 k5x6 "ValueError.__new__"))
    (ebx6 : PySem.HandSPX.refsVE bmx6 = true)
    (xsa6 : PySem.W.findIn K (.ref X6) "__setattr__" = some (some (.builtin "object.__setattr__")))
    (xex6 : PySem.W.subIn K (.ref X6) (.type "BaseException") = some true)
    (xty6 : PySem.W.typeIn K (.ref X6) = some (.type "type"))
    (xkc6 : PySem.W.keepIn K (.ref X6) = true)
    (xga6 : PySem.W.findIn K (.ref X6) "__getattribute__" = some (some (.builtin "BaseException.__getattribute__")))
    (xgt6 : PySem.W.findIn K (.ref X6) "__getattr__" = some none)
    (xhd6 : PySem.W.hasDictIn K X6 = true)
    (xha6 : PySem.W.findIn K (.ref X6) "__class__" = some (some (.builtin "object.__class__")))
    (xmo6 : PySem.W.mroIn K X6 (.type "object") = some true)
    (xnv6 : PySem.W.findIn K (.ref X6) "value" = some none)
    (xin6 : PySem.W.findIn K (.ref X6) "__init__" = some (some (.ref fx6)))
    (xti6 : PySem.W.typeIn K (.ref fx6) = some (.type "function"))
    (xf6 : K.lookup fx6 = some ⟨ocx6, odx6, .func (EX.fnC "__init__" "InvalidCodes.__init__" (defArgs s_x6) (defBody s_x6) (defScope s_x6) ccx6 (.ref Tx6) kVx6 dcx6 pmx6 anx6 (.ref cdx6) ctx6), slx6⟩)
    (xt6 : K.lookup Tx6 = some ⟨tox6, tdx6, .seq #[.none] tnx6, tsx6⟩)
    (xcd6 : PySem.W.codeIn K (.ref cdx6) "InvalidCodes.__init__" = true)
    (xco6 : K.lookup cdx6 = some ⟨cclx6, cddx6, .fields vsx6, ccsx6⟩)
    (hcv6 : (vsx6[2]? : Option Value) = some (.str l.prog.main.file tfx6))
    (xcc6 : K.lookup ccx6 = some ⟨clx6, cldx6, .cell (some (.ref X6)), cslx6⟩)
    (xvi6 : PySem.W.ks_superIn K X6 X6 "__init__" = some (some (.builtin "ValueError.__init__")))
    (xve6 : PySem.W.subIn K (.ref X6) (.type "ValueError") = some true)
    (xse6 : PySem.W.mroIn K X6 (.ref X6) = some true)
    (gX7 : PySem.W.nsIn K mainGlobals "InvalidMark" = some (some (.ref X7)))
    (xc7 : K.lookup X7 = some (excClassObj nmx7 qx7 X7 Nx7 bsx7 bmx7 true snx7 subx7 abx7 colx7 ddx7 k0x7 k1x7 k2x7 k3x7 k5x7 "ValueError.__new__"))
    (ebx7 : PySem.HandSPX.refsVE bmx7 = true)
    (xsa7 : PySem.W.findIn K (.ref X7) "__setattr__" = some (some (.builtin "object.__setattr__")))
    (xex7 : PySem.W.subIn K (.ref X7) (.type "BaseException") = some true)
    (xty7 : PySem.W.typeIn K (.ref X7) = some (.type "type"))
    (xkc7 : PySem.W.keepIn K (.ref X7) = true)
    (xga7 : PySem.W.findIn K (.ref X7) "__getattribute__" = some (some (.builtin "BaseException.__getattribute__")))
    (xgt7 : PySem.W.findIn K (.ref X7) "__getattr__" = some none)
    (xhd7 : PySem.W.hasDictIn K X7 = true)
    (xha7 : PySem.W.findIn K (.ref X7) "__class__" = some (some (.builtin "object.__class__")))
    (xmo7 : PySem.W.mroIn K X7 (.type "object") = some true)
    (xnv7 : PySem.W.findIn K (.ref X7) "value" = some none)
    (xin7 : PySem.W.findIn K (.ref X7) "__init__" = some (some (.ref fx7)))
    (xti7 : PySem.W.typeIn K (.ref fx7) = some (.type "function"))
    (xf7 : K.lookup fx7 = some ⟨ocx7, odx7, .func (EX.fnC "__init__" "InvalidMark.__init__" (defArgs s_x7) (defBody s_x7) (defScope s_x7) ccx7 (.ref Tx7) kVx7 dcx7 pmx7 anx7 (.ref cdx7) ctx7), slx7⟩)
    (xt7 : K.lookup Tx7 = some ⟨tox7, tdx7, .seq #[.none] tnx7, tsx7⟩)
    (xcd7 : PySem.W.codeIn K (.ref cdx7) "InvalidMark.__init__" = true)
    (xco7 : K.lookup cdx7 = some ⟨cclx7, cddx7, .fields vsx7, ccsx7⟩)
    (hcv7 : (vsx7[2]? : Option Value) = some (.str l.prog.main.file tfx7))
    (xcc7 : K.lookup ccx7 = some ⟨clx7, cldx7, .cell (some (.ref X7)), cslx7⟩)
    (xvi7 : PySem.W.ks_superIn K X7 X7 "__init__" = some (some (.builtin "ValueError.__init__")))
    (xve7 : PySem.W.subIn K (.ref X7) (.type "ValueError") = some true)
    (xse7 : PySem.W.mroIn K X7 (.ref X7) = some true)
    (kx0_0 : PySem.W.kitOne K (.ref X0) (.ref X0) = some true)
    (kx0_1 : PySem.W.kitOne K (.ref X1) (.ref X0) = some false)
    (kx0_2 : PySem.W.kitOne K (.ref X2) (.ref X0) = some false)
    (kx0_3 : PySem.W.kitOne K (.ref X3) (.ref X0) = some false)
    (kx0_4 : PySem.W.kitOne K (.ref X4) (.ref X0) = some false)
    (kx0_5 : PySem.W.kitOne K (.ref X5) (.ref X0) = some false)
    (kx0_6 : PySem.W.kitOne K (.ref X6) (.ref X0) = some false)
    (kx0_7 : PySem.W.kitOne K (.ref X7) (.ref X0) = some false)
    (kbInStepAgainError_0 : PySem.W.kitOne K (.ref X0) (.ref C0) = some true)
    (kbValueError_0 : PySem.W.kitOne K (.ref X0) (.type "ValueError") = some true)
    (kx1_0 : PySem.W.kitOne K (.ref X0) (.ref X1) = some false)
    (kx1_1 : PySem.W.kitOne K (.ref X1) (.ref X1) = some true)
    (kx1_2 : PySem.W.kitOne K (.ref X2) (.ref X1) = some false)
    (kx1_3 : PySem.W.kitOne K (.ref X3) (.ref X1) = some false)
    (kx1_4 : PySem.W.kitOne K (.ref X4) (.ref X1) = some false)
    (kx1_5 : PySem.W.kitOne K (.ref X5) (.ref X1) = some false)
    (kx1_6 : PySem.W.kitOne K (.ref X6) (.ref X1) = some false)
    (kx1_7 : PySem.W.kitOne K (.ref X7) (.ref X1) = some false)
    (kbInStepAgainError_1 : PySem.W.kitOne K (.ref X1) (.ref C0) = some true)
    (kbValueError_1 : PySem.W.kitOne K (.ref X1) (.type "ValueError") = some true)
    (kx2_0 : PySem.W.kitOne K (.ref X0) (.ref X2) = some false)
    (kx2_1 : PySem.W.kitOne K (.ref X1) (.ref X2) = some false)
    (kx2_2 : PySem.W.kitOne K (.ref X2) (.ref X2) = some true)
    (kx2_3 : PySem.W.kitOne K (.ref X3) (.ref X2) = some false)
    (kx2_4 : PySem.W.kitOne K (.ref X4) (.ref X2) = some false)
    (kx2_5 : PySem.W.kitOne K (.ref X5) (.ref X2) = some false)
    (kx2_6 : PySem.W.kitOne K (.ref X6) (.ref X2) = some false)
    (kx2_7 : PySem.W.kitOne K (.ref X7) (.ref X2) = some false)
    (kbInStepAgainError_2 : PySem.W.kitOne K (.ref X2) (.ref C0) = some true)
    (kbValueError_2 : PySem.W.kitOne K (.ref X2) (.type "ValueError") = some true)
    (kx3_0 : PySem.W.kitOne K (.ref X0) (.ref X3) = some false)
    (kx3_1 : PySem.W.kitOne K (.ref X1) (.ref X3) = some false)
    (kx3_2 : PySem.W.kitOne K (.ref X2) (.ref X3) = some false)
    (kx3_3 : PySem.W.kitOne K (.ref X3) (.ref X3) = some true)
    (kx3_4 : PySem.W.kitOne K (.ref X4) (.ref X3) = some false)
    (kx3_5 : PySem.W.kitOne K (.ref X5) (.ref X3) = some false)
    (kx3_6 : PySem.W.kitOne K (.ref X6) (.ref X3) = some false)
    (kx3_7 : PySem.W.kitOne K (.ref X7) (.ref X3) = some false)
    (kbInStepAgainError_3 : PySem.W.kitOne K (.ref X3) (.ref C0) = some true)
    (kbValueError_3 : PySem.W.kitOne K (.ref X3) (.type "ValueError") = some true)
    (kx4_0 : PySem.W.kitOne K (.ref X0) (.ref X4) = some false)
    (kx4_1 : PySem.W.kitOne K (.ref X1) (.ref X4) = some false)
    (kx4_2 : PySem.W.kitOne K (.ref X2) (.ref X4) = some false)
    (kx4_3 : PySem.W.kitOne K (.ref X3) (.ref X4) = some false)
    (kx4_4 : PySem.W.kitOne K (.ref X4) (.ref X4) = some true)
    (kx4_5 : PySem.W.kitOne K (.ref X5) (.ref X4) = some false)
    (kx4_6 : PySem.W.kitOne K (.ref X6) (.ref X4) = some false)
    (kx4_7 : PySem.W.kitOne K (.ref X7) (.ref X4) = some false)
    (kbInStepAgainError_4 : PySem.W.kitOne K (.ref X4) (.ref C0) = some true)
    (kbValueError_4 : PySem.W.kitOne K (.ref X4) (.type "ValueError") = some true)
    (kx5_0 : PySem.W.kitOne K (.ref X0) (.ref X5) = some false)
    (kx5_1 : PySem.W.kitOne K (.ref X1) (.ref X5) = some false)
    (kx5_2 : PySem.W.kitOne K (.ref X2) (.ref X5) = some false)
    (kx5_3 : PySem.W.kitOne K (.ref X3) (.ref X5) = some false)
    (kx5_4 : PySem.W.kitOne K (.ref X4) (.ref X5) = some false)
    (kx5_5 : PySem.W.kitOne K (.ref X5) (.ref X5) = some true)
    (kx5_6 : PySem.W.kitOne K (.ref X6) (.ref X5) = some false)
    (kx5_7 : PySem.W.kitOne K (.ref X7) (.ref X5) = some false)
    (kbInStepAgainError_5 : PySem.W.kitOne K (.ref X5) (.ref C0) = some true)
    (kbValueError_5 : PySem.W.kitOne K (.ref X5) (.type "ValueError") = some true)
    (kx6_0 : PySem.W.kitOne K (.ref X0) (.ref X6) = some false)
    (kx6_1 : PySem.W.kitOne K (.ref X1) (.ref X6) = some false)
    (kx6_2 : PySem.W.kitOne K (.ref X2) (.ref X6) = some false)
    (kx6_3 : PySem.W.kitOne K (.ref X3) (.ref X6) = some false)
    (kx6_4 : PySem.W.kitOne K (.ref X4) (.ref X6) = some false)
    (kx6_5 : PySem.W.kitOne K (.ref X5) (.ref X6) = some false)
    (kx6_6 : PySem.W.kitOne K (.ref X6) (.ref X6) = some true)
    (kx6_7 : PySem.W.kitOne K (.ref X7) (.ref X6) = some false)
    (kbInStepAgainError_6 : PySem.W.kitOne K (.ref X6) (.ref C0) = some true)
    (kbValueError_6 : PySem.W.kitOne K (.ref X6) (.type "ValueError") = some true)
    (kx7_0 : PySem.W.kitOne K (.ref X0) (.ref X7) = some false)
    (kx7_1 : PySem.W.kitOne K (.ref X1) (.ref X7) = some false)
    (kx7_2 : PySem.W.kitOne K (.ref X2) (.ref X7) = some false)
    (kx7_3 : PySem.W.kitOne K (.ref X3) (.ref X7) = some false)
    (kx7_4 : PySem.W.kitOne K (.ref X4) (.ref X7) = some false)
    (kx7_5 : PySem.W.kitOne K (.ref X5) (.ref X7) = some false)
    (kx7_6 : PySem.W.kitOne K (.ref X6) (.ref X7) = some false)
    (kx7_7 : PySem.W.kitOne K (.ref X7) (.ref X7) = some true)
    (kbInStepAgainError_7 : PySem.W.kitOne K (.ref X7) (.ref C0) = some true)
    (kbValueError_7 : PySem.W.kitOne K (.ref X7) (.type "ValueError") = some true)
    (ebtop : (l.prog.main.scope.names.lookup ("super" : Str)).isSome = false)
    (xsup : PySem.W.nsIn K mainGlobals "super" = some none)
    (xtp : PySem.W.nsIn K cStatics "thirdparty.any" = some none)
    (zx_ValueError : PySem.W.nsIn K mainGlobals "ValueError" = some none)
    (a1 : PySem.W.nsIn K mainGlobals "_law_purse" = some (some (.ref f1)))
    (l1 : K.lookup f1 = some ⟨oc1, od1, .func (PySem.W.fnOf "_law_purse" "_law_purse" (defArgs s__law_purse) (defBody s__law_purse) (defScope s__law_purse) .none kV1 dc1 pm1 an1 cd1 ct1), sl1⟩)
    (c1 : PySem.W.codeIn K cd1 "_law_purse" = true)
    (k1 : PySem.W.keepIn K (.ref f1) = true)
    (a2 : PySem.W.nsIn K mainGlobals "_law_draw" = some (some (.ref f2)))
    (l2 : K.lookup f2 = some ⟨oc2, od2, .func (PySem.W.fnOf "_law_draw" "_law_draw" (defArgs s__law_draw) (defBody s__law_draw) (defScope s__law_draw) .none kV2 dc2 pm2 an2 cd2 ct2), sl2⟩)
    (c2 : PySem.W.codeIn K cd2 "_law_draw" = true)
    (k2 : PySem.W.keepIn K (.ref f2) = true)
    (a3 : PySem.W.nsIn K mainGlobals "_law_pick" = some (some (.ref f3)))
    (l3 : K.lookup f3 = some ⟨oc3, od3, .func (PySem.W.fnOf "_law_pick" "_law_pick" (defArgs s__law_pick) (defBody s__law_pick) (defScope s__law_pick) .none kV3 dc3 pm3 an3 cd3 ct3), sl3⟩)
    (c3 : PySem.W.codeIn K cd3 "_law_pick" = true)
    (k3 : PySem.W.keepIn K (.ref f3) = true)
    (a4 : PySem.W.nsIn K mainGlobals "_law_classes" = some (some (.ref f4)))
    (l4 : K.lookup f4 = some ⟨oc4, od4, .func (PySem.W.fnOf "_law_classes" "_law_classes" (defArgs s__law_classes) (defBody s__law_classes) (defScope s__law_classes) .none kV4 dc4 pm4 an4 cd4 ct4), sl4⟩)
    (c4 : PySem.W.codeIn K cd4 "_law_classes" = true)
    (k4 : PySem.W.keepIn K (.ref f4) = true)
    (a5 : PySem.W.nsIn K mainGlobals "_law_right" = some (some (.ref f5)))
    (l5 : K.lookup f5 = some ⟨oc5, od5, .func (PySem.W.fnOf "_law_right" "_law_right" (defArgs s__law_right) (defBody s__law_right) (defScope s__law_right) .none kV5 dc5 pm5 an5 cd5 ct5), sl5⟩)
    (c5 : PySem.W.codeIn K cd5 "_law_right" = true)
    (k5 : PySem.W.keepIn K (.ref f5) = true)
    (a6 : PySem.W.nsIn K mainGlobals "law" = some (some (.ref f6)))
    (l6 : K.lookup f6 = some ⟨oc6, od6, .func (PySem.W.fnOf "law" "law" (defArgs s_law) (defBody s_law) (defScope s_law) .none kV6 dc6 pm6 an6 cd6 ct6), sl6⟩)
    (c6 : PySem.W.codeIn K cd6 "law" = true)
    (k6 : PySem.W.keepIn K (.ref f6) = true)
    (hn : PySem.W.specialIn K (.builtin "object.__class__") "__get__" = some (some (.builtin "getset_descriptor.__get__")))
    (htk : PySem.W.takesIn K (.builtin "object.__class__") = some true)
    (z_len : PySem.W.nsIn K mainGlobals "len" = some none)
    (z_range : PySem.W.nsIn K mainGlobals "range" = some none)
    (z_sorted : PySem.W.nsIn K mainGlobals "sorted" = some none)
    (z_int : PySem.W.nsIn K mainGlobals "int" = some none)
    (z_str : PySem.W.nsIn K mainGlobals "str" = some none)
    (z_max : PySem.W.nsIn K mainGlobals "max" = some none)
    (z_min : PySem.W.nsIn K mainGlobals "min" = some none)
    (z_sum : PySem.W.nsIn K mainGlobals "sum" = some none)
    (z_abs : PySem.W.nsIn K mainGlobals "abs" = some none)
    (z_list : PySem.W.nsIn K mainGlobals "list" = some none)
    (z_tuple : PySem.W.nsIn K mainGlobals "tuple" = some none)
    (z_dict : PySem.W.nsIn K mainGlobals "dict" = some none)
    (z_isinstance : PySem.W.nsIn K mainGlobals "isinstance" = some none)
    (z_repr : PySem.W.nsIn K mainGlobals "repr" = some none)
    (z_zip : PySem.W.nsIn K mainGlobals "zip" = some none)
    (z_enumerate : PySem.W.nsIn K mainGlobals "enumerate" = some none)
    (z_bool : PySem.W.nsIn K mainGlobals "bool" = some none)
    : ∃ fd : FuncData, (∀ (s : Shared) (v : Value), BindsTo s fd ⟨[v], []⟩ [("_law_script", v)]) ∧ ∀ (base : Heap) (ns : List Int), K.In base → base.Ns mainGlobals mg → (∀ p ∈ ([] : List (Addr × Addr)), LamX.TabB base mg p.1 p.2) → FnG l.prog w K mg base 4 fa fd ["_law_script"] (spD K (⟨fun _ => C0, ns, [], none, w, fun n => ([X0, X1, X2, X3, X4, X5, X6, X7] : List Addr).getD n X0⟩ : Ctx) 1 (runB 7 (g_law (⟨fun _ => C0, ns, [], none, w, fun n => ([X0, X1, X2, X3, X4, X5, X6, X7] : List Addr).getD n X0⟩ : Ctx)))) := by
  have e := hfa.symm.trans (PySem.W.mg_of X G a6)
  cases e
  refine ⟨PySem.W.fnOf "law" "law" (defArgs s_law) (defBody s_law) (defScope s_law) .none kV6 dc6 pm6 an6 cd6 ct6, fun s v => .of_eq rfl, fun base ns _ _ TB => ?_⟩
  let CC : Ctx := ⟨fun _ => C0, ns, [], none, w, fun n => ([X0, X1, X2, X3, X4, X5, X6, X7] : List Addr).getD n X0⟩
  have xo0 : EX.XcOk l.prog K X0 := EX.xc_mk (params := defArgs s_x0) (scope := defScope s_x0) xc0 ebx0 xsa0 xex0 xty0 xkc0 xga0 xgt0 xhd0 xha0 hn htk xmo0 xnv0 xin0 xti0 xf0 xt0 xcd0 xco0 hcv0 xcc0 ebtop xsup xtp xvi0 xve0 xse0 ⟨_, rfl, rfl⟩ rfl rfl rfl (by decide +kernel) rfl rfl rfl rfl (fun env => rfl) (fun env => rfl) (fun fd e u v => by subst e; exact ⟨_, rfl, rfl⟩) (fun fd e u => by subst e; exact ⟨_, rfl, rfl⟩) (fun fd e u v => by subst e; exact ⟨_, rfl, rfl⟩)
  have xo1 : EX.XcOk l.prog K X1 := EX.xc_mk (params := defArgs s_x1) (scope := defScope s_x1) xc1 ebx1 xsa1 xex1 xty1 xkc1 xga1 xgt1 xhd1 xha1 hn htk xmo1 xnv1 xin1 xti1 xf1 xt1 xcd1 xco1 hcv1 xcc1 ebtop xsup xtp xvi1 xve1 xse1 ⟨_, rfl, rfl⟩ rfl rfl rfl (by decide +kernel) rfl rfl rfl rfl (fun env => rfl) (fun env => rfl) (fun fd e u v => by subst e; exact ⟨_, rfl, rfl⟩) (fun fd e u => by subst e; exact ⟨_, rfl, rfl⟩) (fun fd e u v => by subst e; exact ⟨_, rfl, rfl⟩)
  have xo2 : EX.XcOk l.prog K X2 := EX.xc_mk (params := defArgs s_x2) (scope := defScope s_x2) xc2 ebx2 xsa2 xex2 xty2 xkc2 xga2 xgt2 xhd2 xha2 hn htk xmo2 xnv2 xin2 xti2 xf2 xt2 xcd2 xco2 hcv2 xcc2 ebtop xsup xtp xvi2 xve2 xse2 ⟨_, rfl, rfl⟩ rfl rfl rfl (by decide +kernel) rfl rfl rfl rfl (fun env => rfl) (fun env => rfl) (fun fd e u v => by subst e; exact ⟨_, rfl, rfl⟩) (fun fd e u => by subst e; exact ⟨_, rfl, rfl⟩) (fun fd e u v => by subst e; exact ⟨_, rfl, rfl⟩)
  have xo3 : EX.XcOk l.prog K X3 := EX.xc_mk (params := defArgs s_x3) (scope := defScope s_x3) xc3 ebx3 xsa3 xex3 xty3 xkc3 xga3 xgt3 xhd3 xha3 hn htk xmo3 xnv3 xin3 xti3 xf3 xt3 xcd3 xco3 hcv3 xcc3 ebtop xsup xtp xvi3 xve3 xse3 ⟨_, rfl, rfl⟩ rfl rfl rfl (by decide +kernel) rfl rfl rfl rfl (fun env => rfl) (fun env => rfl) (fun fd e u v => by subst e; exact ⟨_, rfl, rfl⟩) (fun fd e u => by subst e; exact ⟨_, rfl, rfl⟩) (fun fd e u v => by subst e; exact ⟨_, rfl, rfl⟩)
  have xo4 : EX.XcOk l.prog K X4 := EX.xc_mk (params := defArgs s_x4) (scope := defScope s_x4) xc4 ebx4 xsa4 xex4 xty4 xkc4 xga4 xgt4 xhd4 xha4 hn htk xmo4 xnv4 xin4 xti4 xf4 xt4 xcd4 xco4 hcv4 xcc4 ebtop xsup xtp xvi4 xve4 xse4 ⟨_, rfl, rfl⟩ rfl rfl rfl (by decide +kernel) rfl rfl rfl rfl (fun env => rfl) (fun env => rfl) (fun fd e u v => by subst e; exact ⟨_, rfl, rfl⟩) (fun fd e u => by subst e; exact ⟨_, rfl, rfl⟩) (fun fd e u v => by subst e; exact ⟨_, rfl, rfl⟩)
  have xo5 : EX.XcOk l.prog K X5 := EX.xc_mk (params := defArgs s_x5) (scope := defScope s_x5) xc5 ebx5 xsa5 xex5 xty5 xkc5 xga5 xgt5 xhd5 xha5 hn htk xmo5 xnv5 xin5 xti5 xf5 xt5 xcd5 xco5 hcv5 xcc5 ebtop xsup xtp xvi5 xve5 xse5 ⟨_, rfl, rfl⟩ rfl rfl rfl (by decide +kernel) rfl rfl rfl rfl (fun env => rfl) (fun env => rfl) (fun fd e u v => by subst e; exact ⟨_, rfl, rfl⟩) (fun fd e u => by subst e; exact ⟨_, rfl, rfl⟩) (fun fd e u v => by subst e; exact ⟨_, rfl, rfl⟩)
  have xo6 : EX.XcOk l.prog K X6 := EX.xc_mk (params := defArgs s_x6) (scope := defScope s_x6) xc6 ebx6 xsa6 xex6 xty6 xkc6 xga6 xgt6 xhd6 xha6 hn htk xmo6 xnv6 xin6 xti6 xf6 xt6 xcd6 xco6 hcv6 xcc6 ebtop xsup xtp xvi6 xve6 xse6 ⟨_, rfl, rfl⟩ rfl rfl rfl (by decide +kernel) rfl rfl rfl rfl (fun env => rfl) (fun env => rfl) (fun fd e u v => by subst e; exact ⟨_, rfl, rfl⟩) (fun fd e u => by subst e; exact ⟨_, rfl, rfl⟩) (fun fd e u v => by subst e; exact ⟨_, rfl, rfl⟩)
  have xo7 : EX.XcOk l.prog K X7 := EX.xc_mk (params := defArgs s_x7) (scope := defScope s_x7) xc7 ebx7 xsa7 xex7 xty7 xkc7 xga7 xgt7 xhd7 xha7 hn htk xmo7 xnv7 xin7 xti7 xf7 xt7 xcd7 xco7 hcv7 xcc7 ebtop xsup xtp xvi7 xve7 xse7 ⟨_, rfl, rfl⟩ rfl rfl rfl (by decide +kernel) rfl rfl rfl rfl (fun env => rfl) (fun env => rfl) (fun fd e u v => by subst e; exact ⟨_, rfl, rfl⟩) (fun fd e u => by subst e; exact ⟨_, rfl, rfl⟩) (fun fd e u v => by subst e; exact ⟨_, rfl, rfl⟩)
  have T : Txt l.prog w K mg base CC := {
    hw := rfl
    b := ⟨PySem.W.mg_none_of X G z_len, PySem.W.mg_none_of X G z_range, PySem.W.mg_none_of X G z_sorted, PySem.W.mg_none_of X G z_int, PySem.W.mg_none_of X G z_str, PySem.W.mg_none_of X G z_max, PySem.W.mg_none_of X G z_min, PySem.W.mg_none_of X G z_sum, PySem.W.mg_none_of X G z_abs, PySem.W.mg_none_of X G z_list, PySem.W.mg_none_of X G z_tuple, PySem.W.mg_none_of X G z_dict, PySem.W.mg_none_of X G z_isinstance, PySem.W.mg_none_of X G z_repr, PySem.W.mg_none_of X G z_zip, PySem.W.mg_none_of X G z_enumerate, PySem.W.mg_none_of X G z_bool⟩
    c_InStepAgainError := PySem.W.mg_of X G gC0
    xo := fun c => match c with | 0 => xo0 | 1 => xo1 | 2 => xo2 | 3 => xo3 | 4 => xo4 | 5 => xo5 | 6 => xo6 | 7 => xo7 | _ + 8 => xo0
    x_InvalidCode := PySem.W.mg_of X G gX0
    x_InvalidRow := PySem.W.mg_of X G gX1
    x_InvalidState := PySem.W.mg_of X G gX2
    x_InvalidKind := PySem.W.mg_of X G gX3
    x_InvalidChances := PySem.W.mg_of X G gX4
    x_InvalidLengths := PySem.W.mg_of X G gX5
    x_InvalidCodes := PySem.W.mg_of X G gX6
    x_InvalidMark := PySem.W.mg_of X G gX7
    kx := fun i hi n b h => by
      unfold EX.gXi at h
      split at h
      · rename_i hn
        cases h
        match i, hi with
        | 0, _ =>
          match n, hn with
          | 0, _ => exact kx0_0
          | 1, _ => exact kx0_1
          | 2, _ => exact kx0_2
          | 3, _ => exact kx0_3
          | 4, _ => exact kx0_4
          | 5, _ => exact kx0_5
          | 6, _ => exact kx0_6
          | 7, _ => exact kx0_7
        | 1, _ =>
          match n, hn with
          | 0, _ => exact kx1_0
          | 1, _ => exact kx1_1
          | 2, _ => exact kx1_2
          | 3, _ => exact kx1_3
          | 4, _ => exact kx1_4
          | 5, _ => exact kx1_5
          | 6, _ => exact kx1_6
          | 7, _ => exact kx1_7
        | 2, _ =>
          match n, hn with
          | 0, _ => exact kx2_0
          | 1, _ => exact kx2_1
          | 2, _ => exact kx2_2
          | 3, _ => exact kx2_3
          | 4, _ => exact kx2_4
          | 5, _ => exact kx2_5
          | 6, _ => exact kx2_6
          | 7, _ => exact kx2_7
        | 3, _ =>
          match n, hn with
          | 0, _ => exact kx3_0
          | 1, _ => exact kx3_1
          | 2, _ => exact kx3_2
          | 3, _ => exact kx3_3
          | 4, _ => exact kx3_4
          | 5, _ => exact kx3_5
          | 6, _ => exact kx3_6
          | 7, _ => exact kx3_7
        | 4, _ =>
          match n, hn with
          | 0, _ => exact kx4_0
          | 1, _ => exact kx4_1
          | 2, _ => exact kx4_2
          | 3, _ => exact kx4_3
          | 4, _ => exact kx4_4
          | 5, _ => exact kx4_5
          | 6, _ => exact kx4_6
          | 7, _ => exact kx4_7
        | 5, _ =>
          match n, hn with
          | 0, _ => exact kx5_0
          | 1, _ => exact kx5_1
          | 2, _ => exact kx5_2
          | 3, _ => exact kx5_3
          | 4, _ => exact kx5_4
          | 5, _ => exact kx5_5
          | 6, _ => exact kx5_6
          | 7, _ => exact kx5_7
        | 6, _ =>
          match n, hn with
          | 0, _ => exact kx6_0
          | 1, _ => exact kx6_1
          | 2, _ => exact kx6_2
          | 3, _ => exact kx6_3
          | 4, _ => exact kx6_4
          | 5, _ => exact kx6_5
          | 6, _ => exact kx6_6
          | 7, _ => exact kx6_7
        | 7, _ =>
          match n, hn with
          | 0, _ => exact kx7_0
          | 1, _ => exact kx7_1
          | 2, _ => exact kx7_2
          | 3, _ => exact kx7_3
          | 4, _ => exact kx7_4
          | 5, _ => exact kx7_5
          | 6, _ => exact kx7_6
          | 7, _ => exact kx7_7
      · cases h
    kx_InStepAgainError := fun n b h => by
      unfold EX.gXa at h
      split at h
      · rename_i hn
        cases h
        match n, hn with
        | 0, _ => exact kbInStepAgainError_0
        | 1, _ => exact kbInStepAgainError_1
        | 2, _ => exact kbInStepAgainError_2
        | 3, _ => exact kbInStepAgainError_3
        | 4, _ => exact kbInStepAgainError_4
        | 5, _ => exact kbInStepAgainError_5
        | 6, _ => exact kbInStepAgainError_6
        | 7, _ => exact kbInStepAgainError_7
      · cases h
    z_ValueError := PySem.W.mg_none_of X G zx_ValueError
    kx_ValueError := fun n b h => by
      unfold EX.gXa at h
      split at h
      · rename_i hn
        cases h
        match n, hn with
        | 0, _ => exact kbValueError_0
        | 1, _ => exact kbValueError_1
        | 2, _ => exact kbValueError_2
        | 3, _ => exact kbValueError_3
        | 4, _ => exact kbValueError_4
        | 5, _ => exact kbValueError_5
        | 6, _ => exact kbValueError_6
        | 7, _ => exact kbValueError_7
      · cases h
  }
  have F1 := fun_mk (st := s__law_purse) l1 c1 k1
  have b1 := F1.binds (ps := ["_law_script", "_law_at"]) fun _ _ _ _ _ _ us hl => match us, hl with | [_, _], _ => rfl
  have h__law_purse : Fn l.prog w K mg base CC 1 "_law_purse" 2 _ := ⟨_, _, _, ok__law_purse F1 T, PySem.W.mg_of X G a1, k1, b1⟩
  have h__law_purse : Fn l.prog w K mg base CC 1 "_law_purse" 2 (c__law_purse CC) := h__law_purse
  have F2 := fun_mk (st := s__law_draw) l2 c2 k2
  have b2 := F2.binds (ps := ["_law_purse_here", "_law_many"]) fun _ _ _ _ _ _ us hl => match us, hl with | [_, _], _ => rfl
  have h__law_draw : Fn l.prog w K mg base CC 1 "_law_draw" 2 _ := ⟨_, _, _, ok__law_draw F2 T, PySem.W.mg_of X G a2, k2, b2⟩
  have h__law_draw : Fn l.prog w K mg base CC 1 "_law_draw" 2 c__law_draw := h__law_draw
  have F3 := fun_mk (st := s__law_pick) l3 c3 k3
  have b3 := F3.binds (ps := ["_law_purse_here", "_law_items"]) fun _ _ _ _ _ _ us hl => match us, hl with | [_, _], _ => rfl
  have h__law_pick : Fn l.prog w K mg base CC 2 "_law_pick" 2 _ := ⟨_, _, _, ok__law_pick F3 T (h__law_draw := h__law_draw), PySem.W.mg_of X G a3, k3, b3⟩
  have h__law_pick : Fn l.prog w K mg base CC 2 "_law_pick" 2 c__law_pick := h__law_pick
  have F4 := fun_mk (st := s__law_classes) l4 c4 k4
  have b4 := F4.binds (ps := ["_law_error"]) fun _ _ _ _ _ _ us hl => match us, hl with | [_], _ => rfl
  have h__law_classes : Fn l.prog w K mg base CC 1 "_law_classes" 1 _ := ⟨_, _, _, ok__law_classes F4 T, PySem.W.mg_of X G a4, k4, b4⟩
  have h__law_classes : Fn l.prog w K mg base CC 1 "_law_classes" 1 c__law_classes := h__law_classes
  have F5 := fun_mk (st := s__law_right) l5 c5 k5
  have b5 := F5.binds (ps := ["_law_errors", "_law_given"]) fun _ _ _ _ _ _ us hl => match us, hl with | [_, _], _ => rfl
  have h__law_right : FnL l.prog w K mg base CC 2 "_law_right" 2 _ := ⟨_, _, _, ok__law_right F5 T (h__law_classes := h__law_classes), PySem.W.mg_of X G a5, k5, b5⟩
  have h__law_right : FnL l.prog w K mg base CC 2 "_law_right" 2 c__law_right := h__law_right
  have F6 := fun_mk (st := s_law) l6 c6 k6
  have b6 := F6.binds (ps := ["_law_script"]) fun _ _ _ _ _ _ us hl => match us, hl with | [_], _ => rfl
  exact ok_law F6 T (h__law_draw := h__law_draw) (h__law_pick := h__law_pick) (h__law_purse := h__law_purse) (h__law_right := h__law_right)
theorem walk1 {l : PySem.W.OpenLaw} {q : Program} {loose : List Str} {XP : (Str → Option Value) → Heap → Prop} {YP : World → Heap → Prop} {d : DefRec} {K : Params → PySem.W.Frag} {C0 X0 X1 X2 X3 X4 X5 X6 X7 : Addr} (hn : l.most = some 63) (hdf : d.params.defaults = [])
    (hY : ∀ (w : World) (h : Heap), YP w h → (K w.params).In h)
    (hT : ∀ (w : World) (h : Heap), YP w h → ∀ p ∈ ([] : List (Addr × Addr)), h.get? p.2 = some tab0) (nT : ∀ w : World, ∀ p ∈ ([] : List (Addr × Addr)), (K w.params).lookup p.2 = none ∧ PySem.W.codeHdIn (K w.params) p.1 p.2 = true)
    (F : ∀ (w : World) (mg : Str → Option Value) (fa : Addr) (h : Heap), (K w.params).In h → h.Ns mainGlobals mg → mg d.name = some (.ref fa) →
      ∃ fd : FuncData, (∀ (s : Shared) (u : Value), BindsTo s fd ⟨[u], []⟩ [("_law_script", u)]) ∧ ∀ (base : Heap) (ns : List Int), (K w.params).In base → base.Ns mainGlobals mg → (∀ p ∈ ([] : List (Addr × Addr)), LamX.TabB base mg p.1 p.2) → FnG l.prog w (K w.params) mg base 4 fa fd ["_law_script"] (spD (K w.params) (⟨fun _ => C0, ns, [], none, w, fun n => ([X0, X1, X2, X3, X4, X5, X6, X7] : List Addr).getD n X0⟩ : Ctx) 1 (runB 7 (g_law (⟨fun _ => C0, ns, [], none, w, fun n => ([X0, X1, X2, X3, X4, X5, X6, X7] : List Addr).getD n X0⟩ : Ctx))))) :
    PySem.W.WalkO q loose XP YP l.row.toRowW d [] (fun f vs => PySem.call f vs) :=
  walkG (n := 63) (k := 4) "_law_script" [] (fun w ns => (⟨fun _ => C0, ns, [], none, w, fun n => ([X0, X1, X2, X3, X4, X5, X6, X7] : List Addr).getD n X0⟩ : Ctx)) (fun w ns => runB 7 (g_law (⟨fun _ => C0, ns, [], none, w, fun n => ([X0, X1, X2, X3, X4, X5, X6, X7] : List Addr).getD n X0⟩ : Ctx))) hn (by decide) hdf ⟨rfl, by decide, by decide⟩ hY (fun _ _ => ⟨rfl, fun t ht => nomatch ht⟩) hT nT F (fun _ ns _ => law01 _)
end
end DL
open PySem PySem.W PyProof.Rows
set_option maxRecDepth 100000 in
set_option maxHeartbeats 0 in
theorem PySem.Challenge.cw_instepagain_k01_errors_made_holds : PySem.Challenge.rw_instepagain_k01_errors_made.Holds := by
  w_on; o_law; k_head; (case hw => w_witness2)
  k_fill
  refine' DL.walk1 (l := PySem.Challenge.rw_instepagain_k01_errors_made) rfl rfl (fun w h Y => PySem.W.kIn_of Y) ?hT ?nT ?F
  case F =>
    intro w mg fa h KX G hmg
    refine' DL.all_mk KX G hmg ?gC0 ?gX0 ?xc0 ?ebx0 ?xsa0 ?xex0 ?xty0 ?xkc0 ?xga0 ?xgt0 ?xhd0 ?xha0 ?xmo0 ?xnv0 ?xin0 ?xti0 ?xf0 ?xt0 ?xcd0 ?xco0 ?hcv0 ?xcc0 ?xvi0 ?xve0 ?xse0 ?gX1 ?xc1 ?ebx1 ?xsa1 ?xex1 ?xty1 ?xkc1 ?xga1 ?xgt1 ?xhd1 ?xha1 ?xmo1 ?xnv1 ?xin1 ?xti1 ?xf1 ?xt1 ?xcd1 ?xco1 ?hcv1 ?xcc1 ?xvi1 ?xve1 ?xse1 ?gX2 ?xc2 ?ebx2 ?xsa2 ?xex2 ?xty2 ?xkc2 ?xga2 ?xgt2 ?xhd2 ?xha2 ?xmo2 ?xnv2 ?xin2 ?xti2 ?xf2 ?xt2 ?xcd2 ?xco2 ?hcv2 ?xcc2 ?xvi2 ?xve2 ?xse2 ?gX3 ?xc3 ?ebx3 ?xsa3 ?xex3 ?xty3 ?xkc3 ?xga3 ?xgt3 ?xhd3 ?xha3 ?xmo3 ?xnv3 ?xin3 ?xti3 ?xf3 ?xt3 ?xcd3 ?xco3 ?hcv3 ?xcc3 ?xvi3 ?xve3 ?xse3 ?gX4 ?xc4 ?ebx4 ?xsa4 ?xex4 ?xty4 ?xkc4 ?xga4 ?xgt4 ?xhd4 ?xha4 ?xmo4 ?xnv4 ?xin4 ?xti4 ?xf4 ?xt4 ?xcd4 ?xco4 ?hcv4 ?xcc4 ?xvi4 ?xve4 ?xse4 ?gX5 ?xc5 ?ebx5 ?xsa5 ?xex5 ?xty5 ?xkc5 ?xga5 ?xgt5 ?xhd5 ?xha5 ?xmo5 ?xnv5 ?xin5 ?xti5 ?xf5 ?xt5 ?xcd5 ?xco5 ?hcv5 ?xcc5 ?xvi5 ?xve5 ?xse5 ?gX6 ?xc6 ?ebx6 ?xsa6 ?xex6 ?xty6 ?xkc6 ?xga6 ?xgt6 ?xhd6 ?xha6 ?xmo6 ?xnv6 ?xin6 ?xti6 ?xf6 ?xt6 ?xcd6 ?xco6 ?hcv6 ?xcc6 ?xvi6 ?xve6 ?xse6 ?gX7 ?xc7 ?ebx7 ?xsa7 ?xex7 ?xty7 ?xkc7 ?xga7 ?xgt7 ?xhd7 ?xha7 ?xmo7 ?xnv7 ?xin7 ?xti7 ?xf7 ?xt7 ?xcd7 ?xco7 ?hcv7 ?xcc7 ?xvi7 ?xve7 ?xse7 ?kx0_0 ?kx0_1 ?kx0_2 ?kx0_3 ?kx0_4 ?kx0_5 ?kx0_6 ?kx0_7 ?kbInStepAgainError_0 ?kbValueError_0 ?kx1_0 ?kx1_1 ?kx1_2 ?kx1_3 ?kx1_4 ?kx1_5 ?kx1_6 ?kx1_7 ?kbInStepAgainError_1 ?kbValueError_1 ?kx2_0 ?kx2_1 ?kx2_2 ?kx2_3 ?kx2_4 ?kx2_5 ?kx2_6 ?kx2_7 ?kbInStepAgainError_2 ?kbValueError_2 ?kx3_0 ?kx3_1 ?kx3_2 ?kx3_3 ?kx3_4 ?kx3_5 ?kx3_6 ?kx3_7 ?kbInStepAgainError_3 ?kbValueError_3 ?kx4_0 ?kx4_1 ?kx4_2 ?kx4_3 ?kx4_4 ?kx4_5 ?kx4_6 ?kx4_7 ?kbInStepAgainError_4 ?kbValueError_4 ?kx5_0 ?kx5_1 ?kx5_2 ?kx5_3 ?kx5_4 ?kx5_5 ?kx5_6 ?kx5_7 ?kbInStepAgainError_5 ?kbValueError_5 ?kx6_0 ?kx6_1 ?kx6_2 ?kx6_3 ?kx6_4 ?kx6_5 ?kx6_6 ?kx6_7 ?kbInStepAgainError_6 ?kbValueError_6 ?kx7_0 ?kx7_1 ?kx7_2 ?kx7_3 ?kx7_4 ?kx7_5 ?kx7_6 ?kx7_7 ?kbInStepAgainError_7 ?kbValueError_7 ?ebtop ?xsup ?xtp ?zx_ValueError ?a1 ?l1 ?c1 ?k1 ?a2 ?l2 ?c2 ?k2 ?a3 ?l3 ?c3 ?k3 ?a4 ?l4 ?c4 ?k4 ?a5 ?l5 ?c5 ?k5 ?a6 ?l6 ?c6 ?k6 ?hn ?htk ?z_len ?z_range ?z_sorted ?z_int ?z_str ?z_max ?z_min ?z_sum ?z_abs ?z_list ?z_tuple ?z_dict ?z_isinstance ?z_repr ?z_zip ?z_enumerate ?z_bool
    (case gC0 => k_is)
    (case gX0 => k_is)
    (case xc0 => k_is)
    (case ebx0 => decide +kernel)
    (case xsa0 => k_is)
    (case xex0 => k_is)
    (case xty0 => k_is)
    (case xkc0 => k_is)
    (case xga0 => k_is)
    (case xgt0 => k_is)
    (case xhd0 => k_is)
    (case xha0 => k_is)
    (case xmo0 => k_is)
    (case xnv0 => k_is)
    (case xin0 => k_is)
    (case xti0 => k_is)
    (case xf0 => k_is)
    (case xt0 => k_is)
    (case xcd0 => k_is)
    (case xco0 => k_is)
    (case hcv0 => rfl)
    (case xcc0 => k_is)
    (case xvi0 => ks_is)
    (case xve0 => k_is)
    (case xse0 => k_is)
    (case gX1 => k_is)
    (case xc1 => k_is)
    (case ebx1 => decide +kernel)
    (case xsa1 => k_is)
    (case xex1 => k_is)
    (case xty1 => k_is)
    (case xkc1 => k_is)
    (case xga1 => k_is)
    (case xgt1 => k_is)
    (case xhd1 => k_is)
    (case xha1 => k_is)
    (case xmo1 => k_is)
    (case xnv1 => k_is)
    (case xin1 => k_is)
    (case xti1 => k_is)
    (case xf1 => k_is)
    (case xt1 => k_is)
    (case xcd1 => k_is)
    (case xco1 => k_is)
    (case hcv1 => rfl)
    (case xcc1 => k_is)
    (case xvi1 => ks_is)
    (case xve1 => k_is)
    (case xse1 => k_is)
    (case gX2 => k_is)
    (case xc2 => k_is)
    (case ebx2 => decide +kernel)
    (case xsa2 => k_is)
    (case xex2 => k_is)
    (case xty2 => k_is)
    (case xkc2 => k_is)
    (case xga2 => k_is)
    (case xgt2 => k_is)
    (case xhd2 => k_is)
    (case xha2 => k_is)
    (case xmo2 => k_is)
    (case xnv2 => k_is)
    (case xin2 => k_is)
    (case xti2 => k_is)
    (case xf2 => k_is)
    (case xt2 => k_is)
    (case xcd2 => k_is)
    (case xco2 => k_is)
    (case hcv2 => rfl)
    (case xcc2 => k_is)
    (case xvi2 => ks_is)
    (case xve2 => k_is)
    (case xse2 => k_is)
    (case gX3 => k_is)
    (case xc3 => k_is)
    (case ebx3 => decide +kernel)
    (case xsa3 => k_is)
    (case xex3 => k_is)
    (case xty3 => k_is)
    (case xkc3 => k_is)
    (case xga3 => k_is)
    (case xgt3 => k_is)
    (case xhd3 => k_is)
    (case xha3 => k_is)
    (case xmo3 => k_is)
    (case xnv3 => k_is)
    (case xin3 => k_is)
    (case xti3 => k_is)
    (case xf3 => k_is)
    (case xt3 => k_is)
    (case xcd3 => k_is)
    (case xco3 => k_is)
    (case hcv3 => rfl)
    (case xcc3 => k_is)
    (case xvi3 => ks_is)
    (case xve3 => k_is)
    (case xse3 => k_is)
    (case gX4 => k_is)
    (case xc4 => k_is)
    (case ebx4 => decide +kernel)
    (case xsa4 => k_is)
    (case xex4 => k_is)
    (case xty4 => k_is)
    (case xkc4 => k_is)
    (case xga4 => k_is)
    (case xgt4 => k_is)
    (case xhd4 => k_is)
    (case xha4 => k_is)
    (case xmo4 => k_is)
    (case xnv4 => k_is)
    (case xin4 => k_is)
    (case xti4 => k_is)
    (case xf4 => k_is)
    (case xt4 => k_is)
    (case xcd4 => k_is)
    (case xco4 => k_is)
    (case hcv4 => rfl)
    (case xcc4 => k_is)
    (case xvi4 => ks_is)
    (case xve4 => k_is)
    (case xse4 => k_is)
    (case gX5 => k_is)
    (case xc5 => k_is)
    (case ebx5 => decide +kernel)
    (case xsa5 => k_is)
    (case xex5 => k_is)
    (case xty5 => k_is)
    (case xkc5 => k_is)
    (case xga5 => k_is)
    (case xgt5 => k_is)
    (case xhd5 => k_is)
    (case xha5 => k_is)
    (case xmo5 => k_is)
    (case xnv5 => k_is)
    (case xin5 => k_is)
    (case xti5 => k_is)
    (case xf5 => k_is)
    (case xt5 => k_is)
    (case xcd5 => k_is)
    (case xco5 => k_is)
    (case hcv5 => rfl)
    (case xcc5 => k_is)
    (case xvi5 => ks_is)
    (case xve5 => k_is)
    (case xse5 => k_is)
    (case gX6 => k_is)
    (case xc6 => k_is)
    (case ebx6 => decide +kernel)
    (case xsa6 => k_is)
    (case xex6 => k_is)
    (case xty6 => k_is)
    (case xkc6 => k_is)
    (case xga6 => k_is)
    (case xgt6 => k_is)
    (case xhd6 => k_is)
    (case xha6 => k_is)
    (case xmo6 => k_is)
    (case xnv6 => k_is)
    (case xin6 => k_is)
    (case xti6 => k_is)
    (case xf6 => k_is)
    (case xt6 => k_is)
    (case xcd6 => k_is)
    (case xco6 => k_is)
    (case hcv6 => rfl)
    (case xcc6 => k_is)
    (case xvi6 => ks_is)
    (case xve6 => k_is)
    (case xse6 => k_is)
    (case gX7 => k_is)
    (case xc7 => k_is)
    (case ebx7 => decide +kernel)
    (case xsa7 => k_is)
    (case xex7 => k_is)
    (case xty7 => k_is)
    (case xkc7 => k_is)
    (case xga7 => k_is)
    (case xgt7 => k_is)
    (case xhd7 => k_is)
    (case xha7 => k_is)
    (case xmo7 => k_is)
    (case xnv7 => k_is)
    (case xin7 => k_is)
    (case xti7 => k_is)
    (case xf7 => k_is)
    (case xt7 => k_is)
    (case xcd7 => k_is)
    (case xco7 => k_is)
    (case hcv7 => rfl)
    (case xcc7 => k_is)
    (case xvi7 => ks_is)
    (case xve7 => k_is)
    (case xse7 => k_is)
    (case kx0_0 => kit_is)
    (case kx0_1 => kit_is)
    (case kx0_2 => kit_is)
    (case kx0_3 => kit_is)
    (case kx0_4 => kit_is)
    (case kx0_5 => kit_is)
    (case kx0_6 => kit_is)
    (case kx0_7 => kit_is)
    (case kbInStepAgainError_0 => kit_is)
    (case kbValueError_0 => kit_is)
    (case kx1_0 => kit_is)
    (case kx1_1 => kit_is)
    (case kx1_2 => kit_is)
    (case kx1_3 => kit_is)
    (case kx1_4 => kit_is)
    (case kx1_5 => kit_is)
    (case kx1_6 => kit_is)
    (case kx1_7 => kit_is)
    (case kbInStepAgainError_1 => kit_is)
    (case kbValueError_1 => kit_is)
    (case kx2_0 => kit_is)
    (case kx2_1 => kit_is)
    (case kx2_2 => kit_is)
    (case kx2_3 => kit_is)
    (case kx2_4 => kit_is)
    (case kx2_5 => kit_is)
    (case kx2_6 => kit_is)
    (case kx2_7 => kit_is)
    (case kbInStepAgainError_2 => kit_is)
    (case kbValueError_2 => kit_is)
    (case kx3_0 => kit_is)
    (case kx3_1 => kit_is)
    (case kx3_2 => kit_is)
    (case kx3_3 => kit_is)
    (case kx3_4 => kit_is)
    (case kx3_5 => kit_is)
    (case kx3_6 => kit_is)
    (case kx3_7 => kit_is)
    (case kbInStepAgainError_3 => kit_is)
    (case kbValueError_3 => kit_is)
    (case kx4_0 => kit_is)
    (case kx4_1 => kit_is)
    (case kx4_2 => kit_is)
    (case kx4_3 => kit_is)
    (case kx4_4 => kit_is)
    (case kx4_5 => kit_is)
    (case kx4_6 => kit_is)
    (case kx4_7 => kit_is)
    (case kbInStepAgainError_4 => kit_is)
    (case kbValueError_4 => kit_is)
    (case kx5_0 => kit_is)
    (case kx5_1 => kit_is)
    (case kx5_2 => kit_is)
    (case kx5_3 => kit_is)
    (case kx5_4 => kit_is)
    (case kx5_5 => kit_is)
    (case kx5_6 => kit_is)
    (case kx5_7 => kit_is)
    (case kbInStepAgainError_5 => kit_is)
    (case kbValueError_5 => kit_is)
    (case kx6_0 => kit_is)
    (case kx6_1 => kit_is)
    (case kx6_2 => kit_is)
    (case kx6_3 => kit_is)
    (case kx6_4 => kit_is)
    (case kx6_5 => kit_is)
    (case kx6_6 => kit_is)
    (case kx6_7 => kit_is)
    (case kbInStepAgainError_6 => kit_is)
    (case kbValueError_6 => kit_is)
    (case kx7_0 => kit_is)
    (case kx7_1 => kit_is)
    (case kx7_2 => kit_is)
    (case kx7_3 => kit_is)
    (case kx7_4 => kit_is)
    (case kx7_5 => kit_is)
    (case kx7_6 => kit_is)
    (case kx7_7 => kit_is)
    (case kbInStepAgainError_7 => kit_is)
    (case kbValueError_7 => kit_is)
    (case ebtop => decide +kernel)
    (case xsup => k_is)
    (case xtp => k_is)
    (case zx_ValueError => k_is)
    (case a1 => k_is)
    (case l1 => k_is)
    (case c1 => k_is)
    (case k1 => k_is)
    (case a2 => k_is)
    (case l2 => k_is)
    (case c2 => k_is)
    (case k2 => k_is)
    (case a3 => k_is)
    (case l3 => k_is)
    (case c3 => k_is)
    (case k3 => k_is)
    (case a4 => k_is)
    (case l4 => k_is)
    (case c4 => k_is)
    (case k4 => k_is)
    (case a5 => k_is)
    (case l5 => k_is)
    (case c5 => k_is)
    (case k5 => k_is)
    (case a6 => k_is)
    (case l6 => k_is)
    (case c6 => k_is)
    (case k6 => k_is)
    (case hn => k_is)
    (case htk => k_is)
    (case z_len => k_is)
    (case z_range => k_is)
    (case z_sorted => k_is)
    (case z_int => k_is)
    (case z_str => k_is)
    (case z_max => k_is)
    (case z_min => k_is)
    (case z_sum => k_is)
    (case z_abs => k_is)
    (case z_list => k_is)
    (case z_tuple => k_is)
    (case z_dict => k_is)
    (case z_isinstance => k_is)
    (case z_repr => k_is)
    (case z_zip => k_is)
    (case z_enumerate => k_is)
    (case z_bool => k_is)
  case hT => exact fun _ _ _ _ z => nomatch z
  case nT => exact fun _ _ z => nomatch z
