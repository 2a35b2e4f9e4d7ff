import PyProof.Rows.All
import Wide.All
import OpenK.AllK
import Wide.FinOn
import HandS.ForMost
import HandS.ForExc
import KE.KDictKeyed
import HandS.Lambda
import HandS.IsInst
import HandS.TupAny
import HandS.TupMul
import HandS.Conv
import HandS.Rev
import HandS.Remove
import PyProof.ReprLen
import HandS.RaiseMore
import KE.KIndexOf
import KE.KDictDisplayH
import KE.GoesMore
import HandS.ExcIs
import HandS.Style
import HandS.More
import HandS.Deep
import PyProof.P3In
import KE.RegKIsAll
import KE.RegKTryMore
import PyProof.Rows.InDataRows
import HandS.EndTab
import HandS.TryOnly
import HandS.EndOwn
import HandS.Text
import HandS.Wide
import KE.GoesZip
import HandS.Zip
import HandS.RaiseOp
import KE.KDictCopyH
import KE.KEqDict
import PyProof.CallStr
import PyProof.EqKinds
import HandS.MakeKwOnly
import KE.KDictItemsList
import PyProof.StrOps2
import HandS.TupSets
import KE.KDictSum
import HandS.List
import HandS.RevRange
import HandS.Defaults
import HandS.Dict
import HandS.SortInts
import HandS.TryMany
import PySem.Challenge.RW_letterhand_k05_books_refused
set_option Elab.async false
set_option linter.all false
set_option maxRecDepth 100000
set_option maxHeartbeats 4000000
/-! Lh: plain data over HandS: tuples are values, lists and instances stand in a small memory. -/
namespace L2.Lh
open PySem PySem.Spec PyProof.Rows

inductive D where
  | non | bl (b : Bool) | int (i : Int) | str (x : Str) | ty (n : String) | ref (a : Addr) | tup (xs : List D) | rol (xs : List D) | ftup (xs : List D)

mutual
inductive Rep (K : PySem.W.Frag) (H : Hp) : D → V → Prop
  | non : Rep K H .non .non
  | bl (b : Bool) : Rep K H (.bl b) (.bl b)
  | int (i : Int) : Rep K H (.int i) (.int i)
  | str (x : Str) : Rep K H (.str x) (.str x)
  | ty (n : String) : Rep K H (.ty n) (.ty n)
  | ref (a : Addr) : Rep K H (.ref a) (.ref a)
  | tup {a : Addr} {vs : List V} {ds : List D} : H a = some (.tup vs) → Reps K H ds vs → Rep K H (.tup ds) (.ref a)
  | rol {a : Addr} {vs : List V} {ds : List D} : ((∃ o, H a = some (.frz o (.lst vs))) ∨ (∃ (o : Obj) (its : Array Value) (n : Nat), K.lookup a = some o ∧ o.cls = .type "list" ∧ o.dict = none ∧ o.data = .seq its n ∧ its.size ≤ sizeLine ∧ Vals vs its.toList)) → Reps K H ds vs → Rep K H (.rol ds) (.ref a)
  | ftup {a : Addr} {o : Obj} {vs : List V} {ds : List D} : H a = some (.frz o (.tup vs)) → o.dict = none → Reps K H ds vs → Rep K H (.ftup ds) (.ref a)
inductive Reps (K : PySem.W.Frag) (H : Hp) : List D → List V → Prop
  | nil : Reps K H [] []
  | cons {d : D} {v : V} {ds : List D} {vs : List V} : Rep K H d v → Reps K H ds vs → Reps K H (d :: ds) (v :: vs)
end

inductive MO where
  | lst (xs : List D)
  | ins (C : Addr) (fs : List (Str × D))
  | exc (cls : Value)
  | dK (kvs : List (Key × D))
  | dN (kvs : List (NestedKey × D))
  | dR (kvs : List (NestedKey × D)) (es : Array DictEntry) (ep : Nat) (ds : List D)
  | tbl (q : Str)
  | dF (kvs : List (Key × D))
/-- all but what is frozen may be written -/
def MO.mut : MO → Bool
  | .dF _ => false
  | _ => true
abbrev Mem := Addr → Option MO
def Mem.set (m : Mem) (a : Addr) (o : MO) : Mem := fun b => if b = a then some o else m b
theorem Mem.set_same {m : Mem} {a : Addr} {o : MO} : (m.set a o) a = some o := if_pos rfl
theorem Mem.set_ne {m : Mem} {a b : Addr} {o : MO} (h : b ≠ a) : (m.set a o) b = m b := if_neg h
theorem Mem.set_set {m : Mem} {a : Addr} {o u : MO} : (m.set a o).set a u = m.set a u := by
  funext b; unfold Mem.set; split <;> rfl
theorem Mem.set_comm {m : Mem} {a b : Addr} {o u : MO} (h : a ≠ b) : (m.set a o).set b u = (m.set b u).set a o := by
  funext c
  unfold Mem.set
  by_cases h1 : c = a
  · subst h1; rw [if_neg h]; simp
  · by_cases h2 : c = b
    · subst h2; simp [h1]
    · simp [h1, h2]
theorem Mem.set_id {m : Mem} {a : Addr} {o : MO} (h : m a = some o) : m.set a o = m := by
  funext b; unfold Mem.set; split
  · rename_i e; rw [e, h]
  · rfl
theorem Mem.ne_of {m : Mem} {a b : Addr} {o : MO} (h : m a = some o) (h' : m b = none) : b ≠ a := fun e => by
  rw [e, h] at h'; cases h'
theorem Mem.ne_of' {m : Mem} {a b : Addr} {o : MO} (h : m a = some o) (h' : m b = none) : a ≠ b := (Mem.ne_of h h').symm

/-- one memory within another -/
def Mem.le (m m' : Mem) : Prop := ∀ a o, m a = some o → m' a = some o
theorem Mem.le_refl (m : Mem) : m.le m := fun _ _ h => h
theorem Mem.le_set {m : Mem} {a : Addr} {o : MO} (h : m a = none) : m.le (m.set a o) := fun b u e => by
  rw [Mem.set_ne (Mem.ne_of' e h)]; exact e
theorem Mem.le_trans {m m1 m2 : Mem} (a : m.le m1) (b : m1.le m2) : m.le m2 := fun c o h => b c o (a c o h)
theorem Mem.le_set_of {m m' : Mem} {a : Addr} {o : MO} (l : m.le m') (h : m a = none) : m.le (m'.set a o) := fun b u e => by
  rw [Mem.set_ne (Mem.ne_of' e h)]; exact l b u e
theorem Mem.le_none {m m' : Mem} {a : Addr} (l : m.le m') (h : m' a = none) : m a = none := by
  cases e : m a with
  | none => rfl
  | some o => rw [l a o e] at h; cases h
theorem Mem.set_le {m m' : Mem} {a : Addr} {o : MO} (l : m.le m') : (m.set a o).le (m'.set a o) := fun b u e => by
  by_cases h : b = a
  · subst h; rw [Mem.set_same] at e ⊢; exact e
  · rw [Mem.set_ne h] at e ⊢; exact l b u e

/-! ### how the abstract heap moves -/
structure Ext (H H' : Hp) : Prop where
  tup : ∀ b xs, H b = some (.tup xs) → H' b = some (.tup xs)
  frz : ∀ b o u, H b = some (.frz o u) → H' b = some (.frz o u)
  cod : ∀ b q, H b = some (LamX.CodeO b q) → H' b = some (LamX.CodeO b q)
theorem Ext.refl (H : Hp) : Ext H H := ⟨fun _ _ h => h, fun _ _ _ h => h, fun _ _ h => h⟩
theorem Ext.trans {H H1 H2 : Hp} (a : Ext H H1) (b : Ext H1 H2) : Ext H H2 := ⟨fun c xs h => b.tup c xs (a.tup c xs h), fun c o u h => b.frz c o u (a.frz c o u h), fun c q h => b.cod c q (a.cod c q h)⟩
structure Step (H : Hp) (m : Mem) (H' : Hp) (m' : Mem) : Prop where
  ext : Ext H H'
  dom : ∀ b, H' b = none → H b = none
  keep : ∀ b o, m b = none → H b = some o → H' b = some o
  new : ∀ b o, m b = none → H b = some o → m' b = none
theorem Step.refl (H : Hp) (m : Mem) : Step H m H m := ⟨Ext.refl H, fun _ h => h, fun _ _ _ h => h, fun _ _ h _ => h⟩
theorem Step.trans {H H1 H2 : Hp} {m m1 m2 : Mem} (a : Step H m H1 m1) (b : Step H1 m1 H2 m2) : Step H m H2 m2 :=
  ⟨a.ext.trans b.ext, fun c h => a.dom c (b.dom c h),
    fun c o n h => b.keep c o (a.new c o n h) (a.keep c o n h), fun c o n h => b.new c o (a.new c o n h) (a.keep c o n h)⟩
theorem Step.forget {H H' : Hp} {m m' m'' : Mem} (a : Step H m H' m') (l : m''.le m') : Step H m H' m'' :=
  ⟨a.ext, a.dom, a.keep, fun b o n h => Mem.le_none l (a.new b o n h)⟩

mutual
theorem Rep.mono {K : PySem.W.Frag} {H H' : Hp} (t : Ext H H') : ∀ {d : D} {v : V}, Rep K H d v → Rep K H' d v
  | _, _, .non => .non
  | _, _, .bl b => .bl b
  | _, _, .int i => .int i
  | _, _, .str x => .str x
  | _, _, .ty n => .ty n
  | _, _, .ref a => .ref a
  | _, _, .tup h r => .tup (t.tup _ _ h) (Reps.mono t r)
  | _, _, .ftup h n r => .ftup (t.frz _ _ _ h) n (Reps.mono t r)
  | _, _, .rol h r => .rol (by
      rcases h with ⟨o, h⟩ | h
      · exact .inl ⟨o, t.frz _ _ _ h⟩
      · exact .inr h) (Reps.mono t r)
theorem Reps.mono {K : PySem.W.Frag} {H H' : Hp} (t : Ext H H') : ∀ {ds : List D} {vs : List V}, Reps K H ds vs → Reps K H' ds vs
  | _, _, .nil => .nil
  | _, _, .cons h r => .cons (Rep.mono t h) (Reps.mono t r)
end
theorem Reps.length {K : PySem.W.Frag} {H : Hp} : ∀ {ds : List D} {vs : List V}, Reps K H ds vs → ds.length = vs.length
  | _, _, .nil => rfl
  | _, _, .cons _ r => by rw [List.length_cons, List.length_cons, Reps.length r]
theorem Reps.append {K : PySem.W.Frag} {H : Hp} : ∀ {ds es : List D} {vs us : List V}, Reps K H ds vs → Reps K H es us → Reps K H (ds ++ es) (vs ++ us)
  | _, _, _, _, .nil, s => s
  | _, _, _, _, .cons h r, s => .cons h (Reps.append r s)
theorem Reps.get {K : PySem.W.Frag} {H : Hp} : ∀ {ds : List D} {vs : List V} {i : Nat} {d : D}, Reps K H ds vs → ds[i]? = some d → ∃ v, vs[i]? = some v ∧ Rep K H d v
  | _, _, _, _, .nil, e => by simp at e
  | _, _, 0, _, .cons h _, e => by simp at e; subst e; exact ⟨_, rfl, h⟩
  | _, _, i + 1, _, .cons _ r, e => by
    obtain ⟨v, h1, h2⟩ := Reps.get (i := i) r (by simpa using e)
    exact ⟨v, by simpa using h1, h2⟩
theorem Reps.getV {K : PySem.W.Frag} {H : Hp} : ∀ {ds : List D} {vs : List V} {i : Nat} {v : V}, Reps K H ds vs → vs[i]? = some v → ∃ d, ds[i]? = some d ∧ Rep K H d v
  | _, _, _, _, .nil, e => by simp at e
  | _, _, 0, _, .cons h _, e => by simp at e; subst e; exact ⟨_, rfl, h⟩
  | _, _, i + 1, _, .cons _ r, e => by
    obtain ⟨v, h1, h2⟩ := Reps.getV (i := i) r (by simpa using e)
    exact ⟨v, by simpa using h1, h2⟩
theorem Reps.set {K : PySem.W.Frag} {H : Hp} {d : D} {v : V} (h : Rep K H d v) : ∀ {ds : List D} {vs : List V} (i : Nat), Reps K H ds vs → Reps K H (ds.set i d) (vs.set i v)
  | _, _, _, .nil => .nil
  | _, _, 0, .cons _ r => .cons h r
  | _, _, i + 1, .cons q r => .cons q (Reps.set h i r)
theorem Reps.take {K : PySem.W.Frag} {H : Hp} : ∀ {ds : List D} {vs : List V} (n : Nat), Reps K H ds vs → Reps K H (ds.take n) (vs.take n)
  | _, _, 0, _ => .nil
  | _, _, _ + 1, .nil => .nil
  | _, _, n + 1, .cons h r => .cons h (Reps.take n r)
theorem Reps.drop {K : PySem.W.Frag} {H : Hp} : ∀ {ds : List D} {vs : List V} (n : Nat), Reps K H ds vs → Reps K H (ds.drop n) (vs.drop n)
  | _, _, 0, r => r
  | _, _, _ + 1, .nil => .nil
  | _, _, n + 1, .cons _ r => Reps.drop n r
theorem Reps.eraseIdx {K : PySem.W.Frag} {H : Hp} : ∀ {ds : List D} {vs : List V} (n : Nat), Reps K H ds vs → Reps K H (ds.eraseIdx n) (vs.eraseIdx n)
  | _, _, _, .nil => .nil
  | _, _, 0, .cons _ r => r
  | _, _, n + 1, .cons h r => .cons h (Reps.eraseIdx n r)
theorem Reps.dropLast {K : PySem.W.Frag} {H : Hp} {ds : List D} {vs : List V} (h : Reps K H ds vs) : Reps K H ds.dropLast vs.dropLast := by
  rw [List.dropLast_eq_take, List.dropLast_eq_take, ← h.length]; exact h.take _
theorem Reps.reverse {K : PySem.W.Frag} {H : Hp} : ∀ {ds : List D} {vs : List V}, Reps K H ds vs → Reps K H ds.reverse vs.reverse
  | _, _, .nil => .nil
  | _, _, .cons h r => by rw [List.reverse_cons, List.reverse_cons]; exact (Reps.reverse r).append (.cons h .nil)
theorem Reps.rep {K : PySem.W.Frag} {H : Hp} {ds : List D} {vs : List V} (h : Reps K H ds vs) : ∀ k : Nat, Reps K H (List.replicate k ds).flatten (List.replicate k vs).flatten
  | 0 => .nil
  | k + 1 => by
    rw [List.replicate_succ, List.replicate_succ, List.flatten_cons, List.flatten_cons]
    exact h.append (Reps.rep h k)
theorem Reps.ints {K : PySem.W.Frag} {H : Hp} : ∀ (ns : List Int), Reps K H (ns.map D.int) (ns.map V.int)
  | [] => .nil
  | n :: ns => .cons (.int n) (Reps.ints ns)
theorem Reps.ofInts {K : PySem.W.Frag} {H : Hp} : ∀ {ns : List Int} {vs : List V}, Reps K H (ns.map D.int) vs → vs = ns.map V.int
  | [], _, h => by cases h; rfl
  | n :: ns, _, h => by
    rw [List.map_cons] at h
    cases h with
    | cons h r => cases h; rw [List.map_cons, Reps.ofInts r]
theorem Reps.ofBls {K : PySem.W.Frag} {H : Hp} : ∀ {bs : List Bool} {vs : List V}, Reps K H (bs.map D.bl) vs → vs = bs.map V.bl
  | [], _, h => by cases h; rfl
  | n :: ns, _, h => by
    rw [List.map_cons] at h
    cases h with
    | cons h r => cases h; rw [List.map_cons, Reps.ofBls r]
theorem Reps.ofStrs {K : PySem.W.Frag} {H : Hp} : ∀ {bs : List Str} {vs : List V}, Reps K H (bs.map D.str) vs → vs = bs.map V.str
  | [], _, h => by cases h; rfl
  | n :: ns, _, h => by
    rw [List.map_cons] at h
    cases h with
    | cons h r => cases h; rw [List.map_cons, Reps.ofStrs r]
theorem Reps.strs {K : PySem.W.Frag} {H : Hp} : ∀ (ns : List Str), Reps K H (ns.map D.str) (ns.map V.str)
  | [] => .nil
  | n :: ns => .cons (.str n) (Reps.strs ns)

/-- the memory's objects as they stand in the abstract heap -/
def RepF (K : PySem.W.Frag) (H : Hp) : List (Str × D) → List (Str × V) → Prop := Paired fun p q => p.1 = q.1 ∧ Rep K H p.2 q.2
def excIs (a : Addr) (cls : Value) : Heap → Prop := fun h => ∃ oe vs, h.get? a = some oe ∧ oe.cls = cls ∧ oe.dict = none ∧ oe.data = .fields vs
-- a thing as a key
mutual
def keyN : D → Option NestedKey
  | .non => some .none
  | .int i => some (.num i)
  | .tup xs => (keyNs xs).map .tup
  | .ftup xs => (keyNs xs).map .tup
  | _ => none
def keyNs : List D → Option (List NestedKey)
  | [] => some []
  | d :: ds => match keyN d, keyNs ds with
    | some k, some ks => some (k :: ks)
    | _, _ => none
end
def KeyRep (K : PySem.W.Frag) (H : Hp) (k : NestedKey) (a : Addr) : Prop := ∃ d, Rep K H d (.ref a) ∧ keyN d = some k ∧ k.depth ≤ 8
def rawIs (a : Addr) (es : Array DictEntry) (ep : Nat) : Heap → Prop := fun h => ∃ o, h.get? a = some o ∧ o.ExactDict ∧ o.data = .dict es ep
def RepK (K : PySem.W.Frag) (H : Hp) : List (Key × D) → List (Key × V) → Prop := Paired fun p q => p.1 = q.1 ∧ Rep K H p.2 q.2
def RepN (K : PySem.W.Frag) (H : Hp) : List (NestedKey × D) → List (NestedKey × Addr × Value) → Prop := Paired fun p x => p.1 = x.1 ∧ KeyRep K H x.1 x.2.1 ∧ ∃ v, Rep K H p.2 v ∧ RelV v x.2.2
structure RawN (K : PySem.W.Frag) (H : Hp) (a : Addr) (kvs : List (NestedKey × D)) (es : Array DictEntry) (ep : Nat) (xs : List (NestedKey × Addr × Value)) : Prop where
  ent : ∀ (P : Program) (w : World), es.toList = xs.map (entryOfKey (nestedKind P w))
  nd : (xs.map (·.1)).Nodup
  sz : xs.length ≤ sizeLine
  sys : (a == sysModules) = false
  rel : RepN K H kvs xs
def RepO (K : PySem.W.Frag) (H : Hp) (a : Addr) : MO → Prop
  | .lst ds => ∃ vs, H a = some (.lst vs) ∧ Reps K H ds vs
  | .ins C fs => ∃ dx fv, H a = some (.ins C dx fv) ∧ RepF K H fs fv
  | .exc cls => H a = some (.ext (excIs a cls))
  | .dK kvs => ∃ kv, H a = some (.dK kv) ∧ RepK K H kvs kv
  | .dN kvs => ∃ es ep xs, H a = some (.ext (rawIs a es ep)) ∧ RawN K H a kvs es ep xs
  | .dR kvs es ep ds => H a = some (.ext (rawIs a es ep)) ∧ ∃ xs, RawN K H a kvs es ep xs ∧ Reps K H ds (xs.map fun x => V.ref x.2.1)
  | .tbl q => LamX.TabS H a q
  | .dF kvs => ∃ od kv, H a = some (.frz od (.dK kv)) ∧ RepK K H kvs kv
theorem RepF.mono {K : PySem.W.Frag} {H H' : Hp} (t : Ext H H') {fs : List (Str × D)} {fv : List (Str × V)} (h : RepF K H fs fv) : RepF K H' fs fv :=
  Paired.mapP h fun _ _ q => ⟨q.1, q.2.mono t⟩
theorem KeyRep.mono {K : PySem.W.Frag} {H H' : Hp} (t : Ext H H') {k : NestedKey} {a : Addr} (h : KeyRep K H k a) : KeyRep K H' k a :=
  let ⟨d, r, e, z⟩ := h; ⟨d, r.mono t, e, z⟩
theorem RepK.mono {K : PySem.W.Frag} {H H' : Hp} (t : Ext H H') {fs : List (Key × D)} {fv : List (Key × V)} (h : RepK K H fs fv) : RepK K H' fs fv :=
  Paired.mapP h fun _ _ q => ⟨q.1, q.2.mono t⟩
theorem RepN.mono {K : PySem.W.Frag} {H H' : Hp} (t : Ext H H') {fs : List (NestedKey × D)} {fv : List (NestedKey × Addr × Value)} (h : RepN K H fs fv) : RepN K H' fs fv :=
  Paired.mapP h fun _ _ ⟨e, k, v, r, rv⟩ => ⟨e, k.mono t, v, r.mono t, rv⟩
theorem RawN.mono {K : PySem.W.Frag} {H H' : Hp} (t : Ext H H') {a : Addr} {kvs : List (NestedKey × D)} {es : Array DictEntry} {ep : Nat} {xs : List (NestedKey × Addr × Value)} (h : RawN K H a kvs es ep xs) : RawN K H' a kvs es ep xs :=
  ⟨h.ent, h.nd, h.sz, h.sys, h.rel.mono t⟩
def Sim (K : PySem.W.Frag) (H : Hp) (m : Mem) : Prop := ∀ a o, m a = some o → RepO K H a o
theorem Sim.forget {K : PySem.W.Frag} {H : Hp} {m m' : Mem} (s : Sim K H m') (l : m.le m') : Sim K H m := fun a o e => s a o (l a o e)
/-- what an object's place leans on -/
theorem RepO.mono {K : PySem.W.Frag} {H H' : Hp} {a : Addr} {o : MO} (t : Ext H H') (h : ∀ u, H a = some u → H' a = some u) (r : RepO K H a o) : RepO K H' a o := by
  cases o with
  | lst ds => obtain ⟨vs, e, q⟩ := r; exact ⟨vs, h _ e, q.mono t⟩
  | ins C fs => obtain ⟨dx, fv, e, q⟩ := r; exact ⟨dx, fv, h _ e, q.mono t⟩
  | exc cls => exact h _ r
  | dK kvs => obtain ⟨kv, e, q⟩ := r; exact ⟨kv, h _ e, q.mono t⟩
  | dN kvs => obtain ⟨es, ep, xs, e, q⟩ := r; exact ⟨es, ep, xs, h _ e, q.mono t⟩
  | dR kvs es ep ds => obtain ⟨e, xs, q, r⟩ := r; exact ⟨h _ e, xs, q.mono t, r.mono t⟩
  | tbl q =>
    obtain ⟨ps, h1, h2, h3⟩ := r
    exact ⟨ps, h _ h1, h2, fun pos cv hc => let ⟨c, e1, e2⟩ := h3 pos cv hc; ⟨c, e1, t.cod c q e2⟩⟩
  | dF kvs => obtain ⟨od, kv, e, q⟩ := r; exact ⟨od, kv, h _ e, q.mono t⟩
theorem raw_ne {a c : Addr} {es : Array DictEntry} {ep : Nat} {q : Str} : HO.ext (rawIs a es ep) ≠ LamX.CodeO c q := fun z => by
  have z' : rawIs a es ep = _ := HO.ext.inj z
  have e := congrFun z' ({ objs := Array.replicate (max a c + 1) { cls := .none, data := .fields #[.none, .str q 0] } } : Heap)
  have hg : ∀ b, b ≤ max a c → Heap.get? ({ objs := Array.replicate (max a c + 1) { cls := .none, data := .fields #[.none, .str q 0] } } : Heap) b = some { cls := .none, data := .fields #[.none, .str q 0] } := fun b hb => by
    unfold Heap.get?
    simp [Array.getElem?_replicate, Nat.lt_succ_of_le hb]
  have h2 := e.mpr ⟨_, _, 0, hg c (Nat.le_max_right _ _), rfl, rfl⟩
  obtain ⟨o, h3, h4, h5⟩ := h2
  rw [hg a (Nat.le_max_left _ _)] at h3
  cases h3
  cases h5
theorem exc_ne {a c : Addr} {cls : Value} {q : Str} : HO.ext (excIs a cls) ≠ LamX.CodeO c q := fun z => by
  have z' : excIs a cls = _ := HO.ext.inj z
  have e := congrFun z' ({ objs := Array.replicate (max a c + 1) { cls := cls, data := .fields #[] } } : Heap)
  have hg : ∀ b, b ≤ max a c → Heap.get? ({ objs := Array.replicate (max a c + 1) { cls := cls, data := .fields #[] } } : Heap) b = some { cls := cls, data := .fields #[] } := fun b hb => by
    unfold Heap.get?
    simp [Array.getElem?_replicate, Nat.lt_succ_of_le hb]
  have h2 := e.mp ⟨_, _, hg a (Nat.le_max_left _ _), rfl, rfl, rfl⟩
  obtain ⟨o, vs, t, h3, h4, h5⟩ := h2
  rw [hg c (Nat.le_max_right _ _)] at h3
  cases h3
  cases h4
  simp at h5
theorem RepO.any {K : PySem.W.Frag} {H : Hp} {a : Addr} {o : MO} (r : RepO K H a o) : ∃ u, H a = some u := by
  cases o with
  | lst ds => obtain ⟨vs, e, _⟩ := r; exact ⟨_, e⟩
  | ins C fs => obtain ⟨dx, fv, e, _⟩ := r; exact ⟨_, e⟩
  | exc cls => exact ⟨_, r⟩
  | dK kvs => obtain ⟨kv, e, _⟩ := r; exact ⟨_, e⟩
  | dN kvs => obtain ⟨es, ep, xs, e, _⟩ := r; exact ⟨_, e⟩
  | dR kvs es ep ds => obtain ⟨e, _⟩ := r; exact ⟨_, e⟩
  | tbl q => obtain ⟨ps, e, _⟩ := r; exact ⟨_, e⟩
  | dF kvs => obtain ⟨od, kv, e, _⟩ := r; exact ⟨_, e⟩
theorem RepO.there {K : PySem.W.Frag} {H : Hp} {a : Addr} {o : MO} (r : RepO K H a o) (hw : o.mut = true := by rfl) : ∃ u, H a = some u ∧ (∀ xs, u ≠ .tup xs) ∧ (∀ ob x, u ≠ .frz ob x) ∧ ∀ b q, u ≠ LamX.CodeO b q := by
  cases o with
  | dF kvs => cases hw
  | lst ds => obtain ⟨vs, e, _⟩ := r; exact ⟨_, e, (fun _ z => nomatch z), (fun _ _ z => nomatch z), fun _ _ z => by unfold LamX.CodeO at z; cases z⟩
  | ins C fs => obtain ⟨dx, fv, e, _⟩ := r; exact ⟨_, e, (fun _ z => nomatch z), (fun _ _ z => nomatch z), fun _ _ z => by unfold LamX.CodeO at z; cases z⟩
  | exc cls => exact ⟨_, r, (fun _ z => nomatch z), (fun _ _ z => nomatch z), fun _ _ => exc_ne⟩
  | dK kvs => obtain ⟨kv, e, _⟩ := r; exact ⟨_, e, (fun _ z => nomatch z), (fun _ _ z => nomatch z), fun _ _ z => by unfold LamX.CodeO at z; cases z⟩
  | dN kvs => obtain ⟨es, ep, xs, e, _⟩ := r; exact ⟨_, e, (fun _ z => nomatch z), (fun _ _ z => nomatch z), fun _ _ => raw_ne⟩
  | dR kvs es ep ds => obtain ⟨e, _⟩ := r; exact ⟨_, e, (fun _ z => nomatch z), (fun _ _ z => nomatch z), fun _ _ => raw_ne⟩
  | tbl q => obtain ⟨ps, e, _⟩ := r; exact ⟨_, e, (fun _ z => nomatch z), (fun _ _ z => nomatch z), fun _ _ z => by unfold LamX.CodeO at z; cases z⟩
theorem Sim.free {K : PySem.W.Frag} {H : Hp} {m : Mem} {a : Addr} (s : Sim K H m) (h : H a = none) : m a = none := by
  cases e : m a with
  | none => rfl
  | some o => obtain ⟨u, q⟩ := (s a o e).any; rw [h] at q; cases q

/-! ### the moves -/
/-- a new object that is not remembered -/
theorem upd_new {H : Hp} {p : Addr} {o : HO} (n : H p = none) : Ext H (upd H p o) := ⟨fun b xs h => by
  rw [upd_ne (ne_of_none h n)]; exact h, fun b ob u h => by rw [upd_ne (ne_of_none h n)]; exact h, fun b q h => by rw [upd_ne (ne_of_none h n)]; exact h⟩
theorem Step.alloc {H : Hp} {m : Mem} {p : Addr} {o : HO} (n : H p = none) : Step H m (upd H p o) m :=
  ⟨upd_new n, fun b h => by
    by_cases e : b = p
    · subst e; exact n
    · rw [upd_ne e] at h; exact h, fun b ob _ h => by rw [upd_ne (ne_of_none h n)]; exact h, fun b ob h _ => h⟩
theorem Sim.alloc {K : PySem.W.Frag} {H : Hp} {m : Mem} {p : Addr} {o : HO} (s : Sim K H m) (n : H p = none) : Sim K (upd H p o) m := fun a u e =>
  (s a u e).mono (upd_new n) fun w h => by rw [upd_ne (ne_of_none h n)]; exact h
/-- .. remembered -/
theorem Step.allocM {H : Hp} {m : Mem} {p : Addr} {o : HO} {u : MO} (n : H p = none) : Step H m (upd H p o) (m.set p u) :=
  let s := Step.alloc (m := m) (o := o) n
  ⟨s.ext, s.dom, s.keep, fun b ob h e => by rw [Mem.set_ne (ne_of_none e n)]; exact h⟩
theorem Sim.allocM {K : PySem.W.Frag} {H : Hp} {m : Mem} {p : Addr} {o : HO} {u : MO} (s : Sim K H m) (n : H p = none) (r : RepO K (upd H p o) p u) : Sim K (upd H p o) (m.set p u) := fun a w e => by
  by_cases h : a = p
  · subst h; rw [Mem.set_same] at e; cases e; exact r
  · rw [Mem.set_ne h] at e; exact (s.alloc n) a w e
/-- a remembered object is written -/
theorem upd_old {K : PySem.W.Frag} {H : Hp} {m : Mem} {p : Addr} {o : HO} {w : MO} (s : Sim K H m) (e : m p = some w) (hw : w.mut = true := by rfl) : Ext H (upd H p o) := by
  obtain ⟨u, q, h1, h2, h3⟩ := (s p w e).there hw
  exact ⟨fun b xs h => by rw [upd_ne (fun z => by subst z; rw [q] at h; cases h; exact h1 xs rfl)]; exact h,
    fun b ob x h => by rw [upd_ne (fun z => by subst z; rw [q] at h; cases h; exact h2 ob x rfl)]; exact h,
    fun b k h => by rw [upd_ne (fun z => by subst z; rw [q] at h; exact h3 b k (Option.some.inj h))]; exact h⟩
theorem Step.write {K : PySem.W.Frag} {H : Hp} {m : Mem} {p : Addr} {o : HO} {u w : MO} (s : Sim K H m) (e : m p = some w) (hw : w.mut = true := by rfl) : Step H m (upd H p o) (m.set p u) :=
  ⟨upd_old s e hw, fun b h => by
    by_cases z : b = p
    · subst z; rw [upd_same] at h; cases h
    · rw [upd_ne z] at h; exact h,
    fun b ob n h => by rw [upd_ne (fun z => by subst z; rw [e] at n; cases n)]; exact h,
    fun b ob n h => by rw [Mem.set_ne (fun z => by subst z; rw [e] at n; cases n)]; exact n⟩
theorem Sim.write {K : PySem.W.Frag} {H : Hp} {m : Mem} {p : Addr} {o : HO} {u w : MO} (s : Sim K H m) (e : m p = some w) (r : RepO K (upd H p o) p u) (hw : w.mut = true := by rfl) : Sim K (upd H p o) (m.set p u) := fun a x q => by
  by_cases h : a = p
  · subst h; rw [Mem.set_same] at q; cases q; exact r
  · rw [Mem.set_ne h] at q
    exact (s a x q).mono (upd_old s e hw) fun y z => by rw [upd_ne h]; exact z

/-! ### slots -/
abbrev DEnv := List (Option D)
def RelO2 (K : PySem.W.Frag) (H : Hp) : Option D → Option V → Prop
  | some d, some v => Rep K H d v
  | none, _ => True
  | some _, none => False
abbrev RepEnv (K : PySem.W.Frag) (H : Hp) : DEnv → St → Prop := Paired (RelO2 K H)
theorem RelO2.mono {K : PySem.W.Frag} {H H' : Hp} (t : Ext H H') : ∀ {d : Option D} {v : Option V}, RelO2 K H d v → RelO2 K H' d v
  | some _, some _, h => Rep.mono t h
  | none, _, _ => trivial
  | some _, none, h => h
theorem RepEnv.mono {K : PySem.W.Frag} {H H' : Hp} (t : Ext H H') {ρ : DEnv} {σ : St} (h : RepEnv K H ρ σ) : RepEnv K H' ρ σ := Paired.mapP h fun _ _ q => RelO2.mono t q
theorem RepEnv.get {K : PySem.W.Frag} {H : Hp} : ∀ {ρ : DEnv} {σ : St} {i : Nat} {d : D}, RepEnv K H ρ σ → ρ[i]? = some (some d) → ∃ v, σ[i]? = some (some v) ∧ Rep K H d v
  | _, _, _, _, .nil, e => by simp at e
  | _, _, 0, _, .cons (b := some v) h _, e => by simp at e; subst e; exact ⟨v, rfl, h⟩
  | _, _, 0, _, .cons (b := none) h _, e => by simp at e; subst e; exact h.elim
  | _, _, i + 1, _, .cons _ r, e => by
    obtain ⟨v, h1, h2⟩ := RepEnv.get (i := i) r (by simpa using e)
    exact ⟨v, by simpa using h1, h2⟩
theorem RepEnv.set {K : PySem.W.Frag} {H : Hp} {d : D} {v : V} (h : Rep K H d v) : ∀ {ρ : DEnv} {σ : St} (i : Nat), RepEnv K H ρ σ → RepEnv K H (ρ.set i (some d)) (σ.set i (some v))
  | _, _, _, .nil => .nil
  | _, _, 0, .cons _ r => .cons h r
  | _, _, i + 1, .cons q r => .cons q (RepEnv.set h i r)
theorem RepEnv.setNone {K : PySem.W.Frag} {H : Hp} {v : Option V} : ∀ {ρ : DEnv} {σ : St} (i : Nat), RepEnv K H ρ σ → RepEnv K H (ρ.set i none) (σ.set i v)
  | _, _, _, .nil => .nil
  | _, _, 0, .cons _ r => .cons trivial r
  | _, _, i + 1, .cons q r => .cons q (RepEnv.setNone i r)
def wipeD (ρ : DEnv) : List Nat → DEnv
  | [] => ρ
  | v :: vs => (wipeD ρ vs).set v none
theorem RepEnv.wipe {K : PySem.W.Frag} {H : Hp} {ρ : DEnv} {σ : St} (h : RepEnv K H ρ σ) : ∀ vs : List Nat, RepEnv K H (wipeD ρ vs) (L2.wipe σ vs)
  | [] => h
  | v :: vs => (RepEnv.wipe h vs).setNone v
end L2.Lh

namespace L2.Lh
open PySem PySem.Spec PyProof.Rows

abbrev DQ := D → Mem → Prop
abbrev DTE := DEnv → Mem → DQ → Prop
abbrev DTT := DEnv → Mem → (Bool → Mem → Prop) → Prop
abbrev DTA := DEnv → Mem → (List D → Mem → Prop) → Prop
structure DEnds where
  nx : DEnv → Mem → Prop
  rt : DQ
  bk : DEnv → Mem → Prop := fun _ _ => False
  ct : DEnv → Mem → Prop := fun _ _ => False
abbrev DTS := DEnds → DEnv → Mem → Prop
abbrev DTG := D → DEnv → Mem → (DEnv → Mem → Prop) → Prop

structure Bs where
  H : Hp
  m : Mem
structure Pre (K : PySem.W.Frag) (B : Bs) (ρ : DEnv) (m : Mem) (σ : St) (H : Hp) : Prop where
  env : RepEnv K H ρ σ
  sim : Sim K H m
  st : Step B.H B.m H m
theorem Pre.next {K : PySem.W.Frag} {B : Bs} {ρ : DEnv} {m m' : Mem} {σ : St} {H H' : Hp} (p : Pre K B ρ m σ H) (s : Sim K H' m') (t : Step H m H' m') : Pre K B ρ m' σ H' := ⟨p.env.mono t.ext, s, p.st.trans t⟩

def PostE (K : PySem.W.Frag) (H : Hp) (m : Mem) (q : DQ) (Q : VK) : Prop := ∀ d m' v H', q d m' → Rep K H' d v → Sim K H' m' → Step H m H' m' → Q v H'
def upE (K : PySem.W.Frag) (B : Bs) (t : DTE) : TE := fun σ H Q => ∃ ρ m q, Pre K B ρ m σ H ∧ t ρ m q ∧ PostE K H m q Q
def upT (K : PySem.W.Frag) (B : Bs) (t : DTT) : TT := fun σ H Q => ∃ ρ m q, Pre K B ρ m σ H ∧ t ρ m q ∧ ∀ b m' H', q b m' → Sim K H' m' → Step H m H' m' → Q b H'
def upA (K : PySem.W.Frag) (B : Bs) (t : DTA) : TA := fun σ H Q => ∃ ρ m q, Pre K B ρ m σ H ∧ t ρ m q ∧ ∀ ds m' vs H', q ds m' → Reps K H' ds vs → Sim K H' m' → Step H m H' m' → Q vs H'
/-- a new list, not remembered -/
abbrev DTL := DTA
def upL (K : PySem.W.Frag) (B : Bs) (t : DTL) : TE := fun σ H Q => ∃ ρ m q, Pre K B ρ m σ H ∧ t ρ m q ∧
  ∀ ds m' a vs H', q ds m' → H' a = some (.lst vs) → Reps K H' ds vs → m' a = none → H a = none → Sim K H' m' → Step H m H' m' → Q (.ref a) H'
structure EndsOk (K : PySem.W.Frag) (H : Hp) (m : Mem) (E : DEnds) (F : Ends) : Prop where
  nx : ∀ ρ' m' σ' H', E.nx ρ' m' → RepEnv K H' ρ' σ' → Sim K H' m' → Step H m H' m' → F.nx σ' H'
  rt : ∀ d m' v H', E.rt d m' → Rep K H' d v → Sim K H' m' → Step H m H' m' → F.rt v H'
  bk : ∀ ρ' m' σ' H', E.bk ρ' m' → RepEnv K H' ρ' σ' → Sim K H' m' → Step H m H' m' → F.bk σ' H'
  ct : ∀ ρ' m' σ' H', E.ct ρ' m' → RepEnv K H' ρ' σ' → Sim K H' m' → Step H m H' m' → F.ct σ' H'
theorem EndsOk.next {K : PySem.W.Frag} {H H1 : Hp} {m m1 : Mem} {E : DEnds} {F : Ends} (o : EndsOk K H m E F) (t : Step H m H1 m1) : EndsOk K H1 m1 E F :=
  ⟨fun a b c d h1 h2 h3 h4 => o.nx a b c d h1 h2 h3 (t.trans h4), fun a b c d h1 h2 h3 h4 => o.rt a b c d h1 h2 h3 (t.trans h4),
    fun a b c d h1 h2 h3 h4 => o.bk a b c d h1 h2 h3 (t.trans h4), fun a b c d h1 h2 h3 h4 => o.ct a b c d h1 h2 h3 (t.trans h4)⟩
def upS (K : PySem.W.Frag) (B : Bs) (t : DTS) : TS := fun F σ H => ∃ ρ m E, Pre K B ρ m σ H ∧ t E ρ m ∧ EndsOk K H m E F
/-- a target: vs are the slots that it may change -/
def upG (K : PySem.W.Frag) (B : Bs) (vs : List Nat) (t : DTG) : TG := fun v σ H Q => ∃ d ρ m q, Rep K H d v ∧ Pre K B ρ m σ H ∧ t d ρ m q ∧
  ∀ ρ' m' σ' H', q ρ' m' → RepEnv K H' ρ' σ' → L2.wipe σ' vs = L2.wipe σ vs → Sim K H' m' → Step H m H' m' → Q σ' H'

abbrev DE (B : Bs) (X : Cx) (e : Expr) (t : DTE) : Prop := PE X e (upE X.K B t)
abbrev DT (B : Bs) (X : Cx) (e : Expr) (t : DTT) : Prop := PT X e (upT X.K B t)
abbrev DW (B : Bs) (X : Cx) (e : Expr) (t : DTT) : Prop := PW X e (upT X.K B t)
abbrev DA (B : Bs) (X : Cx) (es : List Expr) (t : DTA) : Prop := PA X es (upA X.K B t)
abbrev DL (B : Bs) (X : Cx) (e : Expr) (t : DTL) : Prop := PE X e (upL X.K B t)
abbrev DS (B : Bs) (X : Cx) (s : Stmt) (t : DTS) : Prop := PS X s (upS X.K B t)
abbrev DSs (B : Bs) (X : Cx) (s : List Stmt) (t : DTS) : Prop := PSs X s (upS X.K B t)
abbrev DG (B : Bs) (X : Cx) (vs : List Nat) (e : Expr) (t : DTG) : Prop := PG X e (upG X.K B vs t)

section
variable {X : Cx}
theorem pe_imp {e : Expr} {t t' : TE} (h : PE X e t) (i : ∀ σ H Q, t' σ H Q → t σ H Q) : PE X e t' := ⟨fun pins s σ H Q I w => h.run pins s σ H Q I (i σ H Q w)⟩
theorem pt_imp {e : Expr} {t t' : TT} (h : PT X e t) (i : ∀ σ H Q, t' σ H Q → t σ H Q) : PT X e t' := ⟨fun pins s σ H Q I w => h.run pins s σ H Q I (i σ H Q w)⟩
theorem pw_imp {e : Expr} {t t' : TT} (h : PW X e t) (i : ∀ σ H Q, t' σ H Q → t σ H Q) : PW X e t' := ⟨fun wh pins s σ H Q I w => h.run wh pins s σ H Q I (i σ H Q w)⟩
theorem pa_imp {e : List Expr} {t t' : TA} (h : PA X e t) (i : ∀ σ H Q, t' σ H Q → t σ H Q) : PA X e t' := ⟨fun p pins s σ H Q I w => h.run p pins s σ H Q I (i σ H Q w)⟩
theorem ps_imp {e : Stmt} {t t' : TS} (h : PS X e t) (i : ∀ F σ H, t' F σ H → t F σ H) : PS X e t' := ⟨fun pins s σ H F I w => h.run pins s σ H F I (i F σ H w)⟩
theorem pss_imp {e : List Stmt} {t t' : TS} (h : PSs X e t) (i : ∀ F σ H, t' F σ H → t F σ H) : PSs X e t' := ⟨fun pins s σ H F I w => h.run pins s σ H F I (i F σ H w)⟩
theorem pg_imp {e : Expr} {t t' : TG} (h : PG X e t) (i : ∀ v σ H Q, t' v σ H Q → t v σ H Q) : PG X e t' := ⟨fun pins s σ H v u Q I r w => h.run pins s σ H v u Q I r (i v σ H Q w)⟩
end

/-! ### names, constants -/
def dVar (i : Nat) : DTE := fun ρ m q => match ρ[i]? with | some (some d) => q d m | _ => False
def dC (d : D) : DTE := fun _ m q => q d m
section
variable {X : Cx} {B : Bs}
theorem de_var (i : Nat) {x : Str} {pos : Pos} (hN : X.N[i]? = some x := by rfl) (hv : Vis X.env.scope x := by first | exact Or.inl rfl | exact Or.inr (Or.inl rfl) | exact Or.inr (Or.inr rfl)) (hd : (x == ("__debug__" : Str)) = false := by decide)
    (hcd : (x == ("__classdict__" : Str)) = false := by decide) : DE B X (.Name x pos) (dVar i) :=
  pe_imp (pe_var hN hv hd hcd) fun σ H Q ⟨ρ, m, q, p, h, post⟩ => by
    unfold dVar at h
    split at h
    · rename_i d e
      obtain ⟨v, e1, r⟩ := p.env.get e
      exact ⟨v, e1, post d m v H h r p.sim (Step.refl _ _)⟩
    · exact h.elim
theorem de_const {e : Expr} {d : D} {v : V} (h : PE X e (tC v)) (r : ∀ H, Rep X.K H d v) : DE B X e (dC d) :=
  pe_imp h fun σ H Q ⟨ρ, m, q, p, h, post⟩ => post d m v H h (r H) p.sim (Step.refl _ _)
theorem de_int {i j pos} : DE B X (.Constant (.int i) j pos) (dC (.int i)) := de_const pe_int fun _ => .int i
theorem de_bl {i j pos} : DE B X (.Constant (.bool i) j pos) (dC (.bl i)) := de_const pe_bl fun _ => .bl i
theorem de_non {j pos} : DE B X (.Constant .none j pos) (dC .non) := de_const pe_non fun _ => .non
theorem de_str {i j pos} : DE B X (.Constant (.str i) j pos) (dC (.str i)) := de_const pe_str fun _ => .str i
theorem de_gint {x : Str} {i : Int} {t : Tok} {pos : Pos} (hg : Gl X x) (hm : X.mg x = some (.int i t)) (hd : (x == ("__debug__" : Str)) = false := by decide) : DE B X (.Name x pos) (dC (.int i)) := de_const (pe_glob (v := .int i) hg hm ⟨t, rfl⟩ hd) fun _ => .int i
theorem de_gref {x : Str} {a : Addr} {pos : Pos} (hg : Gl X x) (hm : X.mg x = some (.ref a)) (hd : (x == ("__debug__" : Str)) = false := by decide) : DE B X (.Name x pos) (dC (.ref a)) := de_const (pe_glob (v := .ref a) hg hm rfl hd) fun _ => .ref a
theorem de_ty {x : Str} {n : String} {pos : Pos} (hg : Gl X x) (hm : X.mg x = none) (hv : bootBuiltins x = some (.type n)) (hn : x ≠ "__name__" := by decide) (hd : (x == ("__debug__" : Str)) = false := by decide) : DE B X (.Name x pos) (dC (.ty n)) :=
  de_const (pe_bltn (v := .ty n) hg hm hv rfl hn hd) fun _ => .ty n
/-- a remembered list of a new one -/
theorem de_dl {e : Expr} {t : DTL} (h : DL B X e t) : DE B X e (fun ρ m q => t ρ m fun ds m' => ∀ a, m' a = none → q (.ref a) (m'.set a (.lst ds))) :=
  pe_imp h fun σ H Q ⟨ρ, m, q, p, h, post⟩ => ⟨ρ, m, _, p, h, fun ds m' a vs H' hq ha hr hn h0 hs st =>
    post (.ref a) (m'.set a (.lst ds)) (.ref a) H' (hq a hn) (.ref a) (fun b o e => by
      by_cases z : b = a
      · subst z; rw [Mem.set_same] at e; cases e; exact ⟨vs, ha, hr⟩
      · rw [Mem.set_ne z] at e; exact hs b o e)
    ⟨st.ext, st.dom, st.keep, fun b o n e => by rw [Mem.set_ne (fun z => by rw [z, h0] at e; cases e)]; exact st.new b o n e⟩⟩
end

/-! ### operations by values -/
abbrev DR2 := D → D → Mem → DQ → Prop
abbrev DR1 := D → Mem → DQ → Prop
abbrev DRC := List D → Mem → DQ → Prop
def up2 (K : PySem.W.Frag) (r : DR2) : R2 := fun x y H Q => ∃ dx dy m q, Rep K H dx x ∧ Rep K H dy y ∧ Sim K H m ∧ r dx dy m q ∧ PostE K H m q Q
def up1 (K : PySem.W.Frag) (r : DR1) : V → Hp → VK → Prop := fun x H Q => ∃ dx m q, Rep K H dx x ∧ Sim K H m ∧ r dx m q ∧ PostE K H m q Q
def upC (K : PySem.W.Frag) (r : DRC) : List V → Hp → VK → Prop := fun xs H Q => ∃ ds m q, Reps K H ds xs ∧ Sim K H m ∧ r ds m q ∧ PostE K H m q Q
abbrev OpD (X : Cx) (f : Value → Value → Sem Value) (r : DR2) : Prop := OpR X f (up2 X.K r)
abbrev UnD (X : Cx) (f : Value → Sem Value) (r : DR1) : Prop := UnR X f (up1 X.K r)
abbrev CallD (X : Cx) (f : Value) (r : DRC) : Prop := CallR X f (upC X.K r)
def dOp (r : DR2) (ta tb : DTE) : DTE := fun ρ m q => ta ρ m fun x m1 => tb ρ m1 fun y m2 => r x y m2 q
def dUn (r : DR1) (ta : DTE) : DTE := fun ρ m q => ta ρ m fun x m1 => r x m1 q
def dTest (t : DTE) : DTT := fun ρ m q => t ρ m fun d m' => match d with | .bl b => q b m' | _ => False
section
variable {X : Cx} {B : Bs} {a b c : Expr} {ta tb tc : DTE} {pos : Pos}
theorem op_lift {r : DR2} {K : PySem.W.Frag} : ∀ σ H Q, upE K B (dOp r ta tb) σ H Q → tOp (up2 K r) (upE K B ta) (upE K B tb) σ H Q :=
  fun σ H Q ⟨ρ, m, q, p, h, post⟩ => ⟨ρ, m, _, p, h, fun d m1 v H1 h1 r1 s1 t1 => ⟨ρ, m1, _, p.next s1 t1, h1, fun d2 m2 v2 H2 h2 r2 s2 t2 =>
    ⟨d, d2, m2, q, r1.mono t2.ext, r2, s2, h2, fun d3 m3 v3 H3 h3 r3 s3 t3 => post d3 m3 v3 H3 h3 r3 s3 (t1.trans (t2.trans t3))⟩⟩⟩
theorem de_op {op : Operator} {r : DR2} (ho : OpD X (binaryOp op) r) (ha : DE B X a ta) (hb : DE B X b tb) : DE B X (.BinOp a op b pos) (dOp r ta tb) := pe_imp (pe_op ho ha hb) op_lift
theorem de_un {op : UnaryOp} {r : DR1} (ho : UnD X (unaryOp op) r) (ha : DE B X a ta) : DE B X (.UnaryOp op a pos) (dUn r ta) :=
  pe_imp (pe_un ho ha) fun σ H Q ⟨ρ, m, q, p, h, post⟩ => ⟨ρ, m, _, p, h, fun d m1 v H1 h1 r1 s1 t1 => ⟨d, m1, q, r1, s1, h1, fun d3 m3 v3 H3 h3 r3 s3 t3 => post d3 m3 v3 H3 h3 r3 s3 (t1.trans t3)⟩⟩
theorem de_cmp {op : CmpOp} {r : DR2} (ho : OpD X (compareOp op) r) (ha : DE B X a ta) (hb : DE B X b tb) (hm : behindInMarks op b = false) : DE B X (.Compare a [op] [b] pos) (dOp r ta tb) := pe_imp (pe_cmpR ho ha hb hm) op_lift
theorem test_lift {t : DTE} {t' : TE} {K : PySem.W.Frag} (hl : ∀ σ H Q, upE K B t σ H Q → t' σ H Q) : ∀ σ H Q, upT K B (dTest t) σ H Q → tTest t' σ H Q :=
  fun σ H Q ⟨ρ, m, q, p, h, post⟩ => hl σ H _ ⟨ρ, m, _, p, h, fun d m1 v H1 h1 r1 s1 t1 => by
    cases d with
    | bl b => cases r1; exact ⟨b, rfl, post b m1 H1 h1 s1 t1⟩
    | _ => exact (show False from h1).elim⟩
theorem dt_cmp {op : CmpOp} {r : DR2} (ho : OpD X (compareOp op) r) (ha : DE B X a ta) (hb : DE B X b tb) (hm : behindInMarks op b = false) : DT B X (.Compare a [op] [b] pos) (dTest (dOp r ta tb)) :=
  pt_imp (pt_cmpR ho ha hb hm) (test_lift op_lift)
def dChain (r r' : DR2) (ta tb tc : DTE) : DTE := fun ρ m q => ta ρ m fun x m1 => tb ρ m1 fun y m2 => r x y m2 fun z m3 => match z with
  | .bl k => if k = true then tc ρ m3 fun w m4 => r' y w m4 q else q (.bl false) m3
  | _ => False
theorem chain_lift {r r' : DR2} {K : PySem.W.Frag} : ∀ σ H Q, upE K B (dChain r r' ta tb tc) σ H Q → tChain (up2 K r) (up2 K r') (upE K B ta) (upE K B tb) (upE K B tc) σ H Q :=
  fun σ H Q ⟨ρ, m, q, p, h, post⟩ => ⟨ρ, m, _, p, h, fun d m1 v H1 h1 r1 s1 t1 => ⟨ρ, m1, _, p.next s1 t1, h1, fun d2 m2 v2 H2 h2 r2 s2 t2 =>
    ⟨d, d2, m2, _, r1.mono t2.ext, r2, s2, h2, fun z m3 v3 H3 h3 r3 s3 t3 => by
      cases z with
      | bl k =>
        cases r3
        refine ⟨k, rfl, ?_⟩
        cases k with
        | false => exact post (.bl false) m3 (.bl false) H3 h3 (.bl false) s3 (t1.trans (t2.trans t3))
        | true => exact ⟨ρ, m3, _, (p.next s1 t1).next s2 t2 |>.next s3 t3, h3, fun d4 m4 v4 H4 h4 r4 s4 t4 =>
            ⟨d2, d4, m4, q, (r2.mono t3.ext).mono t4.ext, r4, s4, h4, fun d5 m5 v5 H5 h5 r5 s5 t5 => post d5 m5 v5 H5 h5 r5 s5 (t1.trans (t2.trans (t3.trans (t4.trans t5))))⟩⟩
      | _ => exact (show False from h3).elim⟩⟩⟩
theorem de_chain {op op' : CmpOp} {r r' : DR2} (ho : OpD X (compareOp op) r) (ho' : OpD X (compareOp op') r') (ha : DE B X a ta) (hb : DE B X b tb) (hc : DE B X c tc)
    (hm : lastMarks [op, op'] [b, c] = false := by with_unfolding_all rfl) : DE B X (.Compare a [op, op'] [b, c] pos) (dChain r r' ta tb tc) := pe_imp (pe_chain ho ho' ha hb hc hm) chain_lift
theorem dt_chain {op op' : CmpOp} {r r' : DR2} (ho : OpD X (compareOp op) r) (ho' : OpD X (compareOp op') r') (ha : DE B X a ta) (hb : DE B X b tb) (hc : DE B X c tc)
    (hm : lastMarks [op, op'] [b, c] = false := by with_unfolding_all rfl) : DT B X (.Compare a [op, op'] [b, c] pos) (dTest (dChain r r' ta tb tc)) := pt_imp (pt_chain ho ho' ha hb hc hm) (test_lift chain_lift)
end

/-! ### truth, and, or, not -/
/-- the items of a list: a remembered one or a read-only one -/
def itemsL (m : Mem) : D → Option (List D)
  | .rol xs => some xs
  | .ref a => match m a with
    | some (.lst xs) => some xs
    | _ => none
  | _ => none
def truD (d : D) (m : Mem) : Option Bool := match d with
  | .non => some false
  | .bl b => some b
  | .int i => some (i != 0)
  | .tup xs => some (!xs.isEmpty)
  | .ftup xs => some (!xs.isEmpty)
  | .rol xs => some (!xs.isEmpty)
  | .ref a => match m a with
    | some (.lst xs) => some (!xs.isEmpty)
    | _ => none
  | _ => none
theorem isEmpty_reps {K : PySem.W.Frag} {H : Hp} {ds : List D} {vs : List V} (r : Reps K H ds vs) : (!ds.isEmpty) = !vs.isEmpty := by cases r <;> rfl
theorem rol_sq {K : PySem.W.Frag} {H : Hp} {a : Addr} {vs : List V} (h : (∃ o, H a = some (.frz o (.lst vs))) ∨ (∃ (o : Obj) (its : Array Value) (n : Nat), K.lookup a = some o ∧ o.cls = .type "list" ∧ o.dict = none ∧ o.data = .seq its n ∧ its.size ≤ sizeLine ∧ Vals vs its.toList)) : SqL K H a vs := by
  rcases h with ⟨o, h⟩ | h
  · exact .inl (.inr ⟨o, h⟩)
  · exact .inr h
theorem Sim.sq {K : PySem.W.Frag} {H : Hp} {m : Mem} {d : D} {v : V} {xs : List D} (s : Sim K H m) (r : Rep K H d v) (e : itemsL m d = some xs) : ∃ a vs, v = .ref a ∧ SqL K H a vs ∧ Reps K H xs vs := by
  cases r with
  | rol h rs => cases e; exact ⟨_, _, rfl, rol_sq h, rs⟩
  | ref a =>
    unfold itemsL at e
    dsimp only at e
    split at e
    · rename_i ys q; cases e; obtain ⟨vs, h, r⟩ := s a _ q; exact ⟨a, vs, rfl, .inl (.inl h), r⟩
    · cases e
  | _ => cases e
theorem truD_ok {K : PySem.W.Frag} {H : Hp} {m : Mem} {d : D} {v : V} {k : Bool} (s : Sim K H m) (r : Rep K H d v) (e : truD d m = some k) : TruV K v H k := by
  cases r with
  | non => cases e; rfl
  | bl b => cases e; rfl
  | int i => cases e; rfl
  | str x => cases e
  | ty n => cases e
  | tup h rs => cases e; exact .inr (.inl ⟨_, SqT.of h, isEmpty_reps rs⟩)
  | ftup h _ rs => cases e; exact .inr (.inl ⟨_, .inl (.inr ⟨_, h⟩), isEmpty_reps rs⟩)
  | rol h rs => cases e; exact .inl ⟨_, rol_sq h, isEmpty_reps rs⟩
  | ref a =>
    refine .inl ?_
    unfold truD at e
    dsimp only at e
    split at e
    · rename_i xs q
      obtain ⟨vs, h, rr⟩ := s a _ q
      cases e
      exact ⟨vs, .inl (.inl h), isEmpty_reps rr⟩
    · cases e
def dTruth (t : DTE) : DTT := fun ρ m q => t ρ m fun d m' => match truD d m' with | some b => q b m' | none => False
def dAnd (t u : DTT) : DTT := fun ρ m q => t ρ m fun c m1 => if c = true then u ρ m1 q else q false m1
def dOr (t u : DTT) : DTT := fun ρ m q => t ρ m fun c m1 => if c = true then q true m1 else u ρ m1 q
def dNot (t : DTT) : DTT := fun ρ m q => t ρ m fun c m1 => q (!c) m1
def dAndV (ta tb : DTE) : DTE := fun ρ m q => ta ρ m fun x m1 => match x with | .bl c => if c = true then tb ρ m1 q else q (.bl false) m1 | _ => False
def dOrV (ta tb : DTE) : DTE := fun ρ m q => ta ρ m fun x m1 => match x with | .bl c => if c = true then q (.bl true) m1 else tb ρ m1 q | _ => False
def dNotV (ta : DTE) : DTE := fun ρ m q => ta ρ m fun x m1 => match x with | .bl c => q (.bl (!c)) m1 | _ => False
def dIf (t : DTT) (ta tb : DTE) : DTE := fun ρ m q => t ρ m fun c m1 => if c = true then ta ρ m1 q else tb ρ m1 q
section
variable {X : Cx} {B : Bs} {a b c : Expr} {ta tb tc : DTE} {tA tB : DTT} {pos : Pos} {rest : List Expr}
theorem dt_truth (ha : DE B X a ta) (he : ∀ whole, isTrue a X.env whole = (do let v ← whole; standAt a.pos; holding [v] (truthy v)) := by intro _; rfl) : DT B X a (dTruth ta) :=
  pt_imp (pt_truth ha he) fun σ H Q ⟨ρ, m, q, p, h, post⟩ => ⟨ρ, m, _, p, h, fun d m1 v H1 h1 r1 s1 t1 => by
    cases e : truD d m1 with
    | none => rw [e] at h1; exact h1.elim
    | some k => rw [e] at h1; exact ⟨k, truD_ok s1 r1 e, post k m1 H1 h1 s1 t1⟩⟩
theorem and_lift {K : PySem.W.Frag} : ∀ σ H Q, upT K B (dAnd tA tB) σ H Q → tAnd (upT K B tA) (upT K B tB) σ H Q :=
  fun σ H Q ⟨ρ, m, q, p, h, post⟩ => ⟨ρ, m, _, p, h, fun k m1 H1 h1 s1 t1 => by
    cases k with
    | true => exact ⟨ρ, m1, q, p.next s1 t1, h1, fun k2 m2 H2 h2 s2 t2 => post k2 m2 H2 h2 s2 (t1.trans t2)⟩
    | false => exact post false m1 H1 h1 s1 t1⟩
theorem or_lift {K : PySem.W.Frag} : ∀ σ H Q, upT K B (dOr tA tB) σ H Q → tOr (upT K B tA) (upT K B tB) σ H Q :=
  fun σ H Q ⟨ρ, m, q, p, h, post⟩ => ⟨ρ, m, _, p, h, fun k m1 H1 h1 s1 t1 => by
    cases k with
    | false => exact ⟨ρ, m1, q, p.next s1 t1, h1, fun k2 m2 H2 h2 s2 t2 => post k2 m2 H2 h2 s2 (t1.trans t2)⟩
    | true => exact post true m1 H1 h1 s1 t1⟩
theorem dw_and1 (ha : DT B X a tA) : DW B X (.BoolOp .And [a] pos) tA := pw_and1 ha
theorem dw_or1 (ha : DT B X a tA) : DW B X (.BoolOp .Or [a] pos) tA := pw_or1 ha
theorem dw_and (ha : DT B X a tA) (hb : DW B X (.BoolOp .And (b :: rest) pos) tB) : DW B X (.BoolOp .And (a :: b :: rest) pos) (dAnd tA tB) := pw_imp (pw_and ha hb) and_lift
theorem dw_or (ha : DT B X a tA) (hb : DW B X (.BoolOp .Or (b :: rest) pos) tB) : DW B X (.BoolOp .Or (a :: b :: rest) pos) (dOr tA tB) := pw_imp (pw_or ha hb) or_lift
theorem dt_w {e : Expr} (h : DW B X e tA) : DT B X e tA := PW.pt h
theorem dt_not (ha : DT B X a tA) : DT B X (.UnaryOp .Not a pos) (dNot tA) :=
  pt_imp (pt_not ha) fun σ H Q ⟨ρ, m, q, p, h, post⟩ => ⟨ρ, m, _, p, h, fun k m1 H1 h1 s1 t1 => post (!k) m1 H1 h1 s1 t1⟩
theorem de_one {op} {t : DTE} (h : DE B X a t) : DE B X (.BoolOp op [a] pos) t := pe_one h
theorem de_and (ha : DE B X a ta) (hb : DE B X (.BoolOp .And (b :: rest) pos) tb) : DE B X (.BoolOp .And (a :: b :: rest) pos) (dAndV ta tb) :=
  pe_imp (pe_and ha hb) fun σ H Q ⟨ρ, m, q, p, h, post⟩ => ⟨ρ, m, _, p, h, fun d m1 v H1 h1 r1 s1 t1 => by
    cases d with
    | bl k =>
      cases r1
      refine ⟨k, rfl, ?_⟩
      cases k with
      | true => exact ⟨ρ, m1, q, p.next s1 t1, h1, fun d2 m2 v2 H2 h2 r2 s2 t2 => post d2 m2 v2 H2 h2 r2 s2 (t1.trans t2)⟩
      | false => exact post (.bl false) m1 _ H1 h1 (.bl false) s1 t1
    | _ => exact (show False from h1).elim⟩
theorem de_or (ha : DE B X a ta) (hb : DE B X (.BoolOp .Or (b :: rest) pos) tb) : DE B X (.BoolOp .Or (a :: b :: rest) pos) (dOrV ta tb) :=
  pe_imp (pe_or ha hb) fun σ H Q ⟨ρ, m, q, p, h, post⟩ => ⟨ρ, m, _, p, h, fun d m1 v H1 h1 r1 s1 t1 => by
    cases d with
    | bl k =>
      cases r1
      refine ⟨k, rfl, ?_⟩
      cases k with
      | false => exact ⟨ρ, m1, q, p.next s1 t1, h1, fun d2 m2 v2 H2 h2 r2 s2 t2 => post d2 m2 v2 H2 h2 r2 s2 (t1.trans t2)⟩
      | true => exact post (.bl true) m1 _ H1 h1 (.bl true) s1 t1
    | _ => exact (show False from h1).elim⟩
theorem de_not (ha : DE B X a ta) : DE B X (.UnaryOp .Not a pos) (dNotV ta) :=
  pe_imp (pe_not ha) fun σ H Q ⟨ρ, m, q, p, h, post⟩ => ⟨ρ, m, _, p, h, fun d m1 v H1 h1 r1 s1 t1 => by
    cases d with
    | bl k => cases r1; exact ⟨k, rfl, post (.bl (!k)) m1 _ H1 h1 (.bl (!k)) s1 t1⟩
    | _ => exact (show False from h1).elim⟩
theorem de_ifExp (hc : DT B X c tA) (ha : DE B X a ta) (hb : DE B X b tb) : DE B X (.IfExp c a b pos) (dIf tA ta tb) :=
  pe_imp (pe_ifExp hc ha hb) fun σ H Q ⟨ρ, m, q, p, h, post⟩ => ⟨ρ, m, _, p, h, fun k m1 H1 h1 s1 t1 => by
    cases k with
    | true => exact ⟨ρ, m1, q, p.next s1 t1, h1, fun d2 m2 v2 H2 h2 r2 s2 t2 => post d2 m2 v2 H2 h2 r2 s2 (t1.trans t2)⟩
    | false => exact ⟨ρ, m1, q, p.next s1 t1, h1, fun d2 m2 v2 H2 h2 r2 s2 t2 => post d2 m2 v2 H2 h2 r2 s2 (t1.trans t2)⟩⟩
end

/-! ### arguments, displays, calls of built-ins -/
def dNil : DTA := fun _ m q => q [] m
def dCons (ta : DTE) (tr : DTA) : DTA := fun ρ m q => ta ρ m fun d m1 => tr ρ m1 fun ds m2 => q (d :: ds) m2
/-- a new list among the arguments: it is remembered -/
def dTup (t : DTA) : DTE := fun ρ m q => t ρ m fun ds m1 => ds.length ≤ sizeLine ∧ q (.tup ds) m1
def dLst (t : DTA) : DTL := fun ρ m q => t ρ m fun ds m1 => ds.length ≤ sizeLine ∧ q ds m1
def dCB (r : DRC) (t : DTA) : DTE := fun ρ m q => t ρ m fun ds m1 => r ds m1 q
section
variable {X : Cx} {B : Bs} {e : Expr} {es : List Expr} {te : DTE} {t : DTA} {pos p : Pos} {x : Str} {id T : String} {r : DRC}
theorem da_nil : DA B X [] dNil := pa_imp pa_nil fun σ H Q ⟨ρ, m, q, p, h, post⟩ => post [] m [] H h .nil p.sim (Step.refl _ _)
theorem da_cons (ha : DE B X e te) (hr : DA B X es t) (hs : starEach (e :: es) X.env = (false, eval e X.env) :: starEach es X.env := by rfl) : DA B X (e :: es) (dCons te t) :=
  pa_imp (pa_cons ha hr hs) fun σ H Q ⟨ρ, m, q, p, h, post⟩ => ⟨ρ, m, _, p, h, fun d m1 v H1 h1 r1 s1 t1 => ⟨ρ, m1, _, p.next s1 t1, h1, fun ds m2 vs H2 h2 r2 s2 t2 =>
    post (d :: ds) m2 (v :: vs) H2 h2 (.cons (r1.mono t2.ext) r2) s2 (t1.trans t2)⟩⟩
theorem de_tup {x1} (h : DA B X es t) : DE B X (.Tuple es x1 pos) (dTup t) :=
  pe_imp (pe_tup h) fun σ H Q ⟨ρ, m, q, p, h, post⟩ => ⟨ρ, m, _, p, h, fun ds m1 vs H1 ⟨hz, h1⟩ r1 s1 t1 => ⟨by rw [← r1.length]; exact hz, fun a ha =>
    post (.tup ds) m1 (.ref a) _ h1 (.tup upd_same (r1.mono (upd_new ha))) (s1.alloc ha) (t1.trans (Step.alloc ha))⟩⟩
theorem dl_lst (h : DA B X es t) : DL B X (.List es pos) (dLst t) :=
  pe_imp (pe_lst h) fun σ H Q ⟨ρ, m, q, p, h, post⟩ => ⟨ρ, m, _, p, h, fun ds m1 vs H1 ⟨hz, h1⟩ r1 s1 t1 => ⟨by rw [← r1.length]; exact hz, fun a ha => by
    have hm : m1 a = none := s1.free ha
    exact post ds m1 a vs _ h1 upd_same (r1.mono (upd_new ha)) hm (t1.dom a ha) (s1.alloc ha) (t1.trans (Step.alloc ha))⟩⟩
end
end L2.Lh

namespace L2.Lh
open PySem PySem.Spec PyProof.Rows

/-! ### operators by values -/
theorem PostE.here {K : PySem.W.Frag} {H : Hp} {m : Mem} {q : DQ} {Q : VK} {d : D} {v : V} (p : PostE K H m q Q) (h : q d m) (r : Rep K H d v) (s : Sim K H m) : Q v H := p d m v H h r s (Step.refl _ _)
theorem PostE.tup {K : PySem.W.Frag} {H : Hp} {m : Mem} {q : DQ} {Q : VK} {ds : List D} {vs : List V} {a : Addr} (p : PostE K H m q Q) (h : q (.tup ds) m) (n : H a = none) (r : Reps K H ds vs) (s : Sim K H m) : Q (.ref a) (upd H a (.tup vs)) :=
  p _ m _ _ h (.tup upd_same (r.mono (upd_new n))) (s.alloc n) (Step.alloc n)
theorem PostE.lst {K : PySem.W.Frag} {H : Hp} {m : Mem} {q : DQ} {Q : VK} {ds : List D} {vs : List V} {a : Addr} (p : PostE K H m q Q) (h : ∀ a, m a = none → q (.ref a) (m.set a (.lst ds))) (n : H a = none) (r : Reps K H ds vs) (s : Sim K H m) : Q (.ref a) (upd H a (.lst vs)) :=
  p _ _ _ _ (h a (s.free n)) (.ref a) (s.allocM n ⟨vs, upd_same, r.mono (upd_new n)⟩) (Step.allocM n)
/-- a remembered list is rewritten, d is given back -/
theorem PostE.wrt {K : PySem.W.Frag} {H : Hp} {m : Mem} {q : DQ} {Q : VK} {ds : List D} {vs : List V} {a : Addr} {w : MO} {d : D} {v : V} (p : PostE K H m q Q) (e : m a = some w) (h : q d (m.set a (.lst ds))) (r : Reps K H ds vs) (rd : Rep K H d v) (s : Sim K H m) (hw : w.mut = true := by rfl) : Q v (upd H a (.lst vs)) :=
  p _ _ _ _ h (rd.mono (upd_old s e hw)) (s.write e ⟨vs, upd_same, r.mono (upd_old s e hw)⟩ hw) (Step.write s e hw)
section
variable {X : Cx}
def addD : DR2
  | .int i, .int j, m, q => q (.int (i + j)) m
  | .str x, .str y, m, q => x.length + y.length ≤ sizeLine ∧ q (.str (x ++ y)) m
  | .tup xs, .tup ys, m, q => xs.length + ys.length ≤ sizeLine ∧ q (.tup (xs ++ ys)) m
  | .ref a, .ref b, m, q => ∃ xs ys, m a = some (.lst xs) ∧ m b = some (.lst ys) ∧ xs.length + ys.length ≤ sizeLine ∧ ∀ p, m p = none → q (.ref p) (m.set p (.lst (xs ++ ys)))
  | _, _, _, _ => False
theorem d_add : OpD X (binaryOp .Add) addD := by
  intro pins s σ H x y v u Q I rx ry ⟨dx, dy, m, q, r1, r2, sim, h, post⟩
  cases dx with
  | int i =>
    cases dy with
    | int j => cases r1; cases r2; exact op_add pins s σ H _ _ v u Q I rx ry ⟨i, j, rfl, rfl, post.here h (.int _) sim⟩
    | _ => exact (show False from h).elim
  | str i =>
    cases dy with
    | str j => cases r1; cases r2; exact op_add_str pins s σ H _ _ v u Q I rx ry ⟨i, j, rfl, rfl, h.1, post.here h.2 (.str _) sim⟩
    | _ => exact (show False from h).elim
  | tup xs =>
    cases dy with
    | tup ys =>
      cases r1 with
      | tup h1 q1 =>
        cases r2 with
        | tup h2 q2 =>
          have hz : xs.length + ys.length ≤ sizeLine := h.1
          have hq : q (.tup (xs ++ ys)) m := h.2
          refine op_catA pins s σ H _ _ v u Q I rx ry ⟨_, _, _, _, rfl, rfl, SqT.of h1, SqT.of h2, by rw [← q1.length, ← q2.length]; exact hz, fun e => ?_, fun _ e => ?_, fun _ _ p hp => post.tup hq hp (q1.append q2) sim⟩
          · subst e
            cases q1
            exact post.here hq (.tup h2 q2) sim
          · subst e
            cases q2
            rw [List.append_nil] at hq
            exact post.here hq (.tup h1 q1) sim
    | _ => exact (show False from h).elim
  | ref a =>
    cases dy with
    | ref b =>
      cases r1; cases r2
      obtain ⟨xs, ys, ha, hb, hz, hq⟩ := h
      obtain ⟨va, ea, qa⟩ := sim a _ ha
      obtain ⟨vb, eb, qb⟩ := sim b _ hb
      exact op_cat pins s σ H _ _ v u Q I rx ry ⟨a, b, va, vb, rfl, rfl, ea, eb, by rw [← qa.length, ← qb.length]; exact hz, fun p hp => post.lst hq hp (qa.append qb) sim⟩
    | _ => exact (show False from h).elim
  | _ => exact (show False from h).elim
/-- two ints -/
def iiD (C : Int → Int → Prop) (g : Int → Int → D) : DR2
  | .int i, .int j, m, q => C i j ∧ q (g i j) m
  | _, _, _, _ => False
def ii0 (g : Int → Int → D) : DR2
  | .int i, .int j, m, q => q (g i j) m
  | _, _, _, _ => False
theorem d_ii {f : Value → Value → Sem Value} {C : Int → Int → Prop} {g : Int → Int → Int} (ho : OpR X f (rI C fun i j => .int (g i j))) : OpD X f (iiD C fun i j => .int (g i j)) := by
  intro pins s σ H x y v u Q I rx ry ⟨dx, dy, m, q, r1, r2, sim, h, post⟩
  cases dx with
  | int i =>
    cases dy with
    | int j => cases r1; cases r2; exact ho pins s σ H _ _ v u Q I rx ry ⟨i, j, rfl, rfl, h.1, post.here h.2 (.int _) sim⟩
    | _ => exact (show False from h).elim
  | _ => exact (show False from h).elim
theorem d_ii0 {f : Value → Value → Sem Value} {g : Int → Int → Int} (ho : OpR X f (rI0 fun i j => .int (g i j))) : OpD X f (ii0 fun i j => .int (g i j)) := by
  intro pins s σ H x y v u Q I rx ry ⟨dx, dy, m, q, r1, r2, sim, h, post⟩
  cases dx with
  | int i =>
    cases dy with
    | int j => cases r1; cases r2; exact ho pins s σ H _ _ v u Q I rx ry ⟨i, j, rfl, rfl, post.here h (.int _) sim⟩
    | _ => exact (show False from h).elim
  | _ => exact (show False from h).elim
theorem d_ib {f : Value → Value → Sem Value} {g : Int → Int → Bool} (ho : OpR X f (rI0 fun i j => .bl (g i j))) : OpD X f (ii0 fun i j => .bl (g i j)) := by
  intro pins s σ H x y v u Q I rx ry ⟨dx, dy, m, q, r1, r2, sim, h, post⟩
  cases dx with
  | int i =>
    cases dy with
    | int j => cases r1; cases r2; exact ho pins s σ H _ _ v u Q I rx ry ⟨i, j, rfl, rfl, post.here h (.bl _) sim⟩
    | _ => exact (show False from h).elim
  | _ => exact (show False from h).elim
abbrev subD : DR2 := ii0 fun i j => .int (i - j)
abbrev fdivD : DR2 := iiD CDiv fun i j => .int (i / j)
abbrev modD : DR2 := iiD (fun _ j => 0 < j) fun i j => .int (i % j)
abbrev powD : DR2 := iiD CPow fun i j => .int (i ^ j.toNat)
abbrev ltD : DR2 := ii0 fun i j => .bl (decide (i < j))
abbrev leD : DR2 := ii0 fun i j => .bl (decide (i ≤ j))
abbrev gtD : DR2 := ii0 fun i j => .bl (decide (j < i))
abbrev geD : DR2 := ii0 fun i j => .bl (decide (j ≤ i))
theorem d_sub : OpD X (binaryOp .Sub) subD := d_ii0 op_sub
theorem d_fdiv : OpD X (binaryOp .FloorDiv) fdivD := d_ii op_fdiv
theorem d_mod : OpD X (binaryOp .Mod) modD := d_ii op_mod
theorem d_pow : OpD X (binaryOp .Pow) powD := d_ii op_pow
theorem d_lt : OpD X (compareOp .Lt) ltD := d_ib op_lt
theorem d_le : OpD X (compareOp .LtE) leD := d_ib op_le
theorem d_gt : OpD X (compareOp .Gt) gtD := d_ib op_gt
theorem d_ge : OpD X (compareOp .GtE) geD := d_ib op_ge
theorem di_sub : OpD X (inplaceOp .Sub) subD := d_ii0 iop_sub
theorem di_fdiv : OpD X (inplaceOp .FloorDiv) fdivD := d_ii iop_fdiv
theorem di_mod : OpD X (inplaceOp .Mod) modD := d_ii iop_mod
abbrev addI : DR2 := ii0 fun i j => .int (i + j)
abbrev mulI : DR2 := iiD CMul fun i j => .int (i * j)
theorem di_addI : OpD X (inplaceOp .Add) addI := d_ii0 iop_add
theorem di_mulI : OpD X (inplaceOp .Mult) mulI := d_ii iop_mul
def mulD : DR2
  | .int i, .int j, m, q => CMul i j ∧ q (.int (i * j)) m
  | .ref a, .int k, m, q => ∃ xs, m a = some (.lst xs) ∧ -(2 ^ 63) ≤ k ∧ k < 2 ^ 63 ∧ xs.length * k.toNat ≤ sizeLine ∧ ∀ p, m p = none → q (.ref p) (m.set p (.lst (List.replicate k.toNat xs).flatten))
  | .tup xs, .int k, m, q => xs ≠ [] ∧ 2 ≤ k ∧ k ≤ 1000 ∧ xs.length ≤ 1000 ∧ q (.tup (List.replicate k.toNat xs).flatten) m
  | _, _, _, _ => False
theorem d_mul : OpD X (binaryOp .Mult) mulD := by
  intro pins s σ H x y v u Q I rx ry ⟨dx, dy, m, q, r1, r2, sim, h, post⟩
  cases dx with
  | int i =>
    cases dy with
    | int j => cases r1; cases r2; exact op_mul pins s σ H _ _ v u Q I rx ry ⟨i, j, rfl, rfl, h.1, post.here h.2 (.int _) sim⟩
    | _ => exact (show False from h).elim
  | ref a =>
    cases dy with
    | int j =>
      cases r1; cases r2
      obtain ⟨xs, ha, h1, h2, hz, hq⟩ := h
      obtain ⟨va, ea, qa⟩ := sim a _ ha
      exact op_rep pins s σ H _ _ v u Q I rx ry ⟨a, j, va, rfl, rfl, ea, h1, h2, by rw [← qa.length]; exact hz, fun p hp => post.lst hq hp (qa.rep _) sim⟩
    | _ => exact (show False from h).elim
  | tup xs =>
    cases dy with
    | int j =>
      cases r2
      obtain ⟨h0, h1, h2, hz, hq⟩ := h
      cases r1 with
      | tup e1 q1 =>
        exact op_repT pins s σ H _ _ v u Q I rx ry ⟨_, j, _, rfl, rfl, SqT.of e1, fun z => h0 (by
          subst z; cases q1; rfl), h1, h2, by rw [← q1.length]; exact hz, fun p hp => post.tup hq hp (q1.rep _) sim⟩
    | _ => exact (show False from h).elim
  | _ => exact (show False from h).elim
def negD : DR1
  | .int i, m, q => q (.int (-i)) m
  | _, _, _ => False
theorem d_neg : UnD X (unaryOp .USub) negD := by
  intro pins s σ H x v Q I rx ⟨dx, m, q, r1, sim, h, post⟩
  cases dx with
  | int i => cases r1; exact un_neg pins s σ H _ v Q I rx ⟨i, rfl, post.here h (.int _) sim⟩
  | _ => exact (show False from h).elim
/-- is None -/
def isND (neg : Bool) : DR2
  | .non, .non, m, q => q (.bl (!neg)) m
  | _, .non, m, q => q (.bl neg) m
  | _, _, _, _ => False
theorem rep_non {K : PySem.W.Frag} {H : Hp} {d : D} {v : V} (r : Rep K H d v) : (v = .non ↔ d = .non) := by
  cases r <;> constructor <;> intro h <;> first | rfl | cases h
theorem d_isN : OpD X (compareOp .Is) (isND false) := by
  intro pins s σ H x y v u Q I rx ry ⟨dx, dy, m, q, r1, r2, sim, h, post⟩
  have e := rep_non r1
  cases dy with
  | non =>
    cases r2
    refine op_isN pins s σ H _ _ v u Q I rx ry ⟨rfl, ?_⟩
    by_cases z : x = .non
    · have z2 := e.mp z
      subst z2
      rw [decide_eq_true z]
      exact post.here h (.bl _) sim
    · have z2 : dx ≠ .non := fun q => z (e.mpr q)
      rw [decide_eq_false z]
      cases dx <;> first | exact absurd rfl z2 | exact post.here h (.bl _) sim
  | _ => cases dx <;> exact (show False from h).elim
theorem d_isNotN : OpD X (compareOp .IsNot) (isND true) := by
  intro pins s σ H x y v u Q I rx ry ⟨dx, dy, m, q, r1, r2, sim, h, post⟩
  have e := rep_non r1
  cases dy with
  | non =>
    cases r2
    refine op_notN pins s σ H _ _ v u Q I rx ry ⟨rfl, ?_⟩
    by_cases z : x = .non
    · have z2 := e.mp z
      subst z2
      rw [decide_eq_true z]
      exact post.here h (.bl _) sim
    · have z2 : dx ≠ .non := fun q => z (e.mpr q)
      rw [decide_eq_false z]
      cases dx <;> first | exact absurd rfl z2 | exact post.here h (.bl _) sim
  | _ => cases dx <;> exact (show False from h).elim

/-! ### == of data -/
mutual
def pyW (f : Addr → Option PyData) : D → Option PyData
  | .non => some .none
  | .bl b => some (.bool b)
  | .int i => some (.int i)
  | .str x => some (.str x)
  | .ty _ => none
  | .ref a => f a
  | .tup xs => (pyWs f xs).map .tuple
  | .ftup xs => (pyWs f xs).map .tuple
  | .rol xs => (pyWs f xs).map .list
def pyWs (f : Addr → Option PyData) : List D → Option (List PyData)
  | [] => some []
  | d :: ds => match pyW f d, pyWs f ds with
    | some p, some ps => some (p :: ps)
    | _, _ => none
end
def pyA (m : Mem) : Nat → Addr → Option PyData
  | 0, _ => none
  | n + 1, a => match m a with
    | some (.lst xs) => (pyWs (pyA m n) xs).map .list
    | _ => none
abbrev pyD (m : Mem) (d : D) : Option PyData := pyW (pyA m 3) d
abbrev pyDs (m : Mem) (ds : List D) : Option (List PyData) := pyWs (pyA m 3) ds
mutual
theorem pyW_ok {K : PySem.W.Frag} {H : Hp} {f : Addr → Option PyData} (hf : ∀ a p, f a = some p → Dp K H (.ref a) p) : ∀ {d : D} {v : V} {p : PyData}, Rep K H d v → pyW f d = some p → Dp K H v p
  | _, _, _, .non, e => by cases e; exact .non
  | _, _, _, .bl b, e => by cases e; exact .bl b
  | _, _, _, .int b, e => by cases e; exact .int b
  | _, _, _, .str b, e => by cases e; exact .str b
  | _, _, _, .ty b, e => by cases e
  | _, _, _, .ref a, e => hf a _ e
  | .tup xs, _, _, .tup h r, e => by
    unfold pyW at e
    cases q : pyWs f xs with
    | none => rw [q] at e; cases e
    | some ps => rw [q] at e; cases e; exact .tup (SqT.of h) (pyWs_ok hf r q)
  | .ftup xs, _, _, .ftup h _ r, e => by
    unfold pyW at e
    cases q : pyWs f xs with
    | none => rw [q] at e; cases e
    | some ps => rw [q] at e; cases e; exact .tup (.inl (.inr ⟨_, h⟩)) (pyWs_ok hf r q)
  | .rol xs, _, _, .rol h r, e => by
    unfold pyW at e
    cases q : pyWs f xs with
    | none => rw [q] at e; cases e
    | some ps => rw [q] at e; cases e; exact .lst (rol_sq h) (pyWs_ok hf r q)
theorem pyWs_ok {K : PySem.W.Frag} {H : Hp} {f : Addr → Option PyData} (hf : ∀ a p, f a = some p → Dp K H (.ref a) p) : ∀ {ds : List D} {vs : List V} {ps : List PyData}, Reps K H ds vs → pyWs f ds = some ps → DpAll K H vs ps
  | _, _, _, .nil, e => by cases e; exact .nil
  | d :: ds, _, _, .cons h r, e => by
    unfold pyWs at e
    cases q1 : pyW f d with
    | none => rw [q1] at e; cases e
    | some p =>
      cases q2 : pyWs f ds with
      | none => rw [q1, q2] at e; cases e
      | some ps => rw [q1, q2] at e; cases e; exact .cons (pyW_ok hf h q1) (pyWs_ok hf r q2)
end
theorem pyA_ok {K : PySem.W.Frag} {H : Hp} {m : Mem} (s : Sim K H m) : ∀ (n : Nat) (a : Addr) (p : PyData), pyA m n a = some p → Dp K H (.ref a) p
  | 0, _, _, e => by cases e
  | n + 1, a, p, e => by
    unfold pyA at e
    split at e
    · rename_i xs q
      obtain ⟨vs, h, r⟩ := s a _ q
      cases z : pyWs (pyA m n) xs with
      | none => rw [z] at e; cases e
      | some ps => rw [z] at e; cases e; exact .lst (SqL.of h) (pyWs_ok (pyA_ok s n) r z)
    · cases e
def eqD : DR2 := fun x y m q => match x, y with
  | .int i, .int j => q (.bl (i == j)) m
  | .str i, .str j => q (.bl (decide (i = j))) m
  | x, y => match pyD m x, pyD m y with
    | some a, some b => SeqAt.shaped a = true ∧ SeqAt.shaped b = true ∧ q (.bl (PyData.eqv a b)) m
    | _, _ => False
def neD : DR2 := fun x y m q => match x, y with
  | .int i, .int j => q (.bl (!(i == j))) m
  | .str i, .str j => q (.bl (!decide (i = j))) m
  | x, y => match pyD m x, pyD m y with
    | some a, some b => SeqAt.shaped a = true ∧ SeqAt.shaped b = true ∧ q (.bl (!PyData.eqv a b)) m
    | _, _ => False
theorem dec_strV {i j : Str} : decide (V.str i = V.str j) = decide (i = j) := by
  by_cases h : i = j
  · subst h; simp
  · have : V.str i ≠ V.str j := fun e => h (V.str.inj e)
    rw [decide_eq_false h, decide_eq_false this]
theorem d_eq (hu : X.A.units + 64 < cLine) : OpD X (compareOp .Eq) eqD := by
  intro pins s σ H x y v u Q I rx ry ⟨dx, dy, m, q, r1, r2, sim, h, post⟩
  have gen : ∀ a b, pyD m dx = some a → pyD m dy = some b → SeqAt.shaped a = true → SeqAt.shaped b = true → q (.bl (PyData.eqv a b)) m → wpAny (model X.prog X.w) X.A (compareOp .Eq v u) (EP X pins σ Q) X.xe s := fun a b e1 e2 h1 h2 h3 =>
    op_eqD hu pins s σ H _ _ v u Q I rx ry ⟨a, b, pyW_ok (pyA_ok sim 3) r1 e1, pyW_ok (pyA_ok sim 3) r2 e2, h1, h2, post.here h3 (.bl _) sim⟩
  unfold eqD at h
  split at h
  · rename_i i j; exact gen (.int i) (.int j) rfl rfl (by simp [SeqAt.shaped, PyData.canLay0, PyData.depth]) (by simp [SeqAt.shaped, PyData.canLay0, PyData.depth]) h
  · rename_i i j; cases r1; cases r2; exact op_eq pins s σ H _ _ v u Q I rx ry ⟨rfl, by rw [dec_strV]; exact post.here h (.bl _) sim⟩
  · split at h
    · rename_i a b e1 e2; exact gen a b e1 e2 h.1 h.2.1 h.2.2
    · exact h.elim
theorem d_ne (hu : X.A.units + 64 < cLine) : OpD X (compareOp .NotEq) neD := by
  intro pins s σ H x y v u Q I rx ry ⟨dx, dy, m, q, r1, r2, sim, h, post⟩
  have gen : ∀ a b, pyD m dx = some a → pyD m dy = some b → SeqAt.shaped a = true → SeqAt.shaped b = true → q (.bl (!PyData.eqv a b)) m → wpAny (model X.prog X.w) X.A (compareOp .NotEq v u) (EP X pins σ Q) X.xe s := fun a b e1 e2 h1 h2 h3 =>
    op_neD hu pins s σ H _ _ v u Q I rx ry ⟨a, b, pyW_ok (pyA_ok sim 3) r1 e1, pyW_ok (pyA_ok sim 3) r2 e2, h1, h2, post.here h3 (.bl _) sim⟩
  unfold neD at h
  split at h
  · rename_i i j; exact gen (.int i) (.int j) rfl rfl (by simp [SeqAt.shaped, PyData.canLay0, PyData.depth]) (by simp [SeqAt.shaped, PyData.canLay0, PyData.depth]) h
  · rename_i i j; cases r1; cases r2; exact op_ne pins s σ H _ _ v u Q I rx ry ⟨rfl, by rw [dec_strV]; exact post.here h (.bl _) sim⟩
  · split at h
    · rename_i a b e1 e2; exact gen a b e1 e2 h.1 h.2.1 h.2.2
    · exact h.elim
end

/-! ### places -/
theorem Reps.atI {K : PySem.W.Frag} {H : Hp} {ds : List D} {vs : List V} {i : Int} {d : D} (r : Reps K H ds vs) (e : atI ds i = some d) : ∃ v, atI vs i = some v ∧ Rep K H d v := by
  unfold L2.atI at e ⊢
  rw [← r.length]
  cases q : ixN ds.length i with
  | none => rw [q] at e; cases e
  | some j =>
    rw [q] at e
    obtain ⟨v, h1, h2⟩ := r.get (i := j) e
    exact ⟨v, h1, h2⟩
def cutL {α : Type} (xs : List α) (lo hi : Option Int) : List α := (xs.drop (HT.sIx xs.length 0 lo)).take (HT.sIx xs.length xs.length hi - HT.sIx xs.length 0 lo)
theorem Reps.cut {K : PySem.W.Frag} {H : Hp} {ds : List D} {vs : List V} (r : Reps K H ds vs) (lo hi : Option Int) : Reps K H (cutL ds lo hi) (cutV vs lo hi) := by
  unfold cutL cutV
  rw [← r.length]
  exact (r.drop _).take _
/-- the items of a list or tuple -/
def itemsOf (m : Mem) : D → Option (List D)
  | .tup xs => some xs
  | .ftup xs => some xs
  | .rol xs => some xs
  | .ref a => match m a with
    | some (.lst xs) => some xs
    | _ => none
  | _ => none
theorem Sim.seq {K : PySem.W.Frag} {H : Hp} {m : Mem} {d : D} {v : V} {xs : List D} (s : Sim K H m) (r : Rep K H d v) (e : itemsOf m d = some xs) : ∃ a vs, v = .ref a ∧ (SqL K H a vs ∨ SqT K H a vs) ∧ Reps K H xs vs := by
  cases r with
  | tup h rs => cases e; exact ⟨_, _, rfl, .inr (SqT.of h), rs⟩
  | ftup h _ rs => cases e; exact ⟨_, _, rfl, .inr (.inl (.inr ⟨_, h⟩)), rs⟩
  | rol h rs => cases e; exact ⟨_, _, rfl, .inl (rol_sq h), rs⟩
  | ref a =>
    unfold itemsOf at e
    dsimp only at e
    split at e
    · rename_i ys q; cases e; obtain ⟨vs, h, r⟩ := s a _ q; exact ⟨a, vs, rfl, .inl (.inl (.inl h)), r⟩
    · cases e
  | _ => cases e
section
variable {X : Cx} {B : Bs} {a b e o : Expr} {es : List Expr} {ta tb te : DTE} {t : DTA} {pos p2 apos cpos : Pos} {lo hi : Option Expr}
def ixD : DR2 := fun x y m q => match y with
  | .int i => match itemsOf m x with
    | some xs => match atI xs i with
      | some d => q d m
      | none => False
    | none => False
  | _ => False
theorem d_ix : IxR X (up2 X.K ixD) := by
  intro value slice pins s σ H x y v u Q I rx ry ⟨dx, dy, m, q, r1, r2, sim, h, post⟩ hs
  unfold ixD at h
  split at h
  · rename_i i
    split at h
    · rename_i xs e
      split at h
      · rename_i d ed
        cases r2
        obtain ⟨p, vs, rfl, hq, rs⟩ := sim.seq r1 e
        obtain ⟨w, ew, rw'⟩ := rs.atI ed
        rcases hq with hq | hq
        · exact ix_list value slice pins s σ H _ _ v u Q I rx ry ⟨p, vs, i, w, rfl, rfl, hq, ew, post.here h rw' sim⟩ hs
        · exact ix_tup value slice pins s σ H _ _ v u Q I rx ry ⟨p, vs, i, w, rfl, rfl, hq, ew, post.here h rw' sim⟩ hs
      · exact h.elim
    · exact h.elim
  · exact h.elim
theorem de_ix (ha : DE B X a ta) (hb : DE B X b tb) (hs : PlainIx b := by exact fun _ _ => rfl) : DE B X (.Subscript a b pos) (dOp ixD ta tb) := pe_imp (pe_ix d_ix ha hb hs) op_lift
/-! slices -/
abbrev DTO := DEnv → Mem → (Option Int → Mem → Prop) → Prop
def upO (K : PySem.W.Frag) (B : Bs) (t : DTO) : TO := fun σ H Q => ∃ ρ m q, Pre K B ρ m σ H ∧ t ρ m q ∧ ∀ o m' H', q o m' → Sim K H' m' → Step H m H' m' → Q o H'
abbrev DO (B : Bs) (X : Cx) (e : Option Expr) (t : DTO) : Prop := PO X e (upO X.K B t)
def dNoPart : DTO := fun _ m q => q none m
def dPart (t : DTE) : DTO := fun ρ m q => t ρ m fun d m' => match d with | .int i => q (some i) m' | _ => False
theorem do_none : DO B X none dNoPart := ⟨fun pins s σ H Q I ⟨ρ, m, q, p, h, post⟩ => po_none.run pins s σ H Q I (post none m H h p.sim (Step.refl _ _))⟩
theorem do_some (h : DE B X e te) : DO B X (some e) (dPart te) := ⟨fun pins s σ H Q I ⟨ρ, m, q, p, hh, post⟩ => (po_some h).run pins s σ H Q I ⟨ρ, m, _, p, hh, fun d m1 v H1 h1 r1 s1 t1 => by
  cases d with
  | int i => cases r1; exact ⟨i, rfl, post (some i) m1 H1 h1 s1 t1⟩
  | _ => exact (show False from h1).elim⟩⟩
def slD (d : D) (lo hi : Option Int) (m : Mem) (q : DQ) : Prop := match d with
  | .tup xs => q (.tup (cutL xs lo hi)) m
  | .rol xs => ∀ p, m p = none → q (.ref p) (m.set p (.lst (cutL xs lo hi)))
  | .ref a => match m a with
    | some (.lst xs) => ∀ p, m p = none → q (.ref p) (m.set p (.lst (cutL xs lo hi)))
    | _ => False
  | _ => False
def dSl (te : DTE) (tl th : DTO) : DTE := fun ρ m q => te ρ m fun x m1 => tl ρ m1 fun l m2 => th ρ m2 fun u m3 => slD x l u m3 q
theorem cut_whole {α : Type} {xs : List α} {lo hi : Option Int} (h : HT.sIx xs.length 0 lo = 0 ∧ HT.sIx xs.length xs.length hi = xs.length) : cutL xs lo hi = xs := by
  unfold cutL
  rw [h.1, h.2]
  simp
theorem d_sl : SlR X (fun x lo hi H Q => ∃ d m q, Rep X.K H d x ∧ Sim X.K H m ∧ slD d lo hi m q ∧ PostE X.K H m q Q) := by
  intro pins s σ H x v vl vu lo hi sl Q I rx hs pl pu ⟨d, m, q, r, sim, h, post⟩
  cases d with
  | tup xs =>
    cases r with
    | tup h1 q1 =>
      refine sl_tupA pins s σ H _ v vl vu lo hi sl Q I rx hs pl pu ⟨_, _, rfl, SqT.of h1, fun e => ?_, fun _ p hp => post.tup h hp (q1.cut lo hi) sim⟩
      rw [← q1.length] at e
      have hh : q (.tup (cutL xs lo hi)) m := h
      rw [cut_whole e] at hh
      exact post.here hh (.tup h1 q1) sim
  | rol xs =>
    cases r with
    | rol h1 q1 => exact sl_list pins s σ H _ v vl vu lo hi sl Q I rx hs pl pu ⟨_, _, rfl, rol_sq h1, fun p hp => post.lst h hp (q1.cut lo hi) sim⟩
  | ref a =>
    cases r
    unfold slD at h
    dsimp only at h
    split at h
    · rename_i xs e
      obtain ⟨vs, ea, qa⟩ := sim a _ e
      exact sl_list pins s σ H _ v vl vu lo hi sl Q I rx hs pl pu ⟨_, _, rfl, SqL.of ea, fun p hp => post.lst h hp (qa.cut lo hi) sim⟩
    · exact h.elim
  | _ => exact (show False from h).elim
theorem de_slice {tl th : DTO} (he : DE B X e te) (hl : DO B X lo tl) (hu : DO B X hi th) : DE B X (.Subscript e (.Slice lo hi none p2) pos) (dSl te tl th) :=
  pe_imp (pe_slice d_sl he hl hu) fun σ H Q ⟨ρ, m, q, p, h, post⟩ => ⟨ρ, m, _, p, h, fun d m1 v H1 h1 r1 s1 t1 => ⟨ρ, m1, _, p.next s1 t1, h1, fun l m2 H2 h2 s2 t2 =>
    ⟨ρ, m2, _, (p.next s1 t1).next s2 t2, h2, fun u m3 H3 h3 s3 t3 => ⟨d, m3, q, (r1.mono t2.ext).mono t3.ext, s3, h3, fun d4 m4 v4 H4 h4 r4 s4 t4 => post d4 m4 v4 H4 h4 r4 s4 (t1.trans (t2.trans (t3.trans t4)))⟩⟩⟩⟩

/-! ### methods of lists -/
abbrev DRM := D → List D → Mem → DQ → Prop
def upM (K : PySem.W.Frag) (r : DRM) : V → List V → Hp → VK → Prop := fun x xs H Q => ∃ d ds m q, Rep K H d x ∧ Reps K H ds xs ∧ Sim K H m ∧ r d ds m q ∧ PostE K H m q Q
def dBM (r : DRM) (to : DTE) (t : DTA) : DTE := fun ρ m q => to ρ m fun x m1 => (∃ a xs, x = .ref a ∧ m1 a = some (.lst xs)) ∧ t ρ m1 fun ds m2 => r x ds m2 q
variable {name : Str} {id : String} {r : DRM} {to : DTE}
theorem de_bmL (slot : Slot "list" name id) (hty : typeOf (.builtin id) = pure (.type "method_descriptor")) (hm : MtR X id (upM X.K r)) (ho : DE B X o to) (ha : DA B X (e :: es) t)
    (hbase : attributeBase o name X.env (eval o X.env) = eval o X.env := by rfl)
    (hfew : ((backTo cpos (starEach (e :: es) X.env)).all (fun x => !x.1) && (backToKw cpos (keywordEach [] X.env)).all (fun x => x.1.isSome)
      && decide ((e :: es).length + ([] : List Keyword).length + (if ([] : List Keyword).isEmpty then 0 else 1) < 30)) = true := by rfl)
    (hline : (apos.endLine == cpos.line) = true := by rfl) (hs : starEach (e :: es) X.env = (false, eval e X.env) :: starEach es X.env := by rfl) (hplain : (backTo cpos (starEach es X.env)).any (·.1) = false := by rfl) :
    DE B X (.Call (.Attribute o name apos) (e :: es) [] cpos) (dBM r to t) :=
  pe_imp (pe_bm PySem.F.plainAttrs_list slot hty hm ho ha hbase hfew hline hs hplain) fun σ H Q ⟨ρ, m, q, p, h, post⟩ => ⟨ρ, m, _, p, h, fun d m1 v H1 ⟨⟨a, xs, hd, hm1⟩, h1⟩ r1 s1 t1 => by
    subst hd
    cases r1
    obtain ⟨vs, hv, _⟩ := s1 a _ hm1
    exact ⟨.inl ⟨rfl, vs, SqL.of hv⟩, ρ, m1, _, p.next s1 t1, h1, fun ds m2 us H2 h2 r2 s2 t2 => ⟨.ref a, ds, m2, q, .ref a, r2, s2, h2, fun d3 m3 v3 H3 h3 r3 s3 t3 => post d3 m3 v3 H3 h3 r3 s3 (t1.trans (t2.trans t3))⟩⟩⟩
theorem de_bmL0 (slot : Slot "list" name id) (hty : typeOf (.builtin id) = pure (.type "method_descriptor")) (hm : MtR X id (upM X.K r)) (ho : DE B X o to)
    (hbase : attributeBase o name X.env (eval o X.env) = eval o X.env := by rfl) (hline : (apos.endLine == cpos.line) = true := by rfl) :
    DE B X (.Call (.Attribute o name apos) [] [] cpos) (dBM r to dNil) :=
  pe_imp (pe_bm0 PySem.F.plainAttrs_list slot hty hm ho hbase hline) fun σ H Q ⟨ρ, m, q, p, h, post⟩ => ⟨ρ, m, _, p, h, fun d m1 v H1 ⟨⟨a, xs, hd, hm1⟩, h1⟩ r1 s1 t1 => by
    subst hd
    cases r1
    obtain ⟨vs, hv, _⟩ := s1 a _ hm1
    exact ⟨.inl ⟨rfl, vs, SqL.of hv⟩, .ref a, [], m1, q, .ref a, .nil, s1, h1, fun d3 m3 v3 H3 h3 r3 s3 t3 => post d3 m3 v3 H3 h3 r3 s3 (t1.trans t3)⟩⟩
def appendD : DRM
  | .ref a, [d], m, q => ∃ xs, m a = some (.lst xs) ∧ xs.length < sizeLine ∧ q .non (m.set a (.lst (xs ++ [d])))
  | _, _, _, _ => False
theorem m_append : MtR X "list.append" (upM X.K appendD) := by
  intro pins s σ H x xs v us Q I rx rv ⟨d, ds, m, q, r1, r2, sim, h, post⟩
  unfold appendD at h
  split at h
  · rename_i a e
    obtain ⟨ys, ha, hz, hq⟩ := h
    cases r1
    obtain ⟨vs, hv, rs⟩ := sim a _ ha
    cases r2 with
    | cons q1 q2 =>
      cases q2
      exact mt_append pins s σ H _ _ v us Q I rx rv ⟨a, vs, _, rfl, rfl, hv, by rw [← rs.length]; exact hz, post.wrt ha hq (rs.append (.cons q1 .nil)) .non sim⟩
  · exact h.elim
def popAtD : DRM
  | .ref a, [.int i], m, q => ∃ xs k d, m a = some (.lst xs) ∧ -(2 ^ 63) ≤ i ∧ i < 2 ^ 63 ∧ seqIndex? i xs.length = some k ∧ xs[k]? = some d ∧ q d (m.set a (.lst (xs.eraseIdx k)))
  | _, _, _, _ => False
theorem m_popAt : MtR X "list.pop" (upM X.K popAtD) := by
  intro pins s σ H x xs v us Q I rx rv ⟨d, ds, m, q, r1, r2, sim, h, post⟩
  unfold popAtD at h
  split at h
  · rename_i a i
    obtain ⟨ys, k, d, ha, h1, h2, hk, hd, hq⟩ := h
    cases r1
    obtain ⟨vs, hv, rs⟩ := sim a _ ha
    obtain ⟨w, hw, rw'⟩ := rs.get hd
    cases r2 with
    | cons q1 q2 =>
      cases q2
      cases q1
      exact mt_popAt pins s σ H _ _ v us Q I rx rv ⟨a, vs, i, k, w, rfl, rfl, hv, h1, h2, by rw [← rs.length]; exact hk, hw, post.wrt ha hq (rs.eraseIdx k) rw' sim⟩
  · exact h.elim
def popD : DRM
  | .ref a, [], m, q => ∃ xs d, m a = some (.lst xs) ∧ xs[xs.length - 1]? = some d ∧ q d (m.set a (.lst xs.dropLast))
  | _, _, _, _ => False
theorem m_pop : MtR X "list.pop" (upM X.K popD) := by
  intro pins s σ H x xs v us Q I rx rv ⟨d, ds, m, q, r1, r2, sim, h, post⟩
  unfold popD at h
  split at h
  · rename_i a
    obtain ⟨ys, d, ha, hd, hq⟩ := h
    cases r1
    obtain ⟨vs, hv, rs⟩ := sim a _ ha
    rw [rs.length] at hd
    obtain ⟨w, hw, rw'⟩ := rs.get hd
    cases r2
    exact mt_pop pins s σ H _ _ v us Q I rx rv ⟨a, vs, w, rfl, rfl, hv, hw, post.wrt ha hq rs.dropLast rw' sim⟩
  · exact h.elim
end
end L2.Lh

namespace L2.Lh
open PySem PySem.Spec PyProof.Rows

/-! ### what is walked -/
structure Itd where
  items : List D
  chk : Mem → Prop
abbrev DTI := DEnv → Mem → (Itd → Mem → Prop) → Prop
structure ItOk (K : PySem.W.Frag) (it : Itd) (J : It) (H0 : Hp) (m0 : Mem) : Prop where
  go : ∀ (i : Nat) (d : D) (m : Mem) (H : Hp), it.items[i]? = some d → Sim K H m → Step H0 m0 H m → it.chk m → J.go i H ∧ ∀ x H', J.yld i H x H' → Rep K H' d x ∧ Sim K H' m ∧ Step H m H' m
  stop : ∀ (m : Mem) (H : Hp), Sim K H m → Step H0 m0 H m → it.chk m → J.stop it.items.length H
def upI (K : PySem.W.Frag) (B : Bs) (t : DTI) : TI := fun σ H R => ∃ ρ m q, Pre K B ρ m σ H ∧ t ρ m q ∧ ∀ it m' J H', q it m' → ItOk K it J H' m' → Sim K H' m' → Step H m H' m' → R J H'
abbrev DI (B : Bs) (X : Cx) (tg iter : Expr) (t : DTI) : Prop := PI X tg iter (upI X.K B t)
section
variable {X : Cx} {B : Bs} {tg : Expr}
theorem pi_imp {iter : Expr} {w w' : TI} (h : PI X tg iter w) (i : ∀ σ H R, w' σ H R → w σ H R) : PI X tg iter w' := ⟨fun pins s σ H R I q => h.run pins s σ H R I (i σ H R q)⟩
theorem pi_seq {l : Expr} {tl : TE} (hl : PE X l tl) : PI X tg l (fun σ H R => tl σ H fun x H1 => ∃ a, x = .ref a ∧ (((∃ xs, SqL X.K H1 a xs) ∧ R (Itl X.K a) H1) ∨ ((∃ xs, SqT X.K H1 a xs) ∧ R (Itt X.K a) H1))) := by
  refine ⟨fun pins s σ H R I h => ?_⟩
  refine thn (hl.run pins s σ H _ I h) fun v s1 ⟨x, H1, I1, r1, q1⟩ => ?_
  obtain ⟨a, e, q1⟩ := q1
  subst e
  cases r1
  rcases q1 with ⟨⟨xs, hq⟩, q⟩ | ⟨⟨xs, hq⟩, q⟩
  · obtain ⟨its, rv, p, hz⟩ := I1.list hq
    refine wpAny_pyIter_list p.isList ?_
    refine ⟨s1.heap.objs.size, [s1.heap.objs.size], _, _, H1, rfl, I1.kept (t' := s1.toks) fun b o e => Heap.get?_push_of_some _ e, turn_list a _, ⟨_, Heap.get?_push_size _ rfl, rfl, rfl⟩, fun b hb => ?_, q⟩
    have e : b = s1.heap.objs.size := by simpa using hb
    subst e
    exact I1.fpOk (Nat.le_refl _) (I1.hok.fresh (Nat.le_refl _))
  · obtain ⟨its, rv, p, hz⟩ := I1.tuple hq
    refine wpAny_pyIter_tuple (show s1.heap.IsTuple a its.toArray from p) ?_
    refine ⟨s1.heap.objs.size, [s1.heap.objs.size], _, _, H1, rfl, I1.kept (t' := s1.toks) fun b o e => Heap.get?_push_of_some _ e, turn_tuple a _, ⟨_, Heap.get?_push_size _ rfl, rfl, rfl⟩, fun b hb => ?_, q⟩
    have e : b = s1.heap.objs.size := by simpa using hb
    subst e
    exact I1.fpOk (Nat.le_refl _) (I1.hok.fresh (Nat.le_refl _))
/-- the items as they are asked for -/
def itOf (m : Mem) (d : D) (q : Itd → Prop) : Prop := match d with
  | .tup xs => q ⟨xs, fun _ => True⟩
  | .ftup xs => q ⟨xs, fun _ => True⟩
  | .rol xs => q ⟨xs, fun _ => True⟩
  | .ref a => match m a with
    | some (.lst xs) => q ⟨xs, fun m' => m' a = some (.lst xs)⟩
    | _ => False
  | _ => False
theorem ItOk.list {K : PySem.W.Frag} {a : Addr} {xs : List D} {H0 : Hp} {m0 : Mem} : ItOk K ⟨xs, fun m' => m' a = some (.lst xs)⟩ (Itl K a) H0 m0 where
  go := fun i d m H e s _ c => by
    obtain ⟨vs, h, r⟩ := s a _ c
    obtain ⟨v, h1, h2⟩ := r.get e
    refine ⟨⟨vs, v, SqL.of h, h1⟩, fun x H' ⟨e1, e2⟩ => ?_⟩
    subst e1
    have := e2 vs (SqL.of h)
    rw [h1] at this
    cases this
    exact ⟨h2, s, Step.refl _ _⟩
  stop := fun m H s _ c => by
    obtain ⟨vs, h, r⟩ := s a _ c
    exact ⟨vs, SqL.of h, Nat.le_of_eq r.length.symm⟩
theorem Step.tupAt {H H' : Hp} {m m' : Mem} (s : Step H m H' m') {a : Addr} {vs : List V} (h : H a = some (.tup vs)) : H' a = some (.tup vs) := s.ext.tup a vs h
theorem ItOk.tuple {K : PySem.W.Frag} {a : Addr} {vs : List V} {xs : List D} {H0 : Hp} {m0 : Mem} (h : H0 a = some (.tup vs)) (r : Reps K H0 xs vs) : ItOk K ⟨xs, fun _ => True⟩ (Itt K a) H0 m0 where
  go := fun i d m H e s st _ => by
    have h' := st.tupAt h
    have r' := r.mono st.ext
    obtain ⟨v, h1, h2⟩ := r'.get e
    refine ⟨⟨vs, v, SqT.of h', h1⟩, fun x H' ⟨e1, e2⟩ => ?_⟩
    subst e1
    have := e2 vs (SqT.of h')
    rw [h1] at this
    cases this
    exact ⟨h2, s, Step.refl _ _⟩
  stop := fun m H s st _ => ⟨vs, SqT.of (st.tupAt h), Nat.le_of_eq r.length.symm⟩
theorem ItOk.ftup {K : PySem.W.Frag} {a : Addr} {o : Obj} {vs : List V} {xs : List D} {H0 : Hp} {m0 : Mem} (h : H0 a = some (.frz o (.tup vs))) (r : Reps K H0 xs vs) : ItOk K ⟨xs, fun _ => True⟩ (Itt K a) H0 m0 := by
  have hh : ∀ {H : Hp} {m : Mem}, Step H0 m0 H m → SqT K H a vs := fun {H m} st => .inl (.inr ⟨o, st.ext.frz _ _ _ h⟩)
  exact {
    go := fun i d m H e s st _ => by
      obtain ⟨v, h1, h2⟩ := (r.mono st.ext).get e
      refine ⟨⟨vs, v, hh st, h1⟩, fun x H' ⟨e1, e2⟩ => ?_⟩
      subst e1
      have := e2 vs (hh st)
      rw [h1] at this
      cases this
      exact ⟨h2, s, Step.refl _ _⟩
    stop := fun m H s st _ => ⟨vs, hh st, Nat.le_of_eq r.length.symm⟩ }
theorem ItOk.rol {K : PySem.W.Frag} {a : Addr} {vs : List V} {xs : List D} {H0 : Hp} {m0 : Mem} (h : (∃ o, H0 a = some (.frz o (.lst vs))) ∨ (∃ (o : Obj) (its : Array Value) (n : Nat), K.lookup a = some o ∧ o.cls = .type "list" ∧ o.dict = none ∧ o.data = .seq its n ∧ its.size ≤ sizeLine ∧ Vals vs its.toList)) (r : Reps K H0 xs vs) : ItOk K ⟨xs, fun _ => True⟩ (Itl K a) H0 m0 := by
  have hh : ∀ {H : Hp} {m : Mem}, Step H0 m0 H m → SqL K H a vs := fun {H m} st => by
    rcases h with ⟨o, h⟩ | h
    · exact .inl (.inr ⟨o, st.ext.frz _ _ _ h⟩)
    · exact .inr h
  exact {
    go := fun i d m H e s st _ => by
      obtain ⟨v, h1, h2⟩ := (r.mono st.ext).get e
      refine ⟨⟨vs, v, hh st, h1⟩, fun x H' ⟨e1, e2⟩ => ?_⟩
      subst e1
      have := e2 vs (hh st)
      rw [h1] at this
      cases this
      exact ⟨h2, s, Step.refl _ _⟩
    stop := fun m H s st _ => ⟨vs, hh st, Nat.le_of_eq r.length.symm⟩ }
def iSeq (t : DTE) : DTI := fun ρ m q => t ρ m fun d m' => itOf m' d fun it => q it m'
theorem di_seq {e : Expr} {te : DTE} (h : DE B X e te) : DI B X tg e (iSeq te) :=
  pi_imp (pi_seq h) fun σ H R ⟨ρ, m, q, p, h, post⟩ => ⟨ρ, m, _, p, h, fun d m1 v H1 h1 r1 s1 t1 => by
    cases r1 with
    | tup e1 q1 => exact ⟨_, rfl, .inr ⟨⟨_, SqT.of e1⟩, post _ m1 _ H1 h1 (ItOk.tuple e1 q1) s1 t1⟩⟩
    | ftup e1 _ q1 => exact ⟨_, rfl, .inr ⟨⟨_, .inl (.inr ⟨_, e1⟩)⟩, post _ m1 _ H1 h1 (ItOk.ftup e1 q1) s1 t1⟩⟩
    | rol e1 q1 => exact ⟨_, rfl, .inl ⟨⟨_, rol_sq e1⟩, post _ m1 _ H1 h1 (ItOk.rol e1 q1) s1 t1⟩⟩
    | ref a =>
      unfold itOf at h1
      dsimp only at h1
      split at h1
      · rename_i xs ea
        obtain ⟨vs, hv, _⟩ := s1 a _ ea
        exact ⟨a, rfl, .inl ⟨⟨vs, SqL.of hv⟩, post _ m1 _ H1 h1 ItOk.list s1 t1⟩⟩
      · exact h1.elim
    | _ => exact (show False from h1).elim⟩
/-- over a list just made -/
def iNew (t : DTL) : DTI := fun ρ m q => t ρ m fun ds m' => q ⟨ds, fun _ => True⟩ m'
theorem di_new {e : Expr} {te : DTL} (h : DL B X e te) : DI B X tg e (iNew te) :=
  pi_imp (pi_list h) fun σ H R ⟨ρ, m, q, p, h, post⟩ => ⟨ρ, m, _, p, h, fun ds m' a vs H' hq ha hr hn h0 hs st => ⟨a, rfl, ⟨vs, SqL.of ha⟩, post _ m' _ H' hq (by
    have hh : ∀ {H : Hp} {m : Mem}, Step H' m' H m → H a = some (.lst vs) := fun {H m} st => st.keep a _ hn ha
    exact {
      go := fun i d m H e s st _ => by
        obtain ⟨v, h1, h2⟩ := (hr.mono st.ext).get e
        refine ⟨⟨vs, v, SqL.of (hh st), h1⟩, fun x H' ⟨e1, e2⟩ => ?_⟩
        subst e1
        have := e2 vs (SqL.of (hh st))
        rw [h1] at this
        cases this
        exact ⟨h2, s, Step.refl _ _⟩
      stop := fun m H s st _ => ⟨vs, SqL.of (hh st), Nat.le_of_eq hr.length.symm⟩ }) hs st⟩⟩
/-- lo, lo + 1, .. -/
def rngD (lo : Int) (n : Nat) : List D := (List.range n).map fun k => D.int (lo + (k : Nat))
theorem ItOk.rng {K : PySem.W.Frag} {lo : Int} {n : Nat} {H0 : Hp} {m0 : Mem} : ItOk K ⟨rngD lo n, fun _ => True⟩ (Itr lo n) H0 m0 where
  go := fun i d m H e s _ _ => by
    unfold rngD at e
    rw [List.getElem?_map] at e
    cases q : (List.range n)[i]? with
    | none => rw [q] at e; cases e
    | some k =>
      rw [q] at e
      cases e
      have hi : i < n := by
        have := (List.getElem?_eq_some_iff.mp q).1
        simpa using this
      have hk : k = i := by
        rw [List.getElem?_range hi] at q
        exact (Option.some.inj q).symm
      subst hk
      refine ⟨hi, fun x H' ⟨e1, e2⟩ => ?_⟩
      subst e1 e2
      exact ⟨.int _, s, Step.refl _ _⟩
  stop := fun m H s _ _ => by
    show n ≤ (rngD lo n).length
    unfold rngD
    simp
def iRange1 (ta : DTE) : DTI := fun ρ m q => ta ρ m fun d m' => match d with
  | .int j => -(2 ^ 62) ≤ j ∧ j < 2 ^ 62 ∧ q ⟨rngD 0 j.toNat, fun _ => True⟩ m'
  | _ => False
def iRange2 (ta tb : DTE) : DTI := fun ρ m q => ta ρ m fun d m1 => tb ρ m1 fun e m2 => match d, e with
  | .int i, .int j => (-(2 ^ 62) ≤ i ∧ i < 2 ^ 62 ∧ -(2 ^ 62) ≤ j ∧ j < 2 ^ 62) ∧ q ⟨rngD i (j - i).toNat, fun _ => True⟩ m2
  | _, _ => False
theorem di_range1 {a : Expr} {ta : DTE} {p pos : Pos} (hg : Gl X "range") (hm : X.mg "range" = none) (ha : DE B X a ta) (hs : starEach [a] X.env = [(false, eval a X.env)] := by rfl) : DI B X tg (.Call (.Name "range" p) [a] [] pos) (iRange1 ta) :=
  pi_imp (pi_range1 hg hm (da_cons ha da_nil hs) hs) fun σ H R ⟨ρ, m, q, p, h, post⟩ => ⟨ρ, m, fun ds m' => match ds with | [.int j] => -(2 ^ 62) ≤ j ∧ j < 2 ^ 62 ∧ q ⟨rngD 0 j.toNat, fun _ => True⟩ m' | _ => False, p, by
      unfold dCons dNil
      refine cast ?_ h
      unfold iRange1
      congr 1
      funext d m'
      cases d <;> rfl,
    fun ds m1 vs H1 h1 r1 s1 t1 => by
      dsimp only at h1
      split at h1
      · rename_i j
        obtain ⟨b1, b2, h1⟩ := h1
        cases r1 with
        | cons q1 q2 =>
          cases q2
          cases q1
          exact ⟨j, rfl, b1, b2, post _ m1 _ H1 h1 ItOk.rng s1 t1⟩
      · exact h1.elim⟩
theorem di_range2 {a b : Expr} {ta tb : DTE} {p pos : Pos} (hg : Gl X "range") (hm : X.mg "range" = none) (ha : DE B X a ta) (hb : DE B X b tb) (hs : starEach [a, b] X.env = [(false, eval a X.env), (false, eval b X.env)] := by rfl) (hs2 : starEach [b] X.env = [(false, eval b X.env)] := by rfl) : DI B X tg (.Call (.Name "range" p) [a, b] [] pos) (iRange2 ta tb) :=
  pi_imp (pi_range2 hg hm (da_cons ha (da_cons hb da_nil hs2) (by rw [hs, hs2])) hs hs2) fun σ H R ⟨ρ, m, q, p, h, post⟩ => ⟨ρ, m, fun ds m' => match ds with | [.int i, .int j] => (-(2 ^ 62) ≤ i ∧ i < 2 ^ 62 ∧ -(2 ^ 62) ≤ j ∧ j < 2 ^ 62) ∧ q ⟨rngD i (j - i).toNat, fun _ => True⟩ m' | _ => False, p, by
      unfold dCons dNil
      refine cast ?_ h
      unfold iRange2
      congr 1
      funext d m'
      congr 1
      funext e m''
      cases d <;> first | rfl | (cases e <;> rfl),
    fun ds m1 vs H1 h1 r1 s1 t1 => by
      dsimp only at h1
      split at h1
      · rename_i i j
        obtain ⟨b1, h1⟩ := h1
        cases r1 with
        | cons q1 q2 =>
          cases q2 with
          | cons q3 q4 =>
            cases q4
            cases q1
            cases q3
            exact ⟨i, j, rfl, b1, post _ m1 _ H1 h1 ItOk.rng s1 t1⟩
      · exact h1.elim⟩
/-- enumerate of a list -/
def enumD (xs : List D) : List D := xs.zipIdx.map fun p => D.tup [.int (p.2 : Nat), p.1]
def enumFrom (i : Nat) : List D → List D
  | [] => []
  | d :: r => .tup [.int (i : Nat), d] :: enumFrom (i + 1) r
theorem enumFrom_get : ∀ (xs : List D) (k i : Nat) (d : D), (enumFrom k xs)[i]? = some d → ∃ e, xs[i]? = some e ∧ d = .tup [.int ((k + i : Nat) : Int), e]
  | [], _, _, _, h => by simp [enumFrom] at h
  | x :: r, k, 0, d, h => by
    simp only [enumFrom, List.getElem?_cons_zero, Option.some.injEq] at h
    exact ⟨x, rfl, by rw [← h, Nat.add_zero]⟩
  | x :: r, k, i + 1, d, h => by
    simp only [enumFrom, List.getElem?_cons_succ] at h
    obtain ⟨e, h1, h2⟩ := enumFrom_get r (k + 1) i d h
    exact ⟨e, by simpa using h1, by rw [h2, show k + 1 + i = k + (i + 1) by omega]⟩
theorem enumFrom_length : ∀ (xs : List D) (k : Nat), (enumFrom k xs).length = xs.length
  | [], _ => rfl
  | _ :: r, k => by rw [enumFrom, List.length_cons, List.length_cons, enumFrom_length r]
def iEnumL (t : DTE) : DTI := fun ρ m q => t ρ m fun d m' => match d with
  | .ref a => match m' a with
    | some (.lst xs) => q ⟨enumFrom 0 xs, fun m'' => m'' a = some (.lst xs)⟩ m'
    | _ => False
  | _ => False
theorem ItOk.enumL {K : PySem.W.Frag} {a : Addr} {xs : List D} {H0 : Hp} {m0 : Mem} : ItOk K ⟨enumFrom 0 xs, fun m' => m' a = some (.lst xs)⟩ (Ite K a) H0 m0 where
  go := fun i d m H e s _ c => by
    obtain ⟨vs, h, r⟩ := s a _ c
    obtain ⟨e0, h0, hd⟩ := enumFrom_get xs 0 i d e
    obtain ⟨v, h1, h2⟩ := r.get h0
    refine ⟨⟨vs, v, SqL.of h, h1⟩, fun x H' ⟨T, z, e1, e2, e3, e4⟩ => ?_⟩
    subst e1 e3
    have := e4 vs (SqL.of h)
    rw [h1] at this
    cases this
    rw [hd, Nat.zero_add]
    exact ⟨.tup upd_same (.cons (.int _) (.cons (h2.mono (upd_new e2)) .nil)), s.alloc e2, Step.alloc e2⟩
  stop := fun m H s _ c => by
    obtain ⟨vs, h, r⟩ := s a _ c
    exact ⟨vs, SqL.of h, by rw [enumFrom_length]; exact Nat.le_of_eq r.length.symm⟩
theorem di_enumL {e : Expr} {te : DTE} {p pos tpos : Pos} {elts : List Expr} {kk : Nat} (hg : Gl X "enumerate") (hm : X.mg "enumerate" = none) (he : DE B X e te) (hs : starEach [e] X.env = [(false, eval e X.env)] := by rfl) :
    DI B X (.Tuple elts kk tpos) (.Call (.Name "enumerate" p) [e] [] pos) (iEnumL te) :=
  pi_imp (pi_enum hg hm (pa_cons he pa_nil hs) hs) fun σ H R ⟨ρ, m, q, p, h, post⟩ => ⟨ρ, m, _, p, h, fun d m1 v H1 h1 r1 s1 t1 => by
    cases r1 with
    | ref a =>
      dsimp only at h1
      split at h1
      · rename_i xs ea
        obtain ⟨vs, hv, _⟩ := s1 a _ ea
        exact ⟨a, vs, rfl, SqL.of hv, post _ m1 _ H1 h1 ItOk.enumL s1 t1⟩
      · exact h1.elim
    | _ => exact (show False from h1).elim⟩
/-- reversed of a list or tuple -/
def iRevD (t : DTE) : DTI := fun ρ m q => t ρ m fun d m' => itOf m' d fun it => q ⟨it.items.reverse, it.chk⟩ m'
theorem get_rev {α : Type} {xs : List α} {i : Nat} {d : α} (h : xs.reverse[i]? = some d) : i < xs.length ∧ xs[xs.length - 1 - i]? = some d := by
  have hi : i < xs.length := by
    have := (List.getElem?_eq_some_iff.mp h).1
    simpa using this
  rw [List.getElem?_reverse hi] at h
  exact ⟨hi, h⟩
theorem di_rev {e : Expr} {te : DTE} {p pos : Pos} (hg : Gl X "reversed") (hm : X.mg "reversed" = none) (he : DE B X e te) (hs : starEach [e] X.env = (false, eval e X.env) :: starEach [] X.env := by rfl) : DI B X tg (.Call (.Name "reversed" p) [e] [] pos) (iRevD te) :=
  pi_imp (RT.pi_revA hg hm he hs) fun σ H R ⟨ρ, m, q, p, h, post⟩ => ⟨ρ, m, _, p, h, fun d m1 v H1 h1 r1 s1 t1 => by
    cases r1 with
    | tup e1 q1 =>
      refine ⟨_, _, rfl, .inr ⟨SqT.of e1, post _ m1 _ H1 h1 ?_ s1 t1⟩⟩
      exact {
        go := fun i d m H e s st _ => by
          obtain ⟨hi, e'⟩ := get_rev e
          obtain ⟨v, h1, h2⟩ := (q1.mono st.ext).get e'
          rw [q1.length] at h1 hi
          refine ⟨⟨hi, _, v, SqT.of (st.tupAt e1), h1⟩, fun x H' ⟨z1, z2⟩ => ?_⟩
          subst z1
          have := z2 _ (SqT.of (st.tupAt e1))
          rw [h1] at this
          cases this
          exact ⟨h2, s, Step.refl _ _⟩
        stop := fun m H s st _ => by
          show _ ≤ _
          rw [List.length_reverse, q1.length]
          exact Nat.le_refl _ }
    | ftup e1 _ q1 =>
      refine ⟨_, _, rfl, .inr ⟨.inl (.inr ⟨_, e1⟩), post _ m1 _ H1 h1 ?_ s1 t1⟩⟩
      have hh : ∀ {H : Hp} {m : Mem}, Step H1 m1 H m → SqT X.K H _ _ := fun {H m} st => .inl (.inr ⟨_, st.ext.frz _ _ _ e1⟩)
      exact {
        go := fun i d m H e s st _ => by
          obtain ⟨hi, e'⟩ := get_rev e
          obtain ⟨v, h1, h2⟩ := (q1.mono st.ext).get e'
          rw [q1.length] at h1 hi
          refine ⟨⟨hi, _, v, hh st, h1⟩, fun x H' ⟨z1, z2⟩ => ?_⟩
          subst z1
          have := z2 _ (hh st)
          rw [h1] at this
          cases this
          exact ⟨h2, s, Step.refl _ _⟩
        stop := fun m H s st _ => by
          show _ ≤ _
          rw [List.length_reverse, q1.length]
          exact Nat.le_refl _ }
    | rol e1 q1 =>
      refine ⟨_, _, rfl, .inl ⟨rol_sq e1, post _ m1 _ H1 h1 ?_ s1 t1⟩⟩
      have O := ItOk.rol (H0 := H1) (m0 := m1) e1 q1
      have hh : ∀ {H : Hp} {m : Mem}, Step H1 m1 H m → SqL X.K H _ _ := fun {H m} st => (by
        rcases e1 with ⟨o, h⟩ | h
        · exact .inl (.inr ⟨o, st.ext.frz _ _ _ h⟩)
        · exact .inr h)
      exact {
        go := fun i d m H e s st _ => by
          obtain ⟨hi, e'⟩ := get_rev e
          obtain ⟨v, h1, h2⟩ := (q1.mono st.ext).get e'
          rw [q1.length] at h1 hi
          refine ⟨⟨hi, _, v, hh st, h1⟩, fun x H' ⟨z1, z2⟩ => ?_⟩
          subst z1
          have := z2 _ (hh st)
          rw [h1] at this
          cases this
          exact ⟨h2, s, Step.refl _ _⟩
        stop := fun m H s st _ => by
          show _ ≤ _
          rw [List.length_reverse, q1.length]
          exact Nat.le_refl _ }
    | ref a =>
      unfold itOf at h1
      dsimp only at h1
      split at h1
      · rename_i xs ea
        obtain ⟨vs, hv, rv⟩ := s1 a _ ea
        refine ⟨a, vs, rfl, .inl ⟨SqL.of hv, post _ m1 _ H1 h1 ?_ s1 t1⟩⟩
        exact {
          go := fun i d m H e s st c => by
            obtain ⟨hi, e'⟩ := get_rev e
            obtain ⟨ws, hw, rw'⟩ := s a _ c
            obtain ⟨v, h1, h2⟩ := rw'.get e'
            have hl : xs.length = vs.length := rv.length
            rw [hl] at h1 hi
            refine ⟨⟨hi, _, v, SqL.of hw, h1⟩, fun x H' ⟨z1, z2⟩ => ?_⟩
            subst z1
            have := z2 _ (SqL.of hw)
            rw [h1] at this
            cases this
            exact ⟨h2, s, Step.refl _ _⟩
          stop := fun m H s st c => by
            show _ ≤ _
            rw [List.length_reverse, rv.length]
            exact Nat.le_refl _ }
      · exact h1.elim
    | _ => exact (show False from h1).elim⟩
end
end L2.Lh

namespace L2.Lh
open PySem PySem.Spec PyProof.Rows

/-! ### targets -/
theorem wipe_set : ∀ {vs : List Nat} {i : Nat} {σ : St} {x : Option V}, i ∈ vs → L2.wipe (σ.set i x) vs = L2.wipe σ vs
  | [], _, _, _, h => by cases h
  | v :: vs, i, σ, x, h => by
    unfold L2.wipe
    by_cases e : i ∈ vs
    · rw [wipe_set e]
    · have hv : i = v := by
        rcases List.mem_cons.mp h with h | h
        · exact h
        · exact absurd h e
      subst hv
      have gen : ∀ (ws : List Nat), i ∉ ws → L2.wipe (σ.set i x) ws = (L2.wipe σ ws).set i x := fun ws => by
        induction ws with
        | nil => intro _; rfl
        | cons w ws ih =>
          intro hn
          unfold L2.wipe
          rw [ih fun z => hn (List.mem_cons_of_mem _ z)]
          exact List.set_comm _ _ fun z => hn (by rw [z]; exact List.mem_cons_self)
      rw [gen vs e]
      simp
def gNm (i : Nat) : DTG := fun d ρ m q => q (ρ.set i (some d)) m
abbrev DTGs := List D → DEnv → Mem → (DEnv → Mem → Prop) → Prop
def upGs (K : PySem.W.Frag) (B : Bs) (vs : List Nat) (t : DTGs) : TGs := fun us σ H Q => ∃ ds ρ m q, Reps K H ds us ∧ Pre K B ρ m σ H ∧ t ds ρ m q ∧
  ∀ ρ' m' σ' H', q ρ' m' → RepEnv K H' ρ' σ' → L2.wipe σ' vs = L2.wipe σ vs → Sim K H' m' → Step H m H' m' → Q σ' H'
abbrev DGs (B : Bs) (X : Cx) (vs : List Nat) (es : List Expr) (t : DTGs) : Prop := PGs X es (upGs X.K B vs t)
def gNl : DTGs := fun ds ρ m q => match ds with | [] => q ρ m | _ => False
def gCn (t : DTG) (u : DTGs) : DTGs := fun ds ρ m q => match ds with | d :: r => t d ρ m fun ρ' m' => u r ρ' m' q | [] => False
def gTp (n : Nat) (t : DTGs) : DTG := fun d ρ m q => match d with | .tup xs => xs.length = n ∧ t xs ρ m q | _ => False
section
variable {X : Cx} {B : Bs} {pos : Pos} {vs : List Nat}
theorem dg_name {i : Nat} {x : Str} (hN : X.N.Nodup) (hi : X.N[i]? = some x := by rfl) (hx : Loc X.env.scope x := by first | exact Or.inl rfl | exact Or.inr rfl) (hf : X.fn x = true ∨ X.env.scope.names.lookup x = some .local := by first | exact .inl rfl | exact .inr rfl | assumption) (hv : i ∈ vs := by decide) : DG B X vs (.Name x pos) (gNm i) :=
  pg_imp (pg_name hN hi hx hf) fun v σ H Q ⟨d, ρ, m, q, r, p, h, post⟩ => post _ m _ H h (p.env.set r i) (wipe_set hv) p.sim (Step.refl _ _)
theorem dgs_nil : DGs B X vs [] gNl := ⟨fun pins s σ H us ws Q I r ⟨ds, ρ, m, q, rd, p, h, post⟩ => pgs_nil.run pins s σ H us ws Q I r (by
  cases ds with
  | nil => cases rd; exact ⟨rfl, post ρ m σ H h p.env rfl p.sim (Step.refl _ _)⟩
  | cons _ _ => exact h.elim)⟩
theorem dgs_cons {e : Expr} {es : List Expr} {t : DTG} {u : DTGs} (h1 : DG B X vs e t) (h2 : DGs B X vs es u)
    (hs : (assignEach (e :: es) X.env).map (·.2) = assign e X.env :: (assignEach es X.env).map (·.2) := by rfl) : DGs B X vs (e :: es) (gCn t u) :=
  ⟨fun pins s σ H us ws Q I r ⟨ds, ρ, m, q, rd, p, h, post⟩ => (pgs_cons h1 h2 hs).run pins s σ H us ws Q I r (by
    cases ds with
    | nil => exact h.elim
    | cons d ds =>
      cases rd with
      | cons r1 r2 =>
        exact ⟨_, _, rfl, d, ρ, m, _, r1, p, h, fun ρ' m' σ' H' hq env hw sim st => ⟨ds, ρ', m', q, r2.mono st.ext, ⟨env, sim, p.st.trans st⟩, hq, fun ρ2 m2 σ2 H2 hq2 env2 hw2 sim2 st2 => post ρ2 m2 σ2 H2 hq2 env2 (hw2.trans hw) sim2 (st.trans st2)⟩⟩)⟩
theorem dg_tup {es : List Expr} {k : Nat} {t : DTGs} {n : Nat} (hc : X.calm = true) (h : DGs B X vs es t)
    (hn : (assignEach es X.env).length = n := by rfl) (hst : (assignEach es X.env).findIdx? (·.1) = none := by rfl) : DG B X vs (.Tuple es k pos) (gTp n t) :=
  pg_imp (pg_tup hc h hn hst) fun v σ H Q ⟨d, ρ, m, q, r, p, h, post⟩ => by
    cases d with
    | tup xs =>
      obtain ⟨hl, h⟩ := h
      cases r with
      | tup h1 q1 => exact ⟨_, _, rfl, SqT.of h1, by rw [← q1.length]; exact hl, xs, ρ, m, q, q1, p, h, post⟩
    | _ => exact (show False from h).elim
end

/-! ### statements -/
def dNext : DTS := fun E ρ m => E.nx ρ m
def dSeq (t u : DTS) : DTS := fun E ρ m => t { E with nx := u E } ρ m
def dBrk : DTS := fun E ρ m => E.bk ρ m
def dCnt : DTS := fun E ρ m => E.ct ρ m
def dDrop (te : DTE) : DTS := fun E ρ m => te ρ m fun _ m1 => E.nx ρ m1
def dRet (te : DTE) : DTS := fun E ρ m => te ρ m E.rt
def dRetN : DTS := fun E _ m => E.rt .non m
def dIfS (c : DTT) (t u : DTS) : DTS := fun E ρ m => c ρ m fun b m1 => if b = true then t E ρ m1 else u E ρ m1
def dAsg (te : DTE) (g : DTG) : DTS := fun E ρ m => te ρ m fun d m1 => g d ρ m1 E.nx
def dAug (i : Nat) (te : DTE) (r : DR2) : DTS := fun E ρ m => match ρ[i]? with
  | some (some d) => te ρ m fun e m1 => r d e m1 fun z m2 => E.nx (ρ.set i (some z)) m2
  | _ => False
/-- o[i] = v of a list -/
def setD (o i d : D) (m : Mem) (q : Mem → Prop) : Prop := match o, i with
  | .ref a, .int k => match m a with
    | some (.lst xs) => match ixN xs.length k with
      | some j => q (m.set a (.lst (xs.set j d)))
      | none => False
    | _ => False
  | _, _ => False
def dSetIx (te to ti : DTE) : DTS := fun E ρ m => te ρ m fun d m1 => to ρ m1 fun o m2 => ti ρ m2 fun i m3 => setD o i d m3 fun m4 => E.nx ρ m4
def dAugIx (to ti te : DTE) (r : DR2) : DTS := fun E ρ m => to ρ m fun o m1 => ti ρ m1 fun i m2 => ixD o i m2 fun d m3 => te ρ m3 fun e m4 => r d e m4 fun z m5 => setD o i z m5 fun m6 => E.nx ρ m6
section
variable {X : Cx} {B : Bs} {st : Stmt} {rest : List Stmt} {t u : DTS} {e : Expr} {te : DTE} {pos : Pos}
theorem dss_nil : DSs B X [] dNext := pss_imp pss_nil fun F σ H ⟨ρ, m, E, p, h, o⟩ => o.nx ρ m σ H h p.env p.sim (Step.refl _ _)
theorem dss_cons (h1 : DS B X st t) (h2 : DSs B X rest u) : DSs B X (st :: rest) (dSeq t u) :=
  pss_imp (pss_cons h1 h2) fun F σ H ⟨ρ, m, E, p, h, o⟩ => ⟨ρ, m, { E with nx := u E }, p, h, ⟨fun ρ' m' σ' H' hq env sim st => ⟨ρ', m', E, ⟨env, sim, p.st.trans st⟩, hq, o.next st⟩, o.rt, o.bk, o.ct⟩⟩
theorem dss_one (h1 : DS B X st t) : DSs B X [st] t := pss_one h1
theorem ds_pass : DS B X (.Pass pos) dNext := ps_imp ps_pass fun F σ H ⟨ρ, m, E, p, h, o⟩ => o.nx ρ m σ H h p.env p.sim (Step.refl _ _)
theorem ds_break : DS B X (.Break pos) dBrk := ps_imp ps_break fun F σ H ⟨ρ, m, E, p, h, o⟩ => o.bk ρ m σ H h p.env p.sim (Step.refl _ _)
theorem ds_continue : DS B X (.Continue pos) dCnt := ps_imp ps_continue fun F σ H ⟨ρ, m, E, p, h, o⟩ => o.ct ρ m σ H h p.env p.sim (Step.refl _ _)
theorem ds_expr (he : DE B X e te) (hs : swapsWith e none pos.line X.env = pure false := by rfl) : DS B X (.Expr e pos) (dDrop te) :=
  ps_imp (ps_expr he hs) fun F σ H ⟨ρ, m, E, p, h, o⟩ => ⟨ρ, m, _, p, h, fun d m1 v H1 h1 r1 s1 t1 => o.nx ρ m1 σ H1 h1 (p.env.mono t1.ext) s1 t1⟩
theorem ds_ret (he : DE B X e te) : DS B X (.Return (some e) pos) (dRet te) :=
  ps_imp (ps_ret he) fun F σ H ⟨ρ, m, E, p, h, o⟩ => ⟨ρ, m, _, p, h, fun d m1 v H1 h1 r1 s1 t1 => o.rt d m1 v H1 h1 r1 s1 t1⟩
theorem ds_retN : DS B X (.Return none pos) dRetN := ps_imp ps_retN fun F σ H ⟨ρ, m, E, p, h, o⟩ => o.rt .non m .non H h .non p.sim (Step.refl _ _)
theorem ds_if {c : Expr} {a b : List Stmt} {tc : DTT} (hc : DT B X c tc) (ha : DSs B X a t) (hb : DSs B X b u) : DS B X (.If c a b pos) (dIfS tc t u) :=
  ps_imp (ps_if hc ha hb) fun F σ H ⟨ρ, m, E, p, h, o⟩ => ⟨ρ, m, _, p, h, fun b m1 H1 h1 s1 t1 => by
    cases b with
    | true => exact ⟨ρ, m1, E, p.next s1 t1, h1, o.next t1⟩
    | false => exact ⟨ρ, m1, E, p.next s1 t1, h1, o.next t1⟩⟩
theorem asg_lift {K : PySem.W.Frag} {vs : List Nat} {g : DTG} : ∀ F σ H, upS K B (dAsg te g) F σ H → tAsg (upE K B te) (upG K B vs g) F σ H :=
  fun F σ H ⟨ρ, m, E, p, h, o⟩ => ⟨ρ, m, _, p, h, fun d m1 v H1 h1 r1 s1 t1 => ⟨d, ρ, m1, _, r1, p.next s1 t1, h1, fun ρ' m' σ' H' hq env _ sim st => o.nx ρ' m' σ' H' hq env sim (t1.trans st)⟩⟩
theorem ds_asg {tg : Expr} {vs : List Nat} {g : DTG} (he : DE B X e te) (hg : DG B X vs tg g) (hs : swapsWithSole [tg] e pos.line X.env = pure false := by rfl) (hw : swappedStores [tg] e X.env = pure none := by rfl)
    (h1 : (assignEach [tg] X.env).map (·.2) = [assign tg X.env] := by rfl) : DS B X (.Assign [tg] e pos) (dAsg te g) := ps_imp (ps_asg he hg hs hw h1) asg_lift
theorem ds_set {i : Nat} {x : Str} {pos' : Pos} (hN : X.N.Nodup) (he : DE B X e te) (hi : X.N[i]? = some x := by rfl) (hx : Loc X.env.scope x := by first | exact Or.inl rfl | exact Or.inr rfl) (hs : swapsWith e (some (.Name x pos')) pos.line X.env = pure false := by rfl) (hf : X.fn x = true ∨ X.env.scope.names.lookup x = some .local := by first | exact .inl rfl | exact .inr rfl | assumption) :
    DS B X (.Assign [.Name x pos'] e pos) (dAsg te (gNm i)) :=
  ps_imp (ps_set hN hi hx he hs hf) fun F σ H ⟨ρ, m, E, p, h, o⟩ => ⟨ρ, m, _, p, h, fun d m1 v H1 h1 r1 s1 t1 => o.nx _ m1 _ H1 h1 ((p.env.mono t1.ext).set r1 i) s1 t1⟩
theorem ds_aug {i : Nat} {x : Str} {op : Operator} {r : DR2} {pos' : Pos} (hN : X.N.Nodup) (he : DE B X e te) (ho : OpD X (inplaceOp op) r) (hi : X.N[i]? = some x := by rfl) (hx : Loc X.env.scope x := by first | exact Or.inl rfl | exact Or.inr rfl) (hf : X.fn x = true ∨ X.env.scope.names.lookup x = some .local := by first | exact .inl rfl | exact .inr rfl | assumption) :
    DS B X (.AugAssign (.Name x pos') op e pos) (dAug i te r) :=
  ps_imp (ps_aug hN hi hx he ho hf) fun F σ H ⟨ρ, m, E, p, h, o⟩ => by
    unfold dAug at h
    split at h
    · rename_i d ed
      obtain ⟨v, e1, r1⟩ := p.env.get ed
      exact ⟨v, e1, ρ, m, _, p, h, fun d2 m1 v2 H1 h1 r2 s1 t1 => ⟨d, d2, m1, _, r1.mono t1.ext, r2, s1, h1, fun z m2 w H2 h2 r3 s2 t2 => o.nx _ m2 _ H2 h2 ((p.env.mono (t1.trans t2).ext).set r3 i) s2 (t1.trans t2)⟩⟩
    · exact h.elim
theorem setD_ok {K : PySem.W.Frag} {H : Hp} {m : Mem} {o i d : D} {vo vi vd : V} {q : Mem → Prop} {Q : Hp → Prop} (sim : Sim K H m) (ro : Rep K H o vo) (ri : Rep K H i vi) (rd : Rep K H d vd) (h : setD o i d m q)
    (post : ∀ m' H', q m' → Sim K H' m' → Step H m H' m' → Q H') : rSetL vo vi vd H Q := by
  unfold setD at h
  split at h
  · rename_i a k
    split at h
    · rename_i xs ea
      split at h
      · rename_i j ej
        obtain ⟨vs, hv, rs⟩ := sim a _ ea
        cases ro; cases ri
        exact ⟨a, vs, k, j, rfl, rfl, hv, by rw [← rs.length]; exact ej, post _ _ h (sim.write ea ⟨_, upd_same, ((rs.set rd j).mono (upd_old sim ea))⟩) (Step.write sim ea)⟩
      · exact h.elim
    · exact h.elim
  · exact h.elim
theorem ds_setIx {oe ie : Expr} {to ti : DTE} {tpos : Pos} (he : DE B X e te) (ho : DE B X oe to) (hi : DE B X ie ti) (hs : swapsWithSole [.Subscript oe ie tpos] e pos.line X.env = pure false := by rfl) (hw : swappedStores [.Subscript oe ie tpos] e X.env = pure none := by rfl)
    (h1 : (assignEach [.Subscript oe ie tpos] X.env).map (·.2) = [assign (.Subscript oe ie tpos) X.env] := by rfl)
    (ha : ∀ v, assign (.Subscript oe ie tpos) X.env v = (do
      let ov ← holding [v] (eval oe X.env)
      let iv ← holding [v, ov] (eval ie X.env)
      standAt tpos
      holding [v, ov, iv] (setItem ov iv v)
      release [v, ov, iv] []) := by intro _; rfl) : DS B X (.Assign [.Subscript oe ie tpos] e pos) (dSetIx te to ti) :=
  ps_imp (ps_asg he (pg_sub ho hi set_list ha) hs hw h1) fun F σ H ⟨ρ, m, E, p, h, o⟩ => ⟨ρ, m, _, p, h, fun d m1 v H1 h1 r1 s1 t1 => ⟨ρ, m1, _, p.next s1 t1, h1, fun d2 m2 v2 H2 h2 r2 s2 t2 =>
    ⟨ρ, m2, _, (p.next s1 t1).next s2 t2, h2, fun d3 m3 v3 H3 h3 r3 s3 t3 => setD_ok s3 (r2.mono t3.ext) r3 (r1.mono (t2.trans t3).ext) h3 fun m4 H4 h4 s4 t4 =>
      o.nx ρ m4 σ H4 h4 (p.env.mono (t1.trans (t2.trans (t3.trans t4))).ext) s4 (t1.trans (t2.trans (t3.trans t4)))⟩⟩⟩
theorem get_list : PGet X (up2 X.K ixD) := by
  intro pins s σ H o i ov iv Q I ro ri ⟨dx, dy, m, q, r1, r2, sim, h, post⟩
  unfold ixD at h
  split at h
  · rename_i k
    split at h
    · rename_i xs e
      split at h
      · rename_i d ed
        cases r2
        obtain ⟨p, vs, rfl, hq, rs⟩ := sim.seq r1 e
        obtain ⟨w, ew, rw'⟩ := rs.atI ed
        cases ro
        obtain ⟨t, rfl⟩ := ri
        obtain ⟨j, h1, h2, h3, h4, h5⟩ := atI_get ew
        have hn := line63
        have fin : ∀ u, RelV w u → EP X pins σ Q u s := fun u ru => ⟨w, H, I, ru, post.here h rw' sim⟩
        rcases hq with hq | hq
        · obtain ⟨its, r, pl, hz⟩ := I.list hq
          obtain ⟨u, eu, ru⟩ := r.get h2
          have hl := r.length
          by_cases h0 : 0 ≤ k
          · have hj : k.toNat = j := by
              rw [seqIndex_of h0 h5] at h1
              exact Option.some.inj h1
            exact wpAny_getItem_list pl.isList h0 (by omega) (by rw [hj]; simpa using eu) (fin u ru)
          · have hj : (k + (its.toArray.size : Int)).toNat = j := by
              rw [seqIndex_neg (by omega) h4] at h1
              rw [List.size_toArray, ← hl]
              exact Option.some.inj h1
            exact wpAny_getItem_list_neg pl.isList (by omega) (by rw [List.size_toArray] <;> omega) (by omega) (by rw [hj]; simpa using eu) (fin u ru)
        · obtain ⟨its, r, pl, hz⟩ := I.tuple hq
          obtain ⟨u, eu, ru⟩ := r.get h2
          have hl := r.length
          exact getItem_tuple (j := j) pl (by omega) (by omega) (by rw [List.size_toArray, ← hl]; exact h1) (by simpa using eu) (fin u ru)
      · exact h.elim
    · exact h.elim
  · exact h.elim
theorem ds_augIx {oe ie : Expr} {to ti : DTE} {op : Operator} {r : DR2} {tpos : Pos} (ho : DE B X oe to) (hi : DE B X ie ti) (he : DE B X e te) (hp : OpD X (inplaceOp op) r)
    (ha : ∀ ov iv new, augStore ie ov iv new = (do holding [new, ov, iv] (setItem ov iv new); release [new, ov, iv] []; pure .next) := by intros; rfl) : DS B X (.AugAssign (.Subscript oe ie tpos) op e pos) (dAugIx to ti te r) :=
  ps_imp (ps_augS ho hi get_list he hp set_list ha) fun F σ H ⟨ρ, m, E, p, h, o⟩ => ⟨ρ, m, _, p, h, fun d1 m1 v1 H1 h1 r1 s1 t1 => ⟨ρ, m1, _, p.next s1 t1, h1, fun d2 m2 v2 H2 h2 r2 s2 t2 =>
    ⟨d1, d2, m2, _, r1.mono t2.ext, r2, s2, h2, fun d3 m3 v3 H3 h3 r3 s3 t3 => ⟨ρ, m3, _, ((p.next s1 t1).next s2 t2).next s3 t3, h3, fun d4 m4 v4 H4 h4 r4 s4 t4 =>
      ⟨d3, d4, m4, _, r3.mono t4.ext, r4, s4, h4, fun d5 m5 v5 H5 h5 r5 s5 t5 => setD_ok s5 (r1.mono (t2.trans (t3.trans (t4.trans t5))).ext) (r2.mono (t3.trans (t4.trans t5)).ext) r5 h5 fun m6 H6 h6 s6 t6 =>
        o.nx ρ m6 σ H6 h6 (p.env.mono (t1.trans (t2.trans (t3.trans (t4.trans (t5.trans t6))))).ext) s6 (t1.trans (t2.trans (t3.trans (t4.trans (t5.trans t6)))))⟩⟩⟩⟩⟩

/-! ### loops -/
/-- between two turns what is not asked any more may be forgotten -/
def dn (N : DEnv → Mem → Prop) : DEnv → Mem → Prop := fun ρ m => ∃ m' : Mem, m'.le m ∧ N ρ m'
def forR (chk : Mem → Prop) (g : DTG) (tb : DTS) (E : DEnds) : List D → DEnv → Mem → Prop
  | [], ρ, m => chk m ∧ E.nx ρ m
  | d :: r, ρ, m => chk m ∧ g d ρ m fun ρ2 m2 => tb { E with nx := dn (forR chk g tb E r), ct := dn (forR chk g tb E r), bk := E.nx } ρ2 m2
def dFor (wi : DTI) (g : DTG) (tb : DTS) : DTS := fun E ρ m => wi ρ m fun it m1 => forR it.chk g tb E it.items ρ m1
theorem ds_for {tg iter : Expr} {body : List Stmt} {vs : List Nat} {wi : DTI} {g : DTG} {tb : DTS} (hp : PassesOwn (model X.prog X.w) X.A X.env X.xe) (hc : X.calm = true) (hi : DI B X tg iter wi) (hg : DG B X vs tg g) (hb : DSs B X body tb)
    (hs : ∀ x, foldedSetIterable iter X.env x = pure x := by intro _; rfl) : DS B X (.For tg iter body [] pos) (dFor wi g tb) :=
  ps_imp (ps_for hp hc hi hg hb hs) fun F σ H ⟨ρ, m, E, p, h, o⟩ => ⟨ρ, m, _, p, h, fun it m1 J H1 h1 ok s1 t1 => by
    refine ⟨fun i n σ' H' => n = it.items.length - i ∧ i ≤ it.items.length ∧ ∃ ρ' m', RepEnv X.K H' ρ' σ' ∧ Sim X.K H' m' ∧ Step H1 m1 H' m' ∧ forR it.chk g tb E (it.items.drop i) ρ' m', ⟨_, rfl, Nat.zero_le _, ρ, m1, p.env.mono t1.ext, s1, Step.refl _ _, h1⟩, ?_⟩
    rintro i n σ' H' ⟨rfl, hi, ρ', m', env, sim, st, hr⟩
    have o1 : EndsOk X.K H' m' E F := o.next (t1.trans st)
    by_cases hlt : i < it.items.length
    · obtain ⟨d, hd⟩ : ∃ d, it.items[i]? = some d := ⟨_, List.getElem?_eq_getElem hlt⟩
      have hdr : it.items.drop i = d :: it.items.drop (i + 1) := by
        rw [List.drop_eq_getElem_cons hlt]
        congr 1
        rw [List.getElem?_eq_getElem hlt] at hd
        exact Option.some.inj hd
      rw [hdr] at hr
      obtain ⟨ck, hr⟩ := hr
      obtain ⟨go, yl⟩ := ok.go i d m' H' hd sim st ck
      refine .inr ⟨go, fun σ2 H2 => ∃ ρ2 m2, RepEnv X.K H2 ρ2 σ2 ∧ Sim X.K H2 m2 ∧ Step H' m' H2 m2 ∧ forR it.chk g tb E (it.items.drop (i + 1)) ρ2 m2, fun σ2 H2 ⟨ρ2, m2, e2, s2, t2, f2⟩ => ⟨it.items.length - (i + 1), by omega, rfl, hlt, ρ2, m2, e2, s2, st.trans t2, f2⟩, fun x Hx hx => ?_⟩
      obtain ⟨rx, sx, tx⟩ := yl x Hx hx
      refine ⟨d, ρ', m', _, rx, ⟨env.mono tx.ext, sx, (p.st.trans t1).trans (st.trans tx)⟩, hr, fun ρ3 m3 σ3 H3 h3 e3 _ s3 t3 => ?_⟩
      have nxt : ∀ ρ4 m4 σ4 H4, dn (forR it.chk g tb E (it.items.drop (i + 1))) ρ4 m4 → RepEnv X.K H4 ρ4 σ4 → Sim X.K H4 m4 → Step H3 m3 H4 m4 → ∃ ρ2 m2, RepEnv X.K H4 ρ2 σ4 ∧ Sim X.K H4 m2 ∧ Step H' m' H4 m2 ∧ forR it.chk g tb E (it.items.drop (i + 1)) ρ2 m2 := fun ρ4 m4 σ4 H4 ⟨m5, hle, f5⟩ e4 s4 t4 =>
        ⟨ρ4, m5, e4, s4.forget hle, ((tx.trans t3).trans t4).forget hle, f5⟩
      exact ⟨ρ3, m3, _, ⟨e3, s3, (p.st.trans t1).trans ((st.trans tx).trans t3)⟩, h3, ⟨nxt, (o1.next (tx.trans t3)).rt, (o1.next (tx.trans t3)).nx, nxt⟩⟩
    · have e : i = it.items.length := by omega
      subst e
      rw [List.drop_length] at hr
      exact .inl ⟨ok.stop m' H' sim st hr.1, o1.nx ρ' m' σ' H' hr.2 env sim (Step.refl _ _)⟩⟩
def dWhile (c : DTT) (tb : DTS) : DTS := fun E ρ m => ∃ W : Nat → DEnv → Mem → Prop, (∃ n, W n ρ m) ∧ ∀ n ρ m, W n ρ m →
  c ρ m fun b m1 => if b = true then tb { E with nx := dn fun ρ' m' => ∃ n', n' < n ∧ W n' ρ' m', ct := dn fun ρ' m' => ∃ n', n' < n ∧ W n' ρ' m', bk := E.nx } ρ m1 else E.nx ρ m1
theorem ds_while {c : Expr} {body : List Stmt} {tc : DTT} {tb : DTS} (hp : PassesOwn (model X.prog X.w) X.A X.env X.xe) (hc : DT B X c tc) (hb : DSs B X body tb) : DS B X (.While c body [] pos) (dWhile tc tb) :=
  ps_imp (ps_while hp hc hb) fun F σ H ⟨ρ, m, E, p, ⟨W, ⟨n0, w0⟩, turn⟩, o⟩ => by
    refine ⟨fun n σ' H' => ∃ ρ' m', RepEnv X.K H' ρ' σ' ∧ Sim X.K H' m' ∧ Step H m H' m' ∧ W n ρ' m', ⟨n0, ρ, m, p.env, p.sim, Step.refl _ _, w0⟩, ?_⟩
    rintro n σ' H' ⟨ρ', m', env, sim, st, hw⟩
    refine ⟨ρ', m', _, ⟨env, sim, p.st.trans st⟩, turn n ρ' m' hw, fun b m1 H1 h1 s1 t1 => ?_⟩
    have o1 : EndsOk X.K H1 m1 E F := o.next (st.trans t1)
    cases b with
    | false => exact o1.nx ρ' m1 σ' H1 h1 (env.mono t1.ext) s1 (Step.refl _ _)
    | true =>
      refine ⟨fun σ2 H2 => ∃ n', n' < n ∧ ∃ ρ2 m2, RepEnv X.K H2 ρ2 σ2 ∧ Sim X.K H2 m2 ∧ Step H m H2 m2 ∧ W n' ρ2 m2, fun σ2 H2 ⟨n', hn, q⟩ => ⟨n', hn, q⟩, ?_⟩
      have nxt : ∀ ρ4 m4 σ4 H4, (dn fun ρ' m' => ∃ n', n' < n ∧ W n' ρ' m') ρ4 m4 → RepEnv X.K H4 ρ4 σ4 → Sim X.K H4 m4 → Step H1 m1 H4 m4 → ∃ n', n' < n ∧ ∃ ρ2 m2, RepEnv X.K H4 ρ2 σ4 ∧ Sim X.K H4 m2 ∧ Step H m H4 m2 ∧ W n' ρ2 m2 := fun ρ4 m4 σ4 H4 ⟨m5, hle, n', hn, f5⟩ e4 s4 t4 =>
        ⟨n', hn, ρ4, m5, e4, s4.forget hle, ((st.trans t1).trans t4).forget hle, f5⟩
      exact ⟨ρ', m1, _, ⟨env.mono t1.ext, s1, (p.st.trans st).trans t1⟩, h1, ⟨nxt, o1.rt, o1.nx, nxt⟩⟩
end

/-! ### comprehensions -/
def compR (chk : Mem → Prop) (g : DTG) (tt : DTT) (te : DTE) (ρ : DEnv) (q : List D → Mem → Prop) : List D → List D → Mem → Prop
  | [], acc, m => chk m ∧ q acc m
  | d :: r, acc, m => chk m ∧ g d ρ m fun ρ2 m2 => tt ρ2 m2 fun b m3 => if b = true then te ρ2 m3 fun y m4 => acc.length < sizeLine ∧ compR chk g tt te ρ q r (acc ++ [y]) m4 else compR chk g tt te ρ q r acc m3
def dComp (wi : DTI) (g : DTG) (tt : DTT) (te : DTE) (vs : List Nat) : DTL := fun ρ m q => wi ρ m fun it m1 => compR it.chk g tt te (wipeD ρ vs) q it.items [] m1
def dYes : DTT := fun _ m q => q true m
section
variable {X : Cx} {B : Bs}
abbrev DTs (B : Bs) (X : Cx) (ifs : List Expr) (t : DTT) : Prop := PTs X ifs (upT X.K B t)
theorem dts_nil : DTs B X [] dYes := ⟨fun pins s σ H Q I ⟨ρ, m, q, p, h, post⟩ => pts_nil.run pins s σ H Q I (post true m H h p.sim (Step.refl _ _))⟩
theorem dts_one {c : Expr} {t : DTT} (h : DT B X c t) : DTs B X [c] t := pts_one h
theorem lc_lift {K : PySem.W.Frag} {wi : DTI} {g : DTG} {tt : DTT} {te : DTE} {vs : List Nat} : ∀ σ H Q, upL K B (dComp wi g tt te vs) σ H Q → tLc (upI K B wi) (upG K B vs g) (upT K B tt) (upE K B te) vs σ H Q :=
  fun σ H Q ⟨ρ, m, q, p, h, post⟩ => ⟨ρ, m, _, p, h, fun it m1 J H1 h1 ok s1 t1 L hL => by
    have mL : m1 L = none := s1.free hL
    refine ⟨fun i n H' => n = it.items.length - i ∧ i ≤ it.items.length ∧ ∃ acc vacc m', H' L = some (.lst vacc) ∧ Reps K H' acc vacc ∧ m' L = none ∧ Sim K H' m' ∧ Step H1 m1 H' m' ∧ compR it.chk g tt te (wipeD ρ vs) q (it.items.drop i) acc m',
      ⟨_, rfl, Nat.zero_le _, [], [], m1, upd_same, .nil, mL, s1.alloc hL, Step.alloc hL, h1⟩, ?_⟩
    rintro i n H' ⟨rfl, hi, acc, vacc, m', eL, ra, mL', sim, st, hr⟩
    by_cases hlt : i < it.items.length
    · obtain ⟨d, hd⟩ : ∃ d, it.items[i]? = some d := ⟨_, List.getElem?_eq_getElem hlt⟩
      have hdr : it.items.drop i = d :: it.items.drop (i + 1) := by
        rw [List.drop_eq_getElem_cons hlt]
        congr 1
        rw [List.getElem?_eq_getElem hlt] at hd
        exact Option.some.inj hd
      rw [hdr] at hr
      obtain ⟨ck, hr⟩ := hr
      obtain ⟨go, yl⟩ := ok.go i d m' H' hd sim st ck
      refine .inr ⟨go, fun H2 => ∃ acc vacc m2, H2 L = some (.lst vacc) ∧ Reps K H2 acc vacc ∧ m2 L = none ∧ Sim K H2 m2 ∧ Step H1 m1 H2 m2 ∧ compR it.chk g tt te (wipeD ρ vs) q (it.items.drop (i + 1)) acc m2,
        fun H2 q2 => ⟨it.items.length - (i + 1), by omega, rfl, hlt, q2⟩, fun x Hx hx => ?_⟩
      obtain ⟨rx, sx, tx⟩ := yl x Hx hx
      have env0 : RepEnv K H1 ρ σ := p.env.mono t1.ext
      have px : Pre K B (wipeD ρ vs) m' (L2.wipe σ vs) Hx := ⟨(env0.mono (st.trans tx).ext).wipe vs, sx, (p.st.trans t1).trans (st.trans tx)⟩
      refine ⟨d, wipeD ρ vs, m', _, rx, px, hr, fun ρ2 m2 σ2 H2 h2 e2 w2 s2 t2 => ⟨?_, ?_⟩⟩
      · rw [w2]
        have gen : ∀ (ws : List Nat) (σ : St), L2.wipe (L2.wipe σ ws) ws = L2.wipe σ ws := fun ws σ => by
          apply List.ext_getElem?
          intro j
          by_cases hj : j ∈ ws
          · have none_at : ∀ (ws : List Nat) (σ : St), j ∈ ws → (L2.wipe σ ws)[j]? = if j < σ.length then some none else none := fun ws => by
              induction ws with
              | nil => intro σ h; cases h
              | cons w ws ih =>
                intro σ h
                unfold L2.wipe
                by_cases hw : w = j
                · subst hw
                  by_cases hl : w < σ.length
                  · rw [List.getElem?_set_self (by rw [wipe_length]; exact hl), if_pos hl]
                  · rw [if_neg hl, List.getElem?_eq_none (by rw [List.length_set, wipe_length]; omega)]
                · rw [List.getElem?_set_ne hw]
                  exact ih σ ((List.mem_cons.mp h).resolve_left fun z => hw z.symm)
            rw [none_at ws _ hj, none_at ws _ hj, wipe_length]
          · rw [wipe_out hj]
        exact gen vs σ
      · have p2 : Pre K B ρ2 m2 σ2 H2 := ⟨e2, s2, px.st.trans t2⟩
        refine ⟨ρ2, m2, _, p2, h2, fun b m3 H3 h3 s3 t3 => ?_⟩
        have tt3 : Step H' m' H3 m3 := (tx.trans t2).trans t3
        have k3 : H3 L = some (.lst vacc) := tt3.keep L _ mL' eL
        have n3 : m3 L = none := tt3.new L _ mL' eL
        cases b with
        | false => exact ⟨acc, vacc, m3, k3, ra.mono tt3.ext, n3, s3, st.trans tt3, h3⟩
        | true =>
          refine ⟨ρ2, m3, _, p2.next s3 t3, h3, fun y m4 vy H4 ⟨hz, h4⟩ r4 s4 t4 => ?_⟩
          have k4 : H4 L = some (.lst vacc) := t4.keep L _ n3 k3
          have n4 : m4 L = none := t4.new L _ n3 k3
          have ra4 : Reps K H4 acc vacc := ra.mono (tt3.trans t4).ext
          have ex : Ext H4 (upd H4 L (.lst (vacc ++ [vy]))) := ⟨fun b xs e => by rw [upd_ne (fun z => by subst z; rw [k4] at e; cases e)]; exact e, fun b ob u e => by rw [upd_ne (fun z => by subst z; rw [k4] at e; cases e)]; exact e, fun b q e => by rw [upd_ne (fun z => by subst z; rw [k4] at e; unfold LamX.CodeO at e; cases e)]; exact e⟩
          refine ⟨vacc, k4, by rw [← ra4.length]; exact hz, acc ++ [y], vacc ++ [vy], m4, upd_same, (ra4.append (.cons r4 .nil)).mono ex, n4, ?_, ?_, h4⟩
          · intro a o ea
            have na : a ≠ L := fun z => by subst z; rw [n4] at ea; cases ea
            exact (s4 a o ea).mono ex fun u hu => by rw [upd_ne na]; exact hu
          · have base : Step H1 m1 H4 m4 := st.trans (tt3.trans t4)
            exact ⟨base.ext.trans ex, fun b hb => base.dom b (by
              by_cases z : b = L
              · subst z; rw [upd_same] at hb; cases hb
              · rw [upd_ne z] at hb; exact hb), fun b ob hn hb => by
                rw [upd_ne (fun z => by subst z; rw [hL] at hb; cases hb)]
                exact base.keep b ob hn hb, base.new⟩
    · have e : i = it.items.length := by omega
      subst e
      rw [List.drop_length] at hr
      exact .inl ⟨ok.stop m' H' sim st hr.1, post acc m' L vacc H' hr.2 eL ra mL' (t1.dom L hL) sim (t1.trans st)⟩⟩
theorem dl_comp {elt tg iter : Expr} {ifs : List Expr} {scope : Scope} {pos : Pos} {wi : DTI} {g : DTG} {tt : DTT} {te : DTE} (own : List (Str × Nat)) (hc : X.calm = true) (hN : X.N.Nodup) (hi : DI B X tg iter wi) (ok : BlkOk X.N X.env.scope scope own)
    (hg : ∀ (s : Shared) (H : Hp) (C : Addr) (cl : List (Str × Addr)) (fp : List Addr), DG B (X.blk s H scope (compEnvC scope cl C X.env) fp) (own.map (·.2)) tg g) (ht : ∀ (s : Shared) (H : Hp) (C : Addr) (cl : List (Str × Addr)) (fp : List Addr), DTs B (X.blk s H scope (compEnvC scope cl C X.env) fp) ifs tt)
    (he : ∀ (s : Shared) (H : Hp) (C : Addr) (cl : List (Str × Addr)) (fp : List Addr), DE B (X.blk s H scope (compEnvC scope cl C X.env) fp) elt te) (hs : ∀ x, foldedSetIterable iter X.env x = pure x := by intro _; rfl) :
    DL B X (.ListComp elt [⟨tg, iter, ifs, 0⟩] scope pos) (dComp wi g tt te (own.map (·.2))) := pe_imp (pe_lc hc hN hi ok hg ht he hs) lc_lift
theorem ds_setLc {i : Nat} {y : Str} {py : Pos} {elt tg iter : Expr} {ifs : List Expr} {scope : Scope} {pos spos : Pos} {wi : DTI} {g : DTG} {tt : DTT} {te : DTE} (own : List (Str × Nat)) (hc : X.calm = true) (hN : X.N.Nodup) (hy : X.N[i]? = some y) (hyl : X.env.scope.names.lookup y = some .local)
    (hsw : swapsWith (.ListComp elt [⟨tg, iter, ifs, 0⟩] scope pos) (some (.Name y py)) spos.line X.env = pure true) (hi : DI B X tg iter wi) (ok : BlkOk X.N X.env.scope scope own)
    (hg : ∀ (s : Shared) (H : Hp) (C : Addr) (cl : List (Str × Addr)) (fp : List Addr), DG B (X.blk s H scope (compEnvC scope cl C X.env) fp) (own.map (·.2)) tg g) (ht : ∀ (s : Shared) (H : Hp) (C : Addr) (cl : List (Str × Addr)) (fp : List Addr), DTs B (X.blk s H scope (compEnvC scope cl C X.env) fp) ifs tt)
    (he : ∀ (s : Shared) (H : Hp) (C : Addr) (cl : List (Str × Addr)) (fp : List Addr), DE B (X.blk s H scope (compEnvC scope cl C X.env) fp) elt te) (hs : ∀ x, foldedSetIterable iter X.env x = pure x := by intro _; rfl) :
    DS B X (.Assign [.Name y py] (.ListComp elt [⟨tg, iter, ifs, 0⟩] scope pos) spos) (dAsg (fun ρ m q => dComp wi g tt te (own.map (·.2)) ρ m fun ds m' => ∀ a, m' a = none → q (.ref a) (m'.set a (.lst ds))) (gNm i)) :=
  ps_imp (ps_setLc hc hN hy hyl hsw hi ok hg ht he hs) fun F σ H ⟨ρ, m, E, p, h, o⟩ => lc_lift σ H _ ⟨ρ, m, _, p, h, fun ds m' a vs H' hq ha hr hn h0 hs st => by
    have sim' : Sim X.K H' (m'.set a (.lst ds)) := fun b ob e => by
      by_cases z : b = a
      · subst z; rw [Mem.set_same] at e; cases e; exact ⟨vs, ha, hr⟩
      · rw [Mem.set_ne z] at e; exact hs b ob e
    have st' : Step H m H' (m'.set a (.lst ds)) := ⟨st.ext, st.dom, st.keep, fun b ob n e => by rw [Mem.set_ne (fun z => by rw [z, h0] at e; cases e)]; exact st.new b ob n e⟩
    exact o.nx _ _ _ H' (hq a hn) ((p.env.mono st.ext).set (.ref a) i) sim' st'⟩
end
end L2.Lh

namespace L2.Lh
open PySem PySem.Spec PyProof.Rows

/-! ### calls of built-ins -/
section
variable {X : Cx} {B : Bs} {e : Expr} {es : List Expr} {te : DTE} {t : DTA} {tl : DTL} {pos p : Pos} {x : Str} {id T : String} {r : DRC}
theorem cb_lift {K : PySem.W.Frag} : ∀ σ H Q, upE K B (dCB r t) σ H Q → tCB (upC K r) (upA K B t) σ H Q :=
  fun σ H Q ⟨ρ, m, q, p, h, post⟩ => ⟨ρ, m, _, p, h, fun ds m1 vs H1 h1 r1 s1 t1 => ⟨ds, m1, q, r1, s1, h1, fun d2 m2 v2 H2 h2 r2 s2 t2 => post d2 m2 v2 H2 h2 r2 s2 (t1.trans t2)⟩⟩
theorem de_callB (hc : CallD X (.builtin id) r) (hg : Gl X x) (hm : X.mg x = none) (hv : bootBuiltins x = some (.builtin id)) (ha : DA B X (e :: es) t) (hn : x ≠ "__name__" := by decide) (hdb : (x == ("__debug__" : Str)) = false := by decide)
    (he : starEach (e :: es) X.env = (false, eval e X.env) :: starEach es X.env := by rfl) (hpl : (backTo pos (starEach es X.env)).any (·.1) = false := by rfl) : DE B X (.Call (.Name x p) (e :: es) [] pos) (dCB r t) :=
  pe_imp (pe_callB hc hg hm hv ha hn hdb he hpl) cb_lift
theorem de_callTy (hc : CallD X (.type T) r) (hg : Gl X x) (hm : X.mg x = none) (hv : bootBuiltins x = some (.type T)) (ha : DA B X (e :: es) t) (hn : x ≠ "__name__" := by decide) (hdb : (x == ("__debug__" : Str)) = false := by decide)
    (he : starEach (e :: es) X.env = (false, eval e X.env) :: starEach es X.env := by rfl) (hpl : (backTo pos (starEach es X.env)).any (·.1) = false := by rfl) : DE B X (.Call (.Name x p) (e :: es) [] pos) (dCB r t) :=
  pe_imp (pe_callTy hc hg hm hv ha hn hdb he hpl) cb_lift
/-- .. of a list just made -/
def upN (K : PySem.W.Frag) (r : DRC) : List V → Hp → VK → Prop := fun xs H Q => ∃ a ds vs m q, xs = [.ref a] ∧ H a = some (.lst vs) ∧ Reps K H ds vs ∧ m a = none ∧ Sim K H m ∧ r ds m q ∧ PostE K H m q Q
abbrev CallN (X : Cx) (f : Value) (r : DRC) : Prop := CallR X f (upN X.K r)
def dCN (r : DRC) (t : DTL) : DTE := fun ρ m q => t ρ m fun ds m1 => r ds m1 q
theorem cn_lift {K : PySem.W.Frag} : ∀ σ H Q, upE K B (dCN r tl) σ H Q → tCB (upN K r) (tCons (upL K B tl) tNil) σ H Q :=
  fun σ H Q ⟨ρ, m, q, p, h, post⟩ => ⟨ρ, m, _, p, h, fun ds m1 a vs H1 h1 ha r1 hn _ s1 t1 => ⟨a, ds, vs, m1, q, rfl, ha, r1, hn, s1, h1, fun d2 m2 v2 H2 h2 r2 s2 t2 => post d2 m2 v2 H2 h2 r2 s2 (t1.trans t2)⟩⟩
theorem de_newB (hc : CallN X (.builtin id) r) (hg : Gl X x) (hm : X.mg x = none) (hv : bootBuiltins x = some (.builtin id)) (ha : DL B X e tl) (hn : x ≠ "__name__" := by decide) (hdb : (x == ("__debug__" : Str)) = false := by decide)
    (he : starEach [e] X.env = (false, eval e X.env) :: starEach [] X.env := by rfl) (hpl : (backTo pos (starEach [] X.env)).any (·.1) = false := by rfl) : DE B X (.Call (.Name x p) [e] [] pos) (dCN r tl) :=
  pe_imp (pe_callB hc hg hm hv (pa_cons ha pa_nil he) hn hdb he hpl) cn_lift
theorem de_newTy (hc : CallN X (.type T) r) (hg : Gl X x) (hm : X.mg x = none) (hv : bootBuiltins x = some (.type T)) (ha : DL B X e tl) (hn : x ≠ "__name__" := by decide) (hdb : (x == ("__debug__" : Str)) = false := by decide)
    (he : starEach [e] X.env = (false, eval e X.env) :: starEach [] X.env := by rfl) (hpl : (backTo pos (starEach [] X.env)).any (·.1) = false := by rfl) : DE B X (.Call (.Name x p) [e] [] pos) (dCN r tl) :=
  pe_imp (pe_callTy hc hg hm hv (pa_cons ha pa_nil he) hn hdb he hpl) cn_lift
/-- what gives a new list -/
def PostL (K : PySem.W.Frag) (H : Hp) (m : Mem) (q : List D → Mem → Prop) (Q : VK) : Prop := ∀ ds m' a vs H', q ds m' → H' a = some (.lst vs) → Reps K H' ds vs → m' a = none → H a = none → Sim K H' m' → Step H m H' m' → Q (.ref a) H'
abbrev DRL := D → Mem → (List D → Mem → Prop) → Prop
abbrev DRLN := List D → Mem → (List D → Mem → Prop) → Prop
def upCL (K : PySem.W.Frag) (r : DRL) : List V → Hp → VK → Prop := fun xs H Q => ∃ d v m q, xs = [v] ∧ Rep K H d v ∧ Sim K H m ∧ r d m q ∧ PostL K H m q Q
def upNL (K : PySem.W.Frag) (r : DRLN) : List V → Hp → VK → Prop := fun xs H Q => ∃ a ds vs m q, xs = [.ref a] ∧ H a = some (.lst vs) ∧ Reps K H ds vs ∧ m a = none ∧ Sim K H m ∧ r ds m q ∧ PostL K H m q Q
def dCL (r : DRL) (t : DTE) : DTL := fun ρ m q => t ρ m fun d m1 => r d m1 q
def dCNL (r : DRLN) (t : DTL) : DTL := fun ρ m q => t ρ m fun ds m1 => r ds m1 q
theorem PostL.next {K : PySem.W.Frag} {H H1 : Hp} {m m1 : Mem} {q : List D → Mem → Prop} {Q : VK} (post : ∀ ds m' a vs H', q ds m' → H' a = some (.lst vs) → Reps K H' ds vs → m' a = none → H a = none → Sim K H' m' → Step H m H' m' → Q (.ref a) H') (t1 : Step H m H1 m1) : PostL K H1 m1 q Q :=
  fun ds m' a vs H' hq ha hr hn h0 hs st => post ds m' a vs H' hq ha hr hn (t1.dom a h0) hs (t1.trans st)
theorem PostL.lst {K : PySem.W.Frag} {H : Hp} {m : Mem} {q : List D → Mem → Prop} {Q : VK} {ds : List D} {vs : List V} {a : Addr} (p : PostL K H m q Q) (h : q ds m) (n : H a = none) (r : Reps K H ds vs) (s : Sim K H m) : Q (.ref a) (upd H a (.lst vs)) :=
  p ds m a vs _ h upd_same (r.mono (upd_new n)) (s.free n) n (s.alloc n) (Step.alloc n)
variable {rl : DRL} {rn : DRLN}
theorem dl_callB (hc : CallR X (.builtin id) (upCL X.K rl)) (hg : Gl X x) (hm : X.mg x = none) (hv : bootBuiltins x = some (.builtin id)) (ha : DE B X e te) (hn : x ≠ "__name__" := by decide) (hdb : (x == ("__debug__" : Str)) = false := by decide)
    (he : starEach [e] X.env = (false, eval e X.env) :: starEach [] X.env := by rfl) (hpl : (backTo pos (starEach [] X.env)).any (·.1) = false := by rfl) : DL B X (.Call (.Name x p) [e] [] pos) (dCL rl te) :=
  pe_imp (pe_callB hc hg hm hv (pa_cons ha pa_nil he) hn hdb he hpl) fun σ H Q ⟨ρ, m, q, p, h, post⟩ => ⟨ρ, m, _, p, h, fun d m1 v H1 h1 r1 s1 t1 => ⟨d, v, m1, q, rfl, r1, s1, h1, PostL.next post t1⟩⟩
theorem dl_callTy (hc : CallR X (.type T) (upCL X.K rl)) (hg : Gl X x) (hm : X.mg x = none) (hv : bootBuiltins x = some (.type T)) (ha : DE B X e te) (hn : x ≠ "__name__" := by decide) (hdb : (x == ("__debug__" : Str)) = false := by decide)
    (he : starEach [e] X.env = (false, eval e X.env) :: starEach [] X.env := by rfl) (hpl : (backTo pos (starEach [] X.env)).any (·.1) = false := by rfl) : DL B X (.Call (.Name x p) [e] [] pos) (dCL rl te) :=
  pe_imp (pe_callTy hc hg hm hv (pa_cons ha pa_nil he) hn hdb he hpl) fun σ H Q ⟨ρ, m, q, p, h, post⟩ => ⟨ρ, m, _, p, h, fun d m1 v H1 h1 r1 s1 t1 => ⟨d, v, m1, q, rfl, r1, s1, h1, PostL.next post t1⟩⟩
theorem dl_newB (hc : CallR X (.builtin id) (upNL X.K rn)) (hg : Gl X x) (hm : X.mg x = none) (hv : bootBuiltins x = some (.builtin id)) (ha : DL B X e tl) (hn : x ≠ "__name__" := by decide) (hdb : (x == ("__debug__" : Str)) = false := by decide)
    (he : starEach [e] X.env = (false, eval e X.env) :: starEach [] X.env := by rfl) (hpl : (backTo pos (starEach [] X.env)).any (·.1) = false := by rfl) : DL B X (.Call (.Name x p) [e] [] pos) (dCNL rn tl) :=
  pe_imp (pe_callB hc hg hm hv (pa_cons ha pa_nil he) hn hdb he hpl) fun σ H Q ⟨ρ, m, q, p, h, post⟩ => ⟨ρ, m, _, p, h, fun ds m1 a vs H1 h1 ha r1 hn _ s1 t1 => ⟨a, ds, vs, m1, q, rfl, ha, r1, hn, s1, h1, PostL.next post t1⟩⟩
theorem dl_newTy (hc : CallR X (.type T) (upNL X.K rn)) (hg : Gl X x) (hm : X.mg x = none) (hv : bootBuiltins x = some (.type T)) (ha : DL B X e tl) (hn : x ≠ "__name__" := by decide) (hdb : (x == ("__debug__" : Str)) = false := by decide)
    (he : starEach [e] X.env = (false, eval e X.env) :: starEach [] X.env := by rfl) (hpl : (backTo pos (starEach [] X.env)).any (·.1) = false := by rfl) : DL B X (.Call (.Name x p) [e] [] pos) (dCNL rn tl) :=
  pe_imp (pe_callTy hc hg hm hv (pa_cons ha pa_nil he) hn hdb he hpl) fun σ H Q ⟨ρ, m, q, p, h, post⟩ => ⟨ρ, m, _, p, h, fun ds m1 a vs H1 h1 ha r1 hn _ s1 t1 => ⟨a, ds, vs, m1, q, rfl, ha, r1, hn, s1, h1, PostL.next post t1⟩⟩

/-! the calls -/
theorem reps1 {K : PySem.W.Frag} {H : Hp} {d : D} {vs : List V} (r : Reps K H [d] vs) : ∃ v, vs = [v] ∧ Rep K H d v := by
  cases r with
  | cons a b => cases b; exact ⟨_, rfl, a⟩
theorem reps2 {K : PySem.W.Frag} {H : Hp} {d e : D} {vs : List V} (r : Reps K H [d, e] vs) : ∃ v u, vs = [v, u] ∧ Rep K H d v ∧ Rep K H e u := by
  cases r with
  | cons a b => cases b with
    | cons c d => cases d; exact ⟨_, _, rfl, a, c⟩
def lenD : DRC
  | [.str x], m, q => x.length ≤ sizeLine ∧ q (.int x.length) m
  | [d], m, q => match itemsOf m d with
    | some xs => q (.int xs.length) m
    | none => False
  | _, _, _ => False
theorem c_len : CallD X (.builtin "len") lenD := by
  intro pins s σ H xs us Q I r ⟨ds, m, q, rs, sim, h, post⟩
  unfold lenD at h
  split at h
  · obtain ⟨v, rfl, rv⟩ := reps1 rs
    cases rv
    exact call_len_str pins s σ H _ us Q I r ⟨_, rfl, h.1, post.here h.2 (.int _) sim⟩
  · split at h
    · rename_i xs e
      obtain ⟨v, rfl, rv⟩ := reps1 rs
      obtain ⟨a, vs, rfl, hq, rr⟩ := sim.seq rv e
      refine call_len_seq pins s σ H _ us Q I r ⟨a, vs, rfl, hq, ?_⟩
      rw [← rr.length]
      exact post.here h (.int _) sim
    · exact h.elim
  · exact h.elim
theorem n_len : CallN X (.builtin "len") (fun ds m q => q (.int ds.length) m) := by
  intro pins s σ H xs us Q I r ⟨a, ds, vs, m, q, e, ha, rs, hn, sim, h, post⟩
  subst e
  refine call_len_seq pins s σ H _ us Q I r ⟨a, vs, rfl, .inl (SqL.of ha), ?_⟩
  rw [← rs.length]
  exact post.here h (.int _) sim
def absD : DRC
  | [.int i], m, q => q (.int (if i < 0 then -i else i)) m
  | _, _, _ => False
theorem c_abs : CallD X (.builtin "abs") absD := by
  intro pins s σ H xs us Q I r ⟨ds, m, q, rs, sim, h, post⟩
  unfold absD at h
  split at h
  · obtain ⟨v, rfl, rv⟩ := reps1 rs
    cases rv
    exact call_abs pins s σ H _ us Q I r ⟨_, rfl, post.here h (.int _) sim⟩
  · exact h.elim
def max2D : DRC
  | [.int i, .int j], m, q => q (.int (if j > i then j else i)) m
  | _, _, _ => False
def min2D : DRC
  | [.int i, .int j], m, q => q (.int (if j < i then j else i)) m
  | _, _, _ => False
theorem c_max2 (hc : X.calm = true) : CallD X (.builtin "max") max2D := by
  intro pins s σ H xs us Q I r ⟨ds, m, q, rs, sim, h, post⟩
  unfold max2D at h
  split at h
  · obtain ⟨v, u, rfl, rv, ru⟩ := reps2 rs
    cases rv; cases ru
    exact call_max2 hc pins s σ H _ us Q I r ⟨_, _, rfl, post.here h (.int _) sim⟩
  · exact h.elim
theorem c_min2 (hc : X.calm = true) : CallD X (.builtin "min") min2D := by
  intro pins s σ H xs us Q I r ⟨ds, m, q, rs, sim, h, post⟩
  unfold min2D at h
  split at h
  · obtain ⟨v, u, rfl, rv, ru⟩ := reps2 rs
    cases rv; cases ru
    exact call_min2 hc pins s σ H _ us Q I r ⟨_, _, rfl, post.here h (.int _) sim⟩
  · exact h.elim
def intD : DRC
  | [.int i], m, q => q (.int i) m
  | [.bl b], m, q => q (.int (if b then 1 else 0)) m
  | _, _, _ => False
theorem c_int : CallD X (.type "int") intD := by
  intro pins s σ H xs us Q I r ⟨ds, m, q, rs, sim, h, post⟩
  unfold intD at h
  split at h
  · obtain ⟨v, rfl, rv⟩ := reps1 rs
    cases rv
    exact call_int1 pins s σ H _ us Q I r (.inl ⟨_, rfl, post.here h (.int _) sim⟩)
  · obtain ⟨v, rfl, rv⟩ := reps1 rs
    cases rv
    exact call_int1 pins s σ H _ us Q I r (.inr ⟨_, rfl, post.here h (.int _) sim⟩)
  · exact h.elim
/-- the built-in type of a thing -/
def tyS (m : Mem) : D → Option String
  | .non => some "NoneType"
  | .bl _ => some "bool"
  | .int _ => some "int"
  | .str _ => some "str"
  | .tup _ => some "tuple"
  | .ftup _ => some "tuple"
  | .rol _ => some "list"
  | .ref a => match m a with
    | some (.lst _) => some "list"
    | some (.dK _) => some "dict"
    | some (.dF _) => some "dict"
    | _ => none
  | .ty _ => none
theorem tyS_ok {K : PySem.W.Frag} {H : Hp} {m : Mem} {d : D} {v : V} {n : String} (s : Sim K H m) (r : Rep K H d v) (e : tyS m d = some n) : TyX K H v (.type n) := by
  cases r with
  | non => cases e; exact .base .non
  | bl b => cases e; exact .base (.bl b)
  | int b => cases e; exact .base (.int b)
  | str b => cases e; exact .base (.str b)
  | ty n => cases e
  | tup h _ => cases e; exact .base (.tup h)
  | ftup h _ _ => cases e; exact .fTuple h
  | rol h _ =>
    cases e
    rcases h with ⟨o, h⟩ | ⟨o, its, n, hk, hc, _⟩
    · exact .base (.frz h)
    · exact .kList hk hc
  | ref a =>
    unfold tyS at e
    dsimp only at e
    split at e
    · rename_i xs q
      cases e
      obtain ⟨vs, h, _⟩ := s a _ q
      exact .base (.lst h)
    · rename_i xs q
      cases e
      obtain ⟨vs, h, _⟩ := s a _ q
      exact .base (.dK h)
    · rename_i xs q
      cases e
      obtain ⟨od, vs, h, _⟩ := s a _ q
      exact .fDict h
    · cases e
/-- what isinstance says of built-in types -/
def isaB : String → String → Option Bool
  | "dict", "int" => some false | "dict", "bool" => some false | "dict", "tuple" => some false | "dict", "list" => some false | "dict", "str" => some false | "dict", "dict" => some true
  | "int", "int" => some true | "bool", "int" => some true | "str", "int" => some false | "tuple", "int" => some false | "list", "int" => some false | "NoneType", "int" => some false
  | "int", "bool" => some false | "bool", "bool" => some true | "str", "bool" => some false | "tuple", "bool" => some false | "list", "bool" => some false | "NoneType", "bool" => some false
  | "int", "tuple" => some false | "bool", "tuple" => some false | "str", "tuple" => some false | "tuple", "tuple" => some true | "list", "tuple" => some false | "NoneType", "tuple" => some false
  | "int", "list" => some false | "bool", "list" => some false | "str", "list" => some false | "tuple", "list" => some false | "list", "list" => some true | "NoneType", "list" => some false
  | "int", "str" => some false | "bool", "str" => some false | "str", "str" => some true | "tuple", "str" => some false | "list", "str" => some false | "NoneType", "str" => some false
  | _, _ => none
theorem isaB_ok {a n : String} {b : Bool} (h : isaB a n = some b) : kitB a n = some b := by
  unfold isaB at h
  split at h <;> first | (cases h; decide +kernel) | cases h
def isAnyB (a : String) : List D → Option Bool
  | [] => some false
  | .ty n :: r => match isaB a n, isAnyB a r with
    | some b, some c => some (b || c)
    | _, _ => none
  | _ => none
def isiD : DRC
  | [d, .ty n], m, q => match tyS m d with
    | some a => match isaB a n with
      | some b => q (.bl b) m
      | none => False
    | none => False
  | [d, .tup ts], m, q => match tyS m d with
    | some a => match isAnyB a ts with
      | some b => q (.bl b) m
      | none => False
    | none => False
  | _, _, _ => False
theorem isAnyB_ok {K : PySem.W.Frag} {H : Hp} {a : String} : ∀ {ts : List D} {vs : List V} {b : Bool}, Reps K H ts vs → isAnyB a ts = some b → ∃ us, Paired ClsV vs us ∧ PySem.W.kitAny K (.type a) us = some b
  | [], _, b, r, e => by cases r; exact ⟨[], .nil, e⟩
  | .ty n :: ts, _, b, r, e => by
    cases r with
    | cons r1 r2 =>
      cases r1
      unfold isAnyB at e
      split at e
      · rename_i b1 c1 q1 q2
        cases e
        obtain ⟨us, h1, h2⟩ := isAnyB_ok r2 q2
        refine ⟨.type n :: us, .cons (.ty n) h1, kitAny_cons (kit_ty (isaB_ok q1)) (fun z => ?_) (fun z => by rw [z]; rfl)⟩
        rw [h2, z]
        rfl
      · cases e
  | .non :: _, _, _, _, e => by cases e
  | .bl _ :: _, _, _, _, e => by cases e
  | .int _ :: _, _, _, _, e => by cases e
  | .str _ :: _, _, _, _, e => by cases e
  | .ref _ :: _, _, _, _, e => by cases e
  | .tup _ :: _, _, _, _, e => by cases e
  | .ftup _ :: _, _, _, _, e => by cases e
  | .rol _ :: _, _, _, _, e => by cases e
theorem c_isi : CallD X (.builtin "isinstance") isiD := by
  intro pins s σ H xs us Q I r ⟨ds, m, q, rs, sim, h, post⟩
  unfold isiD at h
  split at h
  · rename_i d n
    split at h
    · rename_i a ea
      split at h
      · rename_i b eb
        obtain ⟨v, u, rfl, rv, ru⟩ := reps2 rs
        cases ru
        exact call_isi pins s σ H _ us Q I r ⟨v, _, _, _, b, rfl, .ty n, tyS_ok sim rv ea, kit_ty (isaB_ok eb), post.here h (.bl _) sim⟩
      · exact h.elim
    · exact h.elim
  · rename_i d ts
    split at h
    · rename_i a ea
      split at h
      · rename_i b eb
        obtain ⟨v, u, rfl, rv, ru⟩ := reps2 rs
        cases ru with
        | tup h1 q1 =>
          obtain ⟨ws, k1, k2⟩ := isAnyB_ok q1 eb
          exact call_isiT pins s σ H _ us Q I r ⟨v, _, _, _, ws, b, rfl, h1, k1, tyS_ok sim rv ea, k2, post.here h (.bl _) sim⟩
      · exact h.elim
    · exact h.elim
  · exact h.elim
def tupleD : DRC
  | [.ftup xs], m, q => q (.ftup xs) m
  | [d], m, q => match itemsOf m d with
    | some xs => q (.tup xs) m
    | none => False
  | _, _, _ => False
theorem c_tuple : CallD X (.type "tuple") tupleD := by
  intro pins s σ H xs us Q I r ⟨ds, m, q, rs, sim, h, post⟩
  unfold tupleD at h
  split at h
  · obtain ⟨v, rfl, rv⟩ := reps1 rs
    cases rv with
    | ftup h1 n1 q1 => exact call_tuple_of pins s σ H _ us Q I r ⟨_, _, rfl, .inr ⟨.inl (.inr ⟨_, h1⟩), post.here h (.ftup h1 n1 q1) sim⟩⟩
  · rename_i nf
    split at h
    · rename_i xs e
      obtain ⟨v, rfl, rv⟩ := reps1 rs
      cases rv with
      | tup h1 q1 => cases e; exact call_tuple_of pins s σ H _ us Q I r ⟨_, _, rfl, .inr ⟨SqT.of h1, post.here h (.tup h1 q1) sim⟩⟩
      | rol h1 q1 => cases e; exact call_tuple_of pins s σ H _ us Q I r ⟨_, _, rfl, .inl ⟨rol_sq h1, fun l hl => post.tup h hl q1 sim⟩⟩
      | ref a =>
        unfold itemsOf at e
        dsimp only at e
        split at e
        · rename_i ys q2
          cases e
          obtain ⟨vs, hv, rr⟩ := sim a _ q2
          exact call_tuple_of pins s σ H _ us Q I r ⟨_, _, rfl, .inl ⟨SqL.of hv, fun l hl => post.tup h hl rr sim⟩⟩
        · cases e
      | ftup h1 _ q1 => exact absurd rfl (nf _)
      | _ => cases e
    · exact h.elim
  · exact h.elim
theorem n_tuple : CallN X (.type "tuple") (fun ds m q => q (.tup ds) m) := by
  intro pins s σ H xs us Q I r ⟨a, ds, vs, m, q, e, ha, rs, hn, sim, h, post⟩
  subst e
  exact call_tuple_of pins s σ H _ us Q I r ⟨a, vs, rfl, .inl ⟨SqL.of ha, fun l hl => post.tup h hl rs sim⟩⟩
/-- list(x) -/
def listD : DRL := fun d m q => match itemsOf m d with
  | some xs => q xs m
  | none => False
theorem l_list : CallR X (.type "list") (upCL X.K listD) := by
  intro pins s σ H xs us Q I r ⟨d, v, m, q, e, rd, sim, h, post⟩
  subst e
  unfold listD at h
  split at h
  · rename_i ys ey
    obtain ⟨a, vs, rfl, hq, rr⟩ := sim.seq rd ey
    exact call_list_of pins s σ H _ us Q I r ⟨a, vs, rfl, hq, fun l hl => post.lst h hl rr sim⟩
  · exact h.elim
theorem nl_list : CallR X (.type "list") (upNL X.K fun ds m q => q ds m) := by
  intro pins s σ H xs us Q I r ⟨a, ds, vs, m, q, e, ha, rs, hn, sim, h, post⟩
  subst e
  exact call_list_of pins s σ H _ us Q I r ⟨a, vs, rfl, .inl (SqL.of ha), fun l hl => post.lst h hl rs sim⟩
/-- all, any -/
def boolsOf : List D → Option (List Bool)
  | [] => some []
  | .bl b :: r => match boolsOf r with
    | some bs => some (b :: bs)
    | none => none
  | _ => none
theorem boolsOf_ok : ∀ {ds : List D} {bs : List Bool}, boolsOf ds = some bs → ds = bs.map D.bl
  | [], _, e => by cases e; rfl
  | .bl b :: r, _, e => by
    unfold boolsOf at e
    split at e
    · rename_i bs q; cases e; rw [List.map_cons, boolsOf_ok q]
    · cases e
  | .non :: _, _, e => by cases e
  | .int _ :: _, _, e => by cases e
  | .str _ :: _, _, e => by cases e
  | .ty _ :: _, _, e => by cases e
  | .ref _ :: _, _, e => by cases e
  | .tup _ :: _, _, e => by cases e
  | .ftup _ :: _, _, e => by cases e
  | .rol _ :: _, _, e => by cases e
theorem boolsOf_map : ∀ (bs : List Bool), boolsOf (bs.map D.bl) = some bs
  | [] => rfl
  | b :: bs => by rw [List.map_cons, boolsOf, boolsOf_map bs]
def allN : DRC := fun ds m q => match boolsOf ds with
  | some bs => q (.bl (bs.all _root_.id)) m
  | none => False
def anyN : DRC := fun ds m q => match boolsOf ds with
  | some bs => q (.bl (bs.any _root_.id)) m
  | none => False
theorem n_all (hc : X.calm = true) : CallN X (.builtin "all") allN := by
  intro pins s σ H xs us Q I r ⟨a, ds, vs, m, q, e, ha, rs, hn, sim, h, post⟩
  subst e
  unfold allN at h
  split at h
  · rename_i bs eb
    rw [boolsOf_ok eb] at rs
    have ev := rs.ofBls
    subst ev
    exact cr_all hc pins s σ H _ us Q I r ⟨a, bs, rfl, SqL.of ha, post.here h (.bl _) sim⟩
  · exact h.elim
theorem n_any (hc : X.calm = true) : CallN X (.builtin "any") anyN := by
  intro pins s σ H xs us Q I r ⟨a, ds, vs, m, q, e, ha, rs, hn, sim, h, post⟩
  subst e
  unfold anyN at h
  split at h
  · rename_i bs eb
    rw [boolsOf_ok eb] at rs
    have ev := rs.ofBls
    subst ev
    exact cr_any hc pins s σ H _ us Q I r ⟨a, bs, rfl, SqL.of ha, post.here h (.bl _) sim⟩
  · exact h.elim
/-- sorted of ints -/
def intsOf : List D → Option (List Int)
  | [] => some []
  | .int b :: r => match intsOf r with
    | some bs => some (b :: bs)
    | none => none
  | _ => none
theorem intsOf_ok : ∀ {ds : List D} {bs : List Int}, intsOf ds = some bs → ds = bs.map D.int
  | [], _, e => by cases e; rfl
  | .int b :: r, _, e => by
    unfold intsOf at e
    split at e
    · rename_i bs q; cases e; rw [List.map_cons, intsOf_ok q]
    · cases e
  | .non :: _, _, e => by cases e
  | .bl _ :: _, _, e => by cases e
  | .str _ :: _, _, e => by cases e
  | .ty _ :: _, _, e => by cases e
  | .ref _ :: _, _, e => by cases e
  | .tup _ :: _, _, e => by cases e
  | .ftup _ :: _, _, e => by cases e
  | .rol _ :: _, _, e => by cases e
theorem intsOf_map : ∀ (bs : List Int), intsOf (bs.map D.int) = some bs
  | [] => rfl
  | b :: bs => by rw [List.map_cons, intsOf, intsOf_map bs]
def sortD : DRL := fun d m q => match itemsOf m d with
  | some xs => match intsOf xs with
    | some ns => ns.length < 64 ∧ ∀ ns' : List Int, ns'.Perm ns → ns'.Pairwise (· ≤ ·) → q (ns'.map D.int) m
    | none => False
  | none => False
theorem collect_tup {prog : Program} {w : World} {A : Around} {E : Value → Shared → Prop} {s : Shared} {l : Addr} {vs : List Value} {Q : List Value → Shared → Prop} (hl : IsTup s.heap l vs.toArray)
    (h : Q vs { s with heap := (s.heap.push (seqObj "list" #[] 0)).update s.heap.objs.size (Obj.mapSeq (· ++ vs.toArray)) }) (hsz : vs.length ≤ sizeLine) :
    wpAny (model prog w) A (collect (.ref l)) Q E s := by
  obtain ⟨o, ho, hc, n, hd⟩ := id hl
  unfold collect
  refine wpAny_bind (wpAny_runValue (codeAny_builtin entry_proto_collect' ?_))
  show wpAny _ _ (do again (.builtin "list.__iadd__" ⟨[← newList [], .ref l], []⟩)) _ _ s
  refine wpAny_bind (wpAny_newList (wpAny_pure ⟨Code.quiet_builtin _ (by decide +kernel), codeAny_builtin entry_list_iadd' ?_⟩))
  show wpAny _ _ (Builtin.List.listExtendWith (.ref s.heap.objs.size) (.ref l) (.ref s.heap.objs.size)) _ _ { s with heap := s.heap.push (seqObj "list" #[] 0) }
  unfold Builtin.List.listExtendWith
  have ho' : (s.heap.push (seqObj "list" #[] 0)).get? l = some o := Heap.get?_push_of_some _ ho
  refine wpAny_bind (wpAny_typeOf (T := "tuple") ⟨o, ho', hc⟩ ?_)
  have ht : (Value.type "tuple" == Value.type "tuple") = true := by rfl
  rw [if_pos (by rw [ht]; simp)]
  refine wpAny_bind (listItems_at ho' hd ?_)
  refine wpAny_bind (listItems_at (xs := #[]) (n := 0) (Heap.get?_push_size _ rfl) rfl ?_)
  rw [if_neg (by simp)]
  refine wpAny_bind (listUpdate_at (xs := #[]) (n := 0) (Heap.get?_push_size _ rfl) rfl ?_ (Nat.zero_le _) (by show (#[] ++ vs.toArray).size ≤ sizeLine + 1; simp only [Array.size_append, List.size_toArray, List.length_nil]; omega))
  refine wpAny_pure ?_
  show wpAny (model prog w) A (do
      let o ← load s.heap.objs.size
      match o.data with
      | .seq xs _ => pure xs.toList
      | _ => unsupported "internal:collect") Q E { s with heap := (s.heap.push (seqObj "list" #[] 0)).update s.heap.objs.size (Obj.mapSeq (· ++ vs.toArray)) }
  refine wpAny_bind (wpAny_load (get?_update_seq (Heap.get?_push_size _ rfl) _) ?_)
  show wpAny _ _ (pure ((#[] : Array Value) ++ vs.toArray).toList) Q E _
  rw [show ((#[] : Array Value) ++ vs.toArray).toList = vs by simp]
  exact wpAny_pure h
theorem sorted_tup {prog : Program} {w : World} {A : Around} {E : Value → Shared → Prop} {s : Shared} {l : Addr} {vs : List Value} {ns : List Int} {Q : Value → Shared → Prop} (hl : IsTup s.heap l vs.toArray) (hI : IntsAre vs ns) (h64 : vs.length < 64)
    (h : ∀ (out : Array Value) (ns' : List Int), IntsAre out.toList ns' → ns'.Perm ns → ns'.Pairwise (· ≤ ·) → Q (.ref (s.heap.objs.size + 1)) { s with heap := sortedAll s.heap vs out }) :
    wpAny (model prog w) A (call (.builtin "sorted") [.ref l]) Q E s := by
  refine Calls.call_function_entry kind_sorted plain_sorted entry_sorted (args_sorted1 _) ?_
  unfold Builtin.«sorted»
  refine wpAny_bind (m := checkCount "sorted" 1 1 _) (wpAny_pure ?_)
  refine wpAny_bind (collect_tup hl ?_ (by rw [sizeLine_eq]; omega))
  refine wpAny_bind (wpAny_newList ?_ (by rw [sizeLine_eq]; omega))
  have hsz : ((s.heap.push (seqObj "list" #[] 0)).update s.heap.objs.size (Obj.mapSeq (· ++ vs.toArray))).objs.size = s.heap.objs.size + 1 := by
    rw [Heap.size_update, size_push']
  have hoL : (((s.heap.push (seqObj "list" #[] 0)).update s.heap.objs.size (Obj.mapSeq (· ++ vs.toArray))).push (seqObj "list" vs.toArray 0)).get? (s.heap.objs.size + 1) = some (seqObj "list" vs.toArray 0) := by
    rw [← hsz]; exact Heap.get?_push_size _ rfl
  show wpAny _ _ _ _ _ { s with heap := ((s.heap.push (seqObj "list" #[] 0)).update s.heap.objs.size (Obj.mapSeq (· ++ vs.toArray))).push (seqObj "list" vs.toArray 0) }
  rw [hsz]
  refine wpAny_bind (wpAny_holding (wpAny_call_entry slot_list_sort ⟨_, hoL, rfl⟩ entry_list_sort (list_sort_tree hoL hI h64 fun out ns' a1 a2 a3 => ⟨_, rfl, ?_⟩) (args_list_sort _)))
  exact wpAny_pure ⟨_, rfl, h out ns' a1 a2 a3⟩
theorem l_sorted : CallR X (.builtin "sorted") (upCL X.K sortD) := by
  intro pins s σ H xs us Q I r ⟨d, v, m, q, e, rd, sim, h, post⟩
  subst e
  unfold sortD at h
  split at h
  · rename_i ys ey
    split at h
    · rename_i ns en
      obtain ⟨h64, hq⟩ := h
      obtain ⟨a, vs, rfl, hs, rr⟩ := sim.seq rd ey
      rw [intsOf_ok en] at rr
      have ev := rr.ofInts
      subst ev
      rcases hs with hs | hs
      · exact cr_sorted pins s σ H _ us Q I r ⟨a, ns, rfl, hs, h64, fun ns' p hp ho hn => post.lst (hq ns' hp ho) hn (Reps.ints ns') sim⟩
      · obtain ⟨its, rv, hl, _⟩ := I.tuple hs
        rw [Vals.ref1 r]
        have hi := rv.ints
        refine sorted_tup hl hi (by rw [hi.length]; exact h64) fun out ns' h1 h2 h3 => ?_
        obtain ⟨ep, he'⟩ := PyProof.Rows.sortedAll_at s.heap its out
        have hlen : (ns'.map V.int).length ≤ sizeLine := by rw [List.length_map, h2.length_eq]; exact small64 h64
        exact ⟨.ref _, upd H (s.heap.objs.size + 1) (.lst (ns'.map V.int)), I.laid (t' := s.toks) (fun _ _ => PyProof.Rows.sortedAll_old) (Nat.le_succ _) ⟨hlen, out.toList, ep, vals_of_ints h1, he'⟩, rfl, post.lst (hq ns' h2 h3) (I.hok.fresh (Nat.le_succ _)) (Reps.ints ns') sim⟩
    · exact h.elim
  · exact h.elim
/-- list(range(n)), tuple(range(n)) -/
def dRg1 (ta : DTE) (k : List D → Mem → Prop) : DEnv → Mem → Prop := fun ρ m => ta ρ m fun d m1 => match d with
  | .int n => RgOk 0 n ∧ k (rngD 0 n.toNat) m1
  | _ => False
theorem rgV_eq (a b : Int) : rgV a b = (List.range (b - a).toNat).map fun i => V.int (a + (i : Nat)) := rfl
theorem reps_rng {K : PySem.W.Frag} {H : Hp} (a : Int) : ∀ l : List Nat, Reps K H (l.map fun k => D.int (a + (k : Nat))) (l.map fun k => V.int (a + (k : Nat)))
  | [] => .nil
  | n :: l => .cons (.int _) (reps_rng a l)
theorem dl_listRg1 {a : Expr} {ta : DTE} {p p2 pos pos2 : Pos} (hc : X.calm = true) (hg : Gl X "list") (hm : X.mg "list" = none) (hg2 : Gl X "range") (hm2 : X.mg "range" = none) (ha : DE B X a ta)
    (na : starEach [a] X.env = (false, eval a X.env) :: starEach [] X.env := by rfl) (ne : starEach [Expr.Call (.Name "range" p2) [a] [] pos2] X.env = (false, eval (.Call (.Name "range" p2) [a] [] pos2) X.env) :: starEach [] X.env := by rfl) :
    DL B X (.Call (.Name "list" p) [.Call (.Name "range" p2) [a] [] pos2] [] pos) (fun ρ m q => dRg1 ta q ρ m) :=
  pe_imp (pe_listRg hc hg hm (prg_1 hg2 hm2 ha na) ne) fun σ H Q ⟨ρ, m, q, p, h, post⟩ => ⟨ρ, m, _, p, h, fun d m1 v H1 h1 r1 s1 t1 => by
    cases d with
    | int n =>
      cases r1
      obtain ⟨ok, h1⟩ := h1
      refine ⟨n, rfl, ok, fun l hl => PostL.lst (PostL.next post t1) h1 hl ?_ s1⟩
      rw [rgV_eq, Int.sub_zero]
      exact reps_rng 0 _
    | _ => exact (show False from h1).elim⟩
theorem de_tupRg1 {a : Expr} {ta : DTE} {p p2 pos pos2 : Pos} (hc : X.calm = true) (hg : Gl X "tuple") (hm : X.mg "tuple" = none) (hg2 : Gl X "range") (hm2 : X.mg "range" = none) (ha : DE B X a ta)
    (na : starEach [a] X.env = (false, eval a X.env) :: starEach [] X.env := by rfl) (ne : starEach [Expr.Call (.Name "range" p2) [a] [] pos2] X.env = (false, eval (.Call (.Name "range" p2) [a] [] pos2) X.env) :: starEach [] X.env := by rfl) :
    DE B X (.Call (.Name "tuple" p) [.Call (.Name "range" p2) [a] [] pos2] [] pos) (fun ρ m q => dRg1 ta (fun ds m' => q (.tup ds) m') ρ m) :=
  pe_imp (pe_tupRg hc hg hm (prg_1 hg2 hm2 ha na) ne) fun σ H Q ⟨ρ, m, q, p, h, post⟩ => ⟨ρ, m, _, p, h, fun d m1 v H1 h1 r1 s1 t1 => by
    cases d with
    | int n =>
      cases r1
      obtain ⟨ok, h1⟩ := h1
      refine ⟨n, rfl, ok, fun l hl => ?_⟩
      rw [rgV_eq, Int.sub_zero]
      exact post _ m1 _ _ h1 (.tup upd_same ((reps_rng 0 _).mono (upd_new hl))) (s1.alloc hl) (t1.trans (Step.alloc hl))
    | _ => exact (show False from h1).elim⟩
/-- == of two lists just made -/
def eqLs (xs ys : List D) (m : Mem) (q : Bool → Prop) : Prop := match pyDs m xs, pyDs m ys with
  | some a, some b => SeqAt.shaped (.list a) = true ∧ SeqAt.shaped (.list b) = true ∧ q (PyData.eqvAll a b)
  | _, _ => False
def dEqNN (neg : Bool) (ta tb : DTL) : DTE := fun ρ m q => ta ρ m fun xs m1 => tb ρ m1 fun ys m2 => eqLs xs ys m2 fun b => q (.bl (if neg then !b else b)) m2
theorem eqNN_lift {K : PySem.W.Frag} {ta tb : DTL} : ∀ σ H Q, upE K B (dEqNN false ta tb) σ H Q → tOp (rEqD K) (upL K B ta) (upL K B tb) σ H Q :=
  fun σ H Q ⟨ρ, m, q, p, h, post⟩ => ⟨ρ, m, _, p, h, fun xs m1 a va H1 h1 ha ra na h0a s1 t1 => ⟨ρ, m1, _, p.next s1 t1, h1, fun ys m2 b vb H2 h2 hb rb nb h0b s2 t2 => by
    unfold eqLs at h2
    split at h2
    · rename_i pa pb e1 e2
      obtain ⟨z1, z2, h2⟩ := h2
      exact ⟨.list pa, .list pb, .lst (SqL.of (t2.keep a _ na ha)) (pyWs_ok (pyA_ok s2 3) (ra.mono t2.ext) e1), .lst (SqL.of hb) (pyWs_ok (pyA_ok s2 3) rb e2), z1, z2, post _ m2 _ H2 h2 (.bl _) s2 (t1.trans t2)⟩
    · exact h2.elim⟩⟩
theorem neNN_lift {K : PySem.W.Frag} {ta tb : DTL} : ∀ σ H Q, upE K B (dEqNN true ta tb) σ H Q → tOp (rNeD K) (upL K B ta) (upL K B tb) σ H Q :=
  fun σ H Q ⟨ρ, m, q, p, h, post⟩ => ⟨ρ, m, _, p, h, fun xs m1 a va H1 h1 ha ra na h0a s1 t1 => ⟨ρ, m1, _, p.next s1 t1, h1, fun ys m2 b vb H2 h2 hb rb nb h0b s2 t2 => by
    unfold eqLs at h2
    split at h2
    · rename_i pa pb e1 e2
      obtain ⟨z1, z2, h2⟩ := h2
      exact ⟨.list pa, .list pb, .lst (SqL.of (t2.keep a _ na ha)) (pyWs_ok (pyA_ok s2 3) (ra.mono t2.ext) e1), .lst (SqL.of hb) (pyWs_ok (pyA_ok s2 3) rb e2), z1, z2, post _ m2 _ H2 h2 (.bl _) s2 (t1.trans t2)⟩
    · exact h2.elim⟩⟩
theorem de_eqNN {a b : Expr} {ta tb : DTL} (hu : X.A.units + 64 < cLine) (ha : DL B X a ta) (hb : DL B X b tb) : DE B X (.Compare a [.Eq] [b] pos) (dEqNN false ta tb) := pe_imp (pe_cmpR (op_eqD hu) ha hb (nomark _)) eqNN_lift
theorem de_neNN {a b : Expr} {ta tb : DTL} (hu : X.A.units + 64 < cLine) (ha : DL B X a ta) (hb : DL B X b tb) : DE B X (.Compare a [.NotEq] [b] pos) (dEqNN true ta tb) := pe_imp (pe_cmpR (op_neD hu) ha hb (nomark _)) neNN_lift
theorem dt_eqNN {a b : Expr} {ta tb : DTL} (hu : X.A.units + 64 < cLine) (ha : DL B X a ta) (hb : DL B X b tb) : DT B X (.Compare a [.Eq] [b] pos) (dTest (dEqNN false ta tb)) := pt_imp (pt_cmpR (op_eqD hu) ha hb (nomark _)) (test_lift eqNN_lift)
theorem dt_neNN {a b : Expr} {ta tb : DTL} (hu : X.A.units + 64 < cLine) (ha : DL B X a ta) (hb : DL B X b tb) : DT B X (.Compare a [.NotEq] [b] pos) (dTest (dEqNN true ta tb)) := pt_imp (pt_cmpR (op_neD hu) ha hb (nomark _)) (test_lift neNN_lift)
/-- x == [], x != [] of a list -/
def dNil? (neg : Bool) (ta : DTE) : DTE := fun ρ m q => ta ρ m fun d m1 => match itemsL m1 d with
  | some xs => (∃ ps, pyDs m1 xs = some ps ∧ SeqAt.shaped (.list ps) = true) ∧ q (.bl (if neg then !xs.isEmpty else xs.isEmpty)) m1
  | none => False
theorem eqvAll_nil : ∀ {xs : List D} {ps : List PyData} {f : Addr → Option PyData}, pyWs f xs = some ps → PyData.eqvAll ps [] = xs.isEmpty
  | [], _, _, e => by cases e; rfl
  | d :: ds, _, f, e => by
    unfold pyWs at e
    split at e
    · cases e; rfl
    · cases e
theorem nil_lift {K : PySem.W.Frag} {ta : DTE} : ∀ σ H Q, upE K B (dNil? false ta) σ H Q → tOp (rEqD K) (upE K B ta) (tLst tNil) σ H Q :=
  fun σ H Q ⟨ρ, m, q, p, h, post⟩ => ⟨ρ, m, _, p, h, fun d m1 v H1 h1 r1 s1 t1 => ⟨Nat.zero_le _, fun b hb => by
    split at h1
    · rename_i xs ex
      obtain ⟨⟨ps, e1, z1⟩, h1⟩ := h1
      obtain ⟨a, vs, rfl, hs, rr⟩ := s1.sq r1 ex
      have s2 : Sim K (upd H1 b (.lst [])) m1 := s1.alloc hb
      obtain ⟨a', vs', ea, hs', rr'⟩ := s2.sq (r1.mono (upd_new hb)) ex
      cases ea
      refine ⟨.list ps, .list [], .lst hs' (pyWs_ok (pyA_ok s2 3) rr' e1), .lst (SqL.of upd_same) .nil, z1, by decide, ?_⟩
      show Q (.bl (PyData.eqv (.list ps) (.list []))) _
      rw [show PyData.eqv (.list ps) (.list []) = xs.isEmpty by rw [PyData.eqv]; exact eqvAll_nil e1]
      exact post _ m1 _ _ h1 (.bl _) s2 (t1.trans (Step.alloc hb))
    · exact h1.elim⟩⟩
theorem nnil_lift {K : PySem.W.Frag} {ta : DTE} : ∀ σ H Q, upE K B (dNil? true ta) σ H Q → tOp (rNeD K) (upE K B ta) (tLst tNil) σ H Q :=
  fun σ H Q ⟨ρ, m, q, p, h, post⟩ => ⟨ρ, m, _, p, h, fun d m1 v H1 h1 r1 s1 t1 => ⟨Nat.zero_le _, fun b hb => by
    split at h1
    · rename_i xs ex
      obtain ⟨⟨ps, e1, z1⟩, h1⟩ := h1
      have s2 : Sim K (upd H1 b (.lst [])) m1 := s1.alloc hb
      obtain ⟨a', vs', ea, hs', rr'⟩ := s2.sq (r1.mono (upd_new hb)) ex
      subst ea
      refine ⟨.list ps, .list [], .lst hs' (pyWs_ok (pyA_ok s2 3) rr' e1), .lst (SqL.of upd_same) .nil, z1, by decide, ?_⟩
      show Q (.bl (!PyData.eqv (.list ps) (.list []))) _
      rw [show PyData.eqv (.list ps) (.list []) = xs.isEmpty by rw [PyData.eqv]; exact eqvAll_nil e1]
      exact post _ m1 _ _ h1 (.bl _) s2 (t1.trans (Step.alloc hb))
    · exact h1.elim⟩⟩
theorem dt_eqNil {a : Expr} {ta : DTE} {p2 : Pos} (hu : X.A.units + 64 < cLine) (ha : DE B X a ta) : DT B X (.Compare a [.Eq] [.List [] p2] pos) (dTest (dNil? false ta)) := pt_imp (pt_cmpR (op_eqD hu) ha (pe_lst pa_nil) (nomark _)) (test_lift nil_lift)
theorem dt_neNil {a : Expr} {ta : DTE} {p2 : Pos} (hu : X.A.units + 64 < cLine) (ha : DE B X a ta) : DT B X (.Compare a [.NotEq] [.List [] p2] pos) (dTest (dNil? true ta)) := pt_imp (pt_cmpR (op_neD hu) ha (pe_lst pa_nil) (nomark _)) (test_lift nnil_lift)
theorem de_eqNil {a : Expr} {ta : DTE} {p2 : Pos} (hu : X.A.units + 64 < cLine) (ha : DE B X a ta) : DE B X (.Compare a [.Eq] [.List [] p2] pos) (dNil? false ta) := pe_imp (pe_cmpR (op_eqD hu) ha (pe_lst pa_nil) (nomark _)) nil_lift
theorem de_neNil {a : Expr} {ta : DTE} {p2 : Pos} (hu : X.A.units + 64 < cLine) (ha : DE B X a ta) : DE B X (.Compare a [.NotEq] [.List [] p2] pos) (dNil? true ta) := pe_imp (pe_cmpR (op_neD hu) ha (pe_lst pa_nil) (nomark _)) nnil_lift
end
end L2.Lh

namespace L2.Lh
open PySem PySem.Spec PyProof.Rows

/-! ### defs -/
/-- what is wanted of an error: its class, the slots, the memory -/
abbrev DWX := Value → DEnv → Mem → Prop
def upW (K : PySem.W.Frag) (B : Bs) (we : DWX) : WX := fun cls d σ H => d = none ∧ ∃ ρ m, Pre K B ρ m σ H ∧ we cls ρ m
abbrev DSp := List D → Mem → DQ → (Value → Mem → Prop) → Prop
def upSp (K : PySem.W.Frag) (sp : DSp) : Sp := fun vs H Q E => ∃ ds m q qe, Reps K H ds vs ∧ Sim K H m ∧ sp ds m q qe ∧ PostE K H m q Q ∧ ∀ cls m' H', qe cls m' → Sim K H' m' → Step H m H' m' → E cls none H'
abbrev FnD (P : Program) (w : World) (K : PySem.W.Frag) (mg : Str → Option Value) (base : Heap) (k : Nat) (f : Addr) (fd : FuncData) (ps : List Str) (sp : DSp) : Prop := FnOk P w K mg base (L2.CX P w) k f fd ps (upSp K sp)
def sp0 (f : Mem → DQ → (Value → Mem → Prop) → Prop) : DSp := fun ds m q qe => match ds with | [] => f m q qe | _ => False
def sp1 (f : D → Mem → DQ → (Value → Mem → Prop) → Prop) : DSp := fun ds m q qe => match ds with | [a] => f a m q qe | _ => False
def sp2 (f : D → D → Mem → DQ → (Value → Mem → Prop) → Prop) : DSp := fun ds m q qe => match ds with | [a, b] => f a b m q qe | _ => False
def sp3 (f : D → D → D → Mem → DQ → (Value → Mem → Prop) → Prop) : DSp := fun ds m q qe => match ds with | [a, b, c] => f a b c m q qe | _ => False
def sp4 (f : D → D → D → D → Mem → DQ → (Value → Mem → Prop) → Prop) : DSp := fun ds m q qe => match ds with | [a, b, c, d] => f a b c d m q qe | _ => False
theorem sp0_at {f} {ds : List D} {m q qe} (h : sp0 f ds m q qe) : ds = [] ∧ f m q qe := by
  cases ds with
  | nil => exact ⟨rfl, h⟩
  | cons _ _ => exact (show False from h).elim
theorem sp1_at {f} {ds : List D} {m q qe} (h : sp1 f ds m q qe) : ∃ a, ds = [a] ∧ f a m q qe := by
  match ds, h with
  | [a], h => exact ⟨a, rfl, h⟩
theorem sp2_at {f} {ds : List D} {m q qe} (h : sp2 f ds m q qe) : ∃ a b, ds = [a, b] ∧ f a b m q qe := by
  match ds, h with
  | [a, b], h => exact ⟨a, b, rfl, h⟩
theorem sp3_at {f} {ds : List D} {m q qe} (h : sp3 f ds m q qe) : ∃ a b c, ds = [a, b, c] ∧ f a b c m q qe := by
  match ds, h with
  | [a, b, c], h => exact ⟨a, b, c, rfl, h⟩
theorem sp4_at {f} {ds : List D} {m q qe} (h : sp4 f ds m q qe) : ∃ a b c d, ds = [a, b, c, d] ∧ f a b c d m q qe := by
  match ds, h with
  | [a, b, c, d], h => exact ⟨a, b, c, d, rfl, h⟩
theorem sp0_len {f} {ds : List D} {m q qe} (h : sp0 f ds m q qe) : ds.length = 0 := by rw [(sp0_at h).1]; rfl
theorem sp1_len {f} {ds : List D} {m q qe} (h : sp1 f ds m q qe) : ds.length = 1 := by obtain ⟨a, e, _⟩ := sp1_at h; rw [e]; rfl
theorem sp2_len {f} {ds : List D} {m q qe} (h : sp2 f ds m q qe) : ds.length = 2 := by obtain ⟨a, b, e, _⟩ := sp2_at h; rw [e]; rfl
theorem sp3_len {f} {ds : List D} {m q qe} (h : sp3 f ds m q qe) : ds.length = 3 := by obtain ⟨a, b, c, e, _⟩ := sp3_at h; rw [e]; rfl
theorem sp4_len {f} {ds : List D} {m q qe} (h : sp4 f ds m q qe) : ds.length = 4 := by obtain ⟨a, b, c, d, e, _⟩ := sp4_at h; rw [e]; rfl

def startD (N : List Str) (ds : List D) : DEnv := ds.map some ++ List.replicate (N.length - ds.length) none
theorem start_ok {K : PySem.W.Frag} {H : Hp} {N : List Str} {ds : List D} {vs : List V} (r : Reps K H ds vs) : RepEnv K H (startD N ds) (L2.start N vs) := by
  unfold startD L2.start
  rw [r.length]
  have gen : ∀ {ds : List D} {vs : List V} {a : DEnv} {b : St}, Reps K H ds vs → RepEnv K H a b → RepEnv K H (ds.map some ++ a) (vs.map some ++ b) := by
    intro ds vs a b r q
    induction ds generalizing vs with
    | nil => cases r; exact q
    | cons d ds ih =>
      cases r with
      | cons r1 r2 => exact .cons r1 (ih r2)
  refine gen r ?_
  generalize N.length - vs.length = n
  induction n with
  | zero => exact .nil
  | succ n ih => exact .cons trivial ih
/-- a def's ends: what is not asked is forgotten -/
def defEnds (q : DQ) : DEnds := { nx := fun _ m => ∃ m' : Mem, m'.le m ∧ q .non m', rt := fun d m => ∃ m' : Mem, m'.le m ∧ q d m' }
section
variable {P : Program} {w : World} {K : PySem.W.Frag} {mg : Str → Option Value} {base : Heap}
theorem fnD_of {x qual : Str} {st : Stmt} {f : Addr} {fd : FuncData} {N ps : List Str} {k : Nat} {sp : DSp} (F : Fun K x qual st f fd) (S : FnScope N ps (defScope st)) (len : ∀ {ds m q qe}, sp ds m q qe → ds.length = ps.length)
    (body : ∀ (cdv : Value) (A : Around) (outer : List Env) (s : Shared) (H : Hp) (E : XK) (B : Bs) (qe : Value → Mem → Prop),
      Room k (A.deeper (envOfC qual (defScope st) s.heap.objs.size f cdv)) →
      Takes (cxOf (L2.CX P w) P w K mg base N qual (defScope st) f cdv A outer s H E) (upW K B fun cls _ m => qe cls m) →
      PassesOwn (model P w) (cxOf (L2.CX P w) P w K mg base N qual (defScope st) f cdv A outer s H E).A (cxOf (L2.CX P w) P w K mg base N qual (defScope st) f cdv A outer s H E).env (cxOf (L2.CX P w) P w K mg base N qual (defScope st) f cdv A outer s H E).xe →
      ∃ t, DSs B (cxOf (L2.CX P w) P w K mg base N qual (defScope st) f cdv A outer s H E) (defBody st) t ∧ ∀ ds m q, sp ds m q qe → t (defEnds q) (startD N ds) m) : FnD P w K mg base (k + 1) f fd ps sp := by
  refine F.okX S (fun vs H Q E h => ?_) (fun cdv A outer s H vs Q E hr h => ?_)
  · obtain ⟨ds, m, q, qe, r, _, h, _⟩ := h
    rw [← r.length]
    exact len h
  · obtain ⟨ds, m, q, qe, r, sim, h, post, hE⟩ := h
    have tk : Takes (cxOf (L2.CX P w) P w K mg base N qual (defScope st) f cdv A outer s H E) (upW K ⟨H, m⟩ fun cls _ m => qe cls m) :=
      (takes_of (E := E) rfl rfl rfl rfl).imp fun cls d σ H' ⟨e, ρ, m', p, q'⟩ => by
        subst e
        exact hE cls m' H' q' p.sim p.st
    obtain ⟨t, ht, hq⟩ := body cdv A outer s H E ⟨H, m⟩ qe hr tk (passes_of (K := fun e s'' => L2.CX P w outer H s E e s'') rfl)
    refine ⟨_, ht, startD N ds, m, defEnds q, ⟨start_ok r, sim, Step.refl _ _⟩, hq ds m q h, ?_⟩
    exact ⟨fun ρ' m' σ' H' ⟨m2, hle, hq⟩ env s2 st => post .non m2 .non H' hq .non (s2.forget hle) (st.forget hle), fun d m' v H' ⟨m2, hle, hq⟩ rd s2 st => post d m2 v H' hq rd (s2.forget hle) (st.forget hle),
      fun _ _ _ _ z => False.elim z, fun _ _ _ _ z => False.elim z⟩
end

/-! ### calls -/
def dCall (sp : DSp) (we : DWX) (t : DTA) : DTE := fun ρ m q => t ρ m fun ds m1 => sp ds m1 q fun cls m2 => we cls ρ m2
section
variable {X : Cx} {B : Bs} {k : Nat} {f : Addr} {fd : FuncData} {ps : List Str} {sp : DSp} {we : DWX} {x : Str} {p pos : Pos} {e : Expr} {es : List Expr} {t : DTA}
theorem call_lift {K : PySem.W.Frag} : ∀ σ H Q, upE K B (dCall sp we t) σ H Q → tCallS (upSp K sp) (WE (upW K B we)) (upA K B t) σ H Q :=
  fun σ H Q ⟨ρ, m, q, p, h, post⟩ => ⟨ρ, m, _, p, h, fun ds m1 vs H1 h1 r1 s1 t1 => ⟨ds, m1, q, _, r1, s1, h1, fun d2 m2 v2 H2 h2 r2 s2 t2 => post d2 m2 v2 H2 h2 r2 s2 (t1.trans t2),
    fun cls m2 H2 hq s2 t2 => ⟨rfl, ρ, m2, p.next s2 (t1.trans t2), hq⟩⟩⟩
theorem de_call (F : FnD X.prog X.w X.K X.mg X.base k f fd ps sp) (hr : Room k X.A) (hg : Gl X x) (hm : X.mg x = some (.ref f)) (hk : PySem.W.keepIn X.K (.ref f) = true) (hb : Binds X.K fd ps []) (tk : Takes X (upW X.K B we))
    (ha : DA B X (e :: es) t) (hdb : (x == ("__debug__" : Str)) = false := by decide) (he : starEach (e :: es) X.env = (false, eval e X.env) :: starEach es X.env := by rfl) (hpl : (backTo pos (starEach es X.env)).any (·.1) = false := by rfl) :
    DE B X (.Call (.Name x p) (e :: es) [] pos) (dCall sp we t) := pe_imp (pe_callS F hr hg hm hk hb (fun σ => passAt tk σ) ha hdb he hpl) call_lift
/-- within a comprehension nothing is raised -/
abbrev we0 : DWX := fun _ _ _ => False
theorem takesN {K : PySem.W.Frag} : Takes X (upW K B we0) := fun _ _ ⟨_, _, _, _, _, _, _, _, _, _, _, _, _, _, _, _, _, _, _, _, z⟩ => False.elim z
/-- raise -/
def dRaise (we : DWX) (C : Addr) : DTS := fun _ ρ m => we (.ref C) ρ m
theorem ds_raise {C : Addr} (hc : X.calm = true) (tk : Takes X (upW X.K B we)) (he : PMk X e (fun _ H Q => Q (.ref C) none H)) : DS B X (.Raise (some e) none pos) (dRaise we C) :=
  ps_imp (ps_raise hc tk he) fun F σ H ⟨ρ, m, E, p, h, o⟩ => ⟨rfl, ρ, m, p, h⟩
def dNever : DTS := fun _ _ _ => False
theorem ds_never {st : Stmt} : DS B X st dNever := ⟨fun _ _ _ _ _ _ ⟨_, _, _, _, z, _⟩ => z.elim⟩
end

/-! ### the law's own end -/
theorem script_rep {K : PySem.W.Frag} {H : Hp} {a : Addr} {ns : List Int} (hO : Only H) (hS : SqL K H a (ns.map V.int)) : Rep K H (.rol (ns.map D.int)) (.ref a) := by
  refine .rol ?_ (Reps.ints ns)
  rcases hS with (h | ⟨o, h⟩) | h
  · rcases hO a with z | ⟨o, xs, z⟩
    · rw [z] at h; cases h
    · rw [z] at h; cases h
  · exact .inl ⟨o, h⟩
  · exact .inr h
def spLawD (n : Nat) : DSp := sp1 fun d m q qe => ∃ ns : List Int, d = .rol (ns.map D.int) ∧ ns.length ≤ n ∧ ∀ m, q (.bl true) m
theorem law_sp {K : PySem.W.Frag} {n : Nat} {H : Hp} {a : Addr} {ns : List Int} (hl : ns.length ≤ n) (hO : Only H) (hS : SqL K H a (ns.map V.int)) : upSp K (spLawD n) [.ref a] H (fun v _ => v = .bl true) fun _ _ _ => False :=
  ⟨[.rol (ns.map D.int)], fun _ => none, fun d _ => d = .bl true, fun _ _ => False, .cons (script_rep hO hS) .nil, (fun _ _ e => nomatch e), ⟨ns, rfl, hl, fun _ => rfl⟩, fun d m' v H' e r _ _ => by subst e; cases r; rfl, fun _ _ _ z => z.elim⟩
theorem law_cx {P : Program} {w : World} {H : Hp} {s : Shared} {e : Value} {s' : Shared} (h : L2.CX P w [] H s (fun _ _ _ => False) e s') : False := by
  obtain ⟨_, _, _, _, _, _, _, _, _, _, _, _, z⟩ := h
  exact z
end L2.Lh
namespace L2.Lh
open PySem PySem.Spec PyProof.Rows
/-- a new list, remembered -/
def dNew (t : DTL) : DTE := fun ρ m q => t ρ m fun ds m' => ∀ a, m' a = none → q (.ref a) (m'.set a (.lst ds))
theorem de_new {X : Cx} {B : Bs} {e : Expr} {t : DTL} (h : DL B X e t) : DE B X e (dNew t) := de_dl h
def dListRg (ta : DTE) : DTL := fun ρ m q => dRg1 ta q ρ m
def dTupRg (ta : DTE) : DTE := fun ρ m q => dRg1 ta (fun ds m' => q (.tup ds) m') ρ m
/-- a def of the text as it is called -/
structure DefAt (P : Program) (w : World) (K : PySem.W.Frag) (mg : Str → Option Value) (base : Heap) (k : Nat) (x : Str) (ps : List Str) (sp : DSp) where
  f : Addr
  fd : FuncData
  ok : FnD P w K mg base k f fd ps sp
  g : mg x = some (.ref f)
  kp : PySem.W.keepIn K (.ref f) = true
  b : Binds K fd ps []
def GI (mg : Str → Option Value) (x : Str) (i : Int) : Prop := ∃ t, mg x = some (.int i t)
section
variable {X : Cx} {B : Bs} {k : Nat} {ps : List Str} {sp : DSp} {we : DWX} {x : Str} {p pos : Pos} {e : Expr} {es : List Expr} {t : DTA}
theorem de_callD (d : DefAt X.prog X.w X.K X.mg X.base k x ps sp) (hr : Room k X.A) (hg : Gl X x) (tk : Takes X (upW X.K B we)) (ha : DA B X (e :: es) t) (hdb : (x == ("__debug__" : Str)) = false := by decide)
    (he : starEach (e :: es) X.env = (false, eval e X.env) :: starEach es X.env := by rfl) (hpl : (backTo pos (starEach es X.env)).any (·.1) = false := by rfl) : DE B X (.Call (.Name x p) (e :: es) [] pos) (dCall sp we t) :=
  de_call d.ok hr hg d.g d.kp d.b tk ha hdb he hpl
theorem de_gi {x : Str} {i : Int} {pos : Pos} (h : GI X.mg x i) (hg : Gl X x) (hd : (x == ("__debug__" : Str)) = false := by decide) : DE B X (.Name x pos) (dC (.int i)) := let ⟨_, h⟩ := h; de_gint hg h hd
end
end L2.Lh

/-! plain lemmas over readings -/
namespace L2.Lh
open PySem PySem.Spec PyProof.Rows

theorem defEnds_here {q : DQ} {d : D} {m : Mem} (h : q d m) : (defEnds q).rt d m := ⟨m, Mem.le_refl m, h⟩
theorem defEnds_le {q : DQ} {d : D} {m m' : Mem} (l : m'.le m) (h : q d m') : (defEnds q).rt d m := ⟨m', l, h⟩
def rngI (n : Nat) : List Int := (List.range n).map fun (k : Nat) => ((k : Nat) : Int)
theorem rngI_length (n : Nat) : (rngI n).length = n := by simp [rngI]
theorem rngD0 (n : Nat) : rngD 0 n = (rngI n).map D.int := by
  simp [rngD, rngI]
theorem mem_rngI {n : Nat} {i : Int} : i ∈ rngI n ↔ 0 ≤ i ∧ i < n := by
  unfold rngI
  rw [List.mem_map]
  constructor
  · rintro ⟨k, hk, rfl⟩
    have := List.mem_range.mp hk
    omega
  · intro h
    exact ⟨i.toNat, List.mem_range.mpr (by omega), by omega⟩
theorem rngI_sorted (n : Nat) : (rngI n).Pairwise (· ≤ ·) := by
  unfold rngI
  rw [List.pairwise_map]
  exact List.Pairwise.imp (fun h => by omega) (List.pairwise_lt_range (n := n))
theorem sorted_one {xs ys : List Int} (h : xs.Perm ys) (h1 : xs.Pairwise (· ≤ ·)) (h2 : ys.Pairwise (· ≤ ·)) : xs = ys :=
  h.eq_of_pairwise (fun _ _ _ _ a b => Int.le_antisymm a b) h1 h2
theorem sized {n : Nat} (h : n ≤ 100000) : n ≤ sizeLine := by rw [sizeLine_eq]; omega
theorem sized' {n : Nat} (h : n ≤ 100000) : n < sizeLine := by rw [sizeLine_eq]; omega

/-- known things -/
def kn (m : Mem) (d : D) : Prop := (tyS m d).isSome = true

/-- a comprehension whose element is a function of the item -/
theorem comp_map {chk : Mem → Prop} {i : Nat} {te : DTE} {ρ : DEnv} {q : List D → Mem → Prop} (f : D → D) {m : Mem} (hc : chk m) : ∀ (items acc : List D),
    (∀ d ∈ items, ∀ K : DQ, K (f d) m → te (ρ.set i (some d)) m K) → acc.length + items.length ≤ sizeLine → q (acc ++ items.map f) m → compR chk (gNm i) dYes te ρ q items acc m
  | [], acc, _, _, h => by
    rw [List.map_nil, List.append_nil] at h
    exact ⟨hc, h⟩
  | d :: r, acc, hs, hz, h => by
    refine ⟨hc, ?_⟩
    show (if true = true then te (ρ.set i (some d)) m (fun y m4 => acc.length < sizeLine ∧ compR chk (gNm i) dYes te ρ q r (acc ++ [y]) m4) else compR chk (gNm i) dYes te ρ q r acc m)
    rw [if_pos rfl]
    refine hs d List.mem_cons_self _ ⟨by rw [List.length_cons] at hz; omega, comp_map f hc r (acc ++ [f d]) (fun e he => hs e (List.mem_cons_of_mem _ he)) (by rw [List.length_append, List.length_singleton]; rw [List.length_cons] at hz; omega) ?_⟩
    rw [List.append_assoc]
    exact h
/-- .. with a test -/
theorem comp_filter {chk : Mem → Prop} {i : Nat} {tt : DTT} {te : DTE} {ρ : DEnv} {q : List D → Mem → Prop} (p : D → Bool) (f : D → D) {m : Mem} (hc : chk m) : ∀ (items acc : List D),
    (∀ d ∈ items, ∀ K : Bool → Mem → Prop, K (p d) m → tt (ρ.set i (some d)) m K) → (∀ d ∈ items, p d = true → ∀ K : DQ, K (f d) m → te (ρ.set i (some d)) m K) → acc.length + items.length ≤ sizeLine → q (acc ++ (items.filter p).map f) m → compR chk (gNm i) tt te ρ q items acc m
  | [], acc, _, _, _, h => by
    rw [List.filter_nil, List.map_nil, List.append_nil] at h
    exact ⟨hc, h⟩
  | d :: r, acc, ht, hs, hz, h => by
    refine ⟨hc, ?_⟩
    show tt (ρ.set i (some d)) m fun b m3 => if b = true then te (ρ.set i (some d)) m3 (fun y m4 => acc.length < sizeLine ∧ compR chk (gNm i) tt te ρ q r (acc ++ [y]) m4) else compR chk (gNm i) tt te ρ q r acc m3
    refine ht d List.mem_cons_self _ ?_
    by_cases hp : p d = true
    · rw [if_pos hp]
      refine hs d List.mem_cons_self hp _ ⟨by rw [List.length_cons] at hz; omega, comp_filter p f hc r (acc ++ [f d]) (fun e he => ht e (List.mem_cons_of_mem _ he)) (fun e he => hs e (List.mem_cons_of_mem _ he)) (by rw [List.length_append, List.length_singleton]; rw [List.length_cons] at hz; omega) ?_⟩
      rw [List.filter_cons_of_pos hp, List.map_cons] at h
      rw [List.append_assoc]
      exact h
    · rw [if_neg hp]
      refine comp_filter p f hc r acc (fun e he => ht e (List.mem_cons_of_mem _ he)) (fun e he => hs e (List.mem_cons_of_mem _ he)) (by rw [List.length_cons] at hz; omega) ?_
      rw [List.filter_cons_of_neg hp] at h
      exact h
/-- a loop with a word of its own: the invariant by the items left -/
theorem for_inv {chk : Mem → Prop} {g : DTG} {tb : DTS} {E : DEnds} (P : List D → DEnv → Mem → Prop) (hc : ∀ r ρ m, P r ρ m → chk m) (hn : ∀ ρ m, P [] ρ m → E.nx ρ m)
    (hs : ∀ d r ρ m, P (d :: r) ρ m → ∀ N : DEnv → Mem → Prop, (∀ ρ' m', P r ρ' m' → N ρ' m') → g d ρ m fun ρ2 m2 => tb { E with nx := dn N, ct := dn N, bk := E.nx } ρ2 m2) :
    ∀ (items : List D) ρ m, P items ρ m → forR chk g tb E items ρ m
  | [], ρ, m, h => ⟨hc _ _ _ h, hn ρ m h⟩
  | d :: r, ρ, m, h => ⟨hc _ _ _ h, hs d r ρ m h _ fun ρ' m' h' => for_inv P hc hn hs r ρ' m' h'⟩
theorem dn_here {N : DEnv → Mem → Prop} {ρ : DEnv} {m : Mem} (h : N ρ m) : dn N ρ m := ⟨m, Mem.le_refl m, h⟩
theorem dn_le {N : DEnv → Mem → Prop} {ρ : DEnv} {m m' : Mem} (l : m'.le m) (h : N ρ m') : dn N ρ m := ⟨m', l, h⟩

/-! ### ints as data -/
theorem pyWs_ints (f : Addr → Option PyData) : ∀ ns : List Int, pyWs f (ns.map D.int) = some (ns.map PyData.int)
  | [] => rfl
  | n :: ns => by simp only [List.map_cons, pyWs, pyW, pyWs_ints f ns]
theorem canLay_ints : ∀ ns : List Int, PyData.canLayAll0 (ns.map PyData.int) = true
  | [] => by simp [PyData.canLayAll0]
  | n :: ns => by simp [PyData.canLayAll0, PyData.canLay0, canLay_ints ns]
theorem depth_ints : ∀ ns : List Int, PyData.depthAll (ns.map PyData.int) = 0
  | [] => by simp [PyData.depthAll]
  | n :: ns => by simp [PyData.depthAll, PyData.depth, depth_ints ns]
theorem shaped_listInts (ns : List Int) : SeqAt.shaped (.list (ns.map PyData.int)) = true := by
  simp [SeqAt.shaped, PyData.canLay0, PyData.depth, canLay_ints, depth_ints]
theorem shaped_tupInts (ns : List Int) : SeqAt.shaped (.tuple (ns.map PyData.int)) = true := by
  simp [SeqAt.shaped, PyData.canLay0, PyData.depth, canLay_ints, depth_ints]
theorem eqvAll_ints : ∀ (ns ms : List Int), PyData.eqvAll (ns.map PyData.int) (ms.map PyData.int) = decide (ns = ms)
  | [], [] => by simp [PyData.eqvAll]
  | [], _ :: _ => by simp [PyData.eqvAll]
  | _ :: _, [] => by simp [PyData.eqvAll]
  | n :: ns, m :: ms => by
    rw [List.map_cons, List.map_cons, PyData.eqvAll, eqvAll_ints ns ms]
    by_cases h : n = m
    · subst h
      simp [PyData.eqv]
    · simp [PyData.eqv, h]
theorem eqLs_ints {ns ms : List Int} {m : Mem} {q : Bool → Prop} (h : q (decide (ns = ms))) : eqLs (ns.map D.int) (ms.map D.int) m q := by
  unfold eqLs
  rw [show pyDs m (ns.map D.int) = some (ns.map PyData.int) from pyWs_ints _ _, show pyDs m (ms.map D.int) = some (ms.map PyData.int) from pyWs_ints _ _]
  exact ⟨shaped_listInts ns, shaped_listInts ms, by rw [eqvAll_ints]; exact h⟩
/-- the things that make up a list of ints at an address -/
theorem pyD_refInts {m : Mem} {a : Addr} {ns : List Int} (h : m a = some (.lst (ns.map D.int))) : pyD m (.ref a) = some (.list (ns.map PyData.int)) := by
  show pyA m 3 a = _
  unfold pyA
  rw [h]
  show (pyWs (pyA m 2) (ns.map D.int)).map PyData.list = _
  rw [pyWs_ints]
  rfl
theorem nilOk_ints {m : Mem} (ns : List Int) : ∃ ps, pyDs m (ns.map D.int) = some ps ∧ SeqAt.shaped (.list ps) = true := ⟨_, pyWs_ints _ _, shaped_listInts ns⟩

/-! ### turns -/
def isWhole : D → Bool
  | .int _ => true
  | _ => false
def betw (d : D) (i j : Int) : Bool := match d with
  | .int k => decide (i ≤ k) && decide (k ≤ j)
  | _ => false
def isTurnL (ns : List Int) : Bool := decide (2 ≤ ns.length) && decide (ns.length ≤ 4) && decide (ns.Perm (rngI ns.length))
def isTurnD : D → Bool
  | .tup xs => match intsOf xs with
    | some ns => isTurnL ns
    | none => false
  | .ftup xs => match intsOf xs with
    | some ns => isTurnL ns
    | none => false
  | _ => false
theorem intsOf_all {xs : List D} {i j : Int} (h : xs.all (fun d => betw d i j) = true) : ∃ ns, intsOf xs = some ns ∧ ∀ n ∈ ns, i ≤ n ∧ n ≤ j := by
  induction xs with
  | nil => exact ⟨[], rfl, fun _ h => by cases h⟩
  | cons d r ih =>
    rw [List.all_cons, Bool.and_eq_true] at h
    obtain ⟨ns, e, hn⟩ := ih h.2
    cases d with
    | int k =>
      have h1 : i ≤ k ∧ k ≤ j := by simpa [betw] using h.1
      refine ⟨k :: ns, by simp [intsOf, e], fun n hn' => ?_⟩
      rcases List.mem_cons.mp hn' with rfl | z
      · exact h1
      · exact hn n z
    | _ => simp [betw] at h
theorem all_of_ints {ns : List Int} {i j : Int} (h : ∀ n ∈ ns, i ≤ n ∧ n ≤ j) : (ns.map D.int).all (fun d => betw d i j) = true := by
  rw [List.all_eq_true]
  intro d hd
  obtain ⟨n, hn, rfl⟩ := List.mem_map.mp hd
  have := h n hn
  simp [betw, this]
theorem turn_bounds {ns : List Int} (h : isTurnL ns = true) : ∀ n ∈ ns, 0 ≤ n ∧ n < ns.length := by
  intro n hn
  simp only [isTurnL, Bool.and_eq_true, decide_eq_true_eq] at h
  have := h.2.mem_iff.mp hn
  exact mem_rngI.mp this
def sp_is_whole : DSp := sp1 fun d m q _ => kn m d ∧ q (.bl (isWhole d)) m
def sp_is_between : DSp := sp3 fun d l u m q _ => kn m d ∧ ∃ i j, l = .int i ∧ u = .int j ∧ q (.bl (betw d i j)) m
def knT (m : Mem) (d : D) : Prop := match d with
  | .tup xs => ∀ e ∈ xs, kn m e
  | .ftup xs => ∀ e ∈ xs, kn m e
  | d => kn m d
def sp_is_turn : DSp := sp1 fun d m q _ => knT m d ∧ q (.bl (isTurnD d)) m
end L2.Lh

/-! more plain lemmas over readings -/
namespace L2.Lh
open PySem PySem.Spec PyProof.Rows

/-- a comprehension with a word of its own -/
theorem comp_inv {chk : Mem → Prop} {g : DTG} {tt : DTT} {te : DTE} {ρ : DEnv} {q : List D → Mem → Prop} (P : List D → List D → Mem → Prop) (hc : ∀ r acc m, P r acc m → chk m) (hn : ∀ acc m, P [] acc m → q acc m)
    (hs : ∀ d r acc m, P (d :: r) acc m → ∀ N : List D → Mem → Prop, (∀ acc' m', P r acc' m' → N acc' m') → g d ρ m fun ρ2 m2 => tt ρ2 m2 fun b m3 => if b = true then te ρ2 m3 fun y m4 => acc.length < sizeLine ∧ N (acc ++ [y]) m4 else N acc m3) :
    ∀ (items acc : List D) m, P items acc m → compR chk g tt te ρ q items acc m
  | [], acc, m, h => ⟨hc _ _ _ h, hn acc m h⟩
  | d :: r, acc, m, h => ⟨hc _ _ _ h, hs d r acc m h _ fun acc' m' h' => comp_inv P hc hn hs r acc' m' h'⟩
theorem erase_perm : ∀ (l : List Int) (k : Nat) (h : k < l.length), (l[k] :: l.eraseIdx k).Perm l
  | x :: l, 0, _ => by simp
  | x :: l, k + 1, h => by
    simp only [List.getElem_cons_succ, List.eraseIdx_cons_succ]
    exact (List.Perm.swap _ _ _).trans ((erase_perm l k (by simpa using h)).cons x)
theorem pop_perm {l done : List Int} {n : List Int} {k : Nat} {x : Int} (h : (l ++ done).Perm n) (hk : l[k]? = some x) : (l.eraseIdx k ++ (done ++ [x])).Perm n := by
  obtain ⟨hlt, hx⟩ := List.getElem?_eq_some_iff.mp hk
  have h1 : (l[k] :: l.eraseIdx k).Perm l := erase_perm l k hlt
  rw [hx] at h1
  have h2 : (l.eraseIdx k ++ (done ++ [x])).Perm (x :: (l.eraseIdx k ++ done)) := by
    rw [← List.append_assoc]
    exact List.perm_append_comm
  exact h2.trans (((h1.append_right done)).trans h)
theorem seqIx {i : Int} {n : Nat} (h0 : 0 ≤ i) (h1 : i < n) : seqIndex? i n = some i.toNat := by
  unfold seqIndex?
  simp only [show ¬ i < 0 by omega, if_false]
  rw [if_pos (by simp [h0, h1])]
theorem cut_take {α : Type} (xs : List α) {i : Int} (h0 : 0 ≤ i) : cutL xs none (some i) = xs.take i.toNat := by
  unfold cutL
  show (xs.drop 0).take ((if i < 0 then (i + (xs.length : Int)).toNat else min i.toNat xs.length) - 0) = _
  rw [if_neg (by omega), List.drop_zero, Nat.sub_zero]
  rcases Nat.le_total i.toNat xs.length with h | h
  · rw [Nat.min_eq_left h]
  · rw [Nat.min_eq_right h, List.take_length, List.take_of_length_le h]
theorem atI_last {α : Type} (xs : List α) (x : α) : atI (xs ++ [x]) (-1) = some x := by
  unfold atI ixN
  rw [if_neg (by omega), if_pos (by rw [List.length_append, List.length_singleton]; omega)]
  show (xs ++ [x])[((-1 : Int) + ((xs ++ [x]).length : Nat)).toNat]? = some x
  rw [List.length_append, List.length_singleton, show ((-1 : Int) + ((xs.length + 1 : Nat) : Int)).toNat = xs.length by omega]
  simp
theorem rngD_length (lo : Int) (n : Nat) : (rngD lo n).length = n := by simp [rngD]
theorem eqv_ints (ns ms : List Int) : PyData.eqv (.list (ns.map PyData.int)) (.list (ms.map PyData.int)) = decide (ns = ms) := by
  rw [PyData.eqv, eqvAll_ints]
theorem cmulR (i : Int) {j : Int} (h : -(2 ^ 64) < j ∧ j < 2 ^ 64) : CMul i j := .inr h
theorem cmulL {i : Int} (j : Int) (h : -(2 ^ 64) < i ∧ i < 2 ^ 64) : CMul i j := .inl h
theorem cpow18 : CPow 10 18 := by refine ⟨by decide, by decide, by decide⟩
theorem Mem.set_none {m : Mem} {a b : Addr} {o : MO} (h : (m.set a o) b = none) : m b = none ∧ b ≠ a := by
  by_cases e : b = a
  · subst e; rw [Mem.set_same] at h; cases h
  · rw [Mem.set_ne e] at h; exact ⟨h, e⟩
theorem Mem.live_ne {m : Mem} {a b : Addr} {o : MO} (h : m a = some o) (h' : m b = none) : a ≠ b := fun e => by subst e; rw [h] at h'; cases h'
end L2.Lh

/-! defs under which no repr is under way; repr; keywords -/
namespace L2.Lh
open PySem PySem.Spec PyProof.Rows

/-- as FnOk, where no repr is under way -/
structure FnG (P : Program) (w : World) (K : PySem.W.Frag) (mg : Str → Option Value) (base : Heap) (k : Nat) (f : Addr) (fd : FuncData) (ps : List Str) (sp : Sp) : Prop where
  len : ∀ vs H Q E, sp vs H Q E → vs.length = ps.length
  run : ∀ (A : Around) (outer : List Env) (s : Shared) (H : Hp) (args : Args) (us : List Value) (vs : List V) (Q : VK) (E : XK), A.guards = some [] → Room k A → Env0 P w K mg base A outer s H →
    BindsTo s fd args (ps.zip us) → Vals vs us → sp vs H Q E → codeAny (model P w) A (.call (.ref f) args) (CR (L2.CX P w) outer P w H s Q E) s
theorem FnG.of {P : Program} {w : World} {K : PySem.W.Frag} {mg : Str → Option Value} {base : Heap} {k : Nat} {f : Addr} {fd : FuncData} {ps : List Str} {sp : Sp} (F : FnOk P w K mg base (L2.CX P w) k f fd ps sp) : FnG P w K mg base k f fd ps sp :=
  ⟨F.len, fun A outer s H args us vs Q E _ hr e b r h => F.run A outer s H args us vs Q E hr e b r h⟩
section
variable {P : Program} {w : World} {K : PySem.W.Frag} {mg : Str → Option Value} {base : Heap}
/-- a def by its body -/
theorem fnG_body {x qual : Str} {st : Stmt} {f : Addr} {fd : FuncData} {N ps : List Str} {k : Nat} {sp : Sp} (F : Fun K x qual st f fd) (S : FnScope N ps (defScope st)) (len : ∀ vs H Q E, sp vs H Q E → vs.length = ps.length)
    (body : ∀ (cdv : Value) (A : Around) (outer : List Env) (s : Shared) (H : Hp) (vs : List V) (Q : VK) (E : XK), A.guards = some [] → Room k (A.deeper (envOfC qual (defScope st) s.heap.objs.size f cdv)) → sp vs H Q E →
      ∃ t, PSs (cxOf (L2.CX P w) P w K mg base N qual (defScope st) f cdv A outer s H E) (defBody st) t ∧ t { nx := fun _ H' => Q .non H', rt := Q } (start N vs) H) : FnG P w K mg base (k + 1) f fd ps sp := by
  obtain ⟨oc, od, kV, doc, pm, an, cdv, ct, osl, rfl, lk, hcd⟩ := F.ex
  constructor
  · exact len
  intro A outer s H args us vs Q E hgd hr e0 hb r hsp
  have KX : K.In s.heap := e0.mod.kin.keeps fun b o e => (e0.bs b o e).1
  have lim : s.heap.NoLimit := e0.mod.nolimit.keeps fun b o e => (e0.bs b o e).1
  refine codeAny_call_function hr.depth (KX _ _ lk) rfl S.co S.gen rfl (PySem.W.codeRec_of KX hcd) (hb _ _ _ _ ?_)
  have kinds : ∀ y ∈ ps.zip us, (defScope st).names.lookup y.1 = some .local ∨ ((defScope st).names.lookup y.1 = some .cell ∧ ((cellsFrom (s.heap.objs.size + 1) (defScope st).names []).lookup y.1).isSome = true) := by
    intro y hy
    cases S.par y.1 (List.of_mem_zip hy).1 with
    | inl q => exact .inl q
    | inr q => exact .inr ⟨q, PySem.W.cellsFrom_some _ _ _ (.inl q)⟩
  refine wpAny_newFunctionEnv_cells S.kind kinds fun env he s1 inc => ?_
  cases he
  obtain ⟨t, ht, hq⟩ := body cdv A outer s H vs Q E hgd (hr.deeper _) hsp
  have I := inv_start (CX := L2.CX P w) (E := E) (N := N) S hr.hd e0 (len _ _ _ _ hsp) r inc
  refine ⟨lim.keeps inc.toInCall.keep, codeAny_func (wpAny_mono (ht.run [] s1 (start N vs) H _ I hq) (fun fl s' hs => ?_) fun _ _ z => z)⟩
  match fl, hs with
  | .ret u, ⟨v, σ', H', J, rv, q⟩ => exact ⟨v, H', J.os, J.bare, J.base, J.hok, rv, q⟩
  | .next, ⟨σ', H', J, q⟩ => exact ⟨.non, H', J.os, J.bare, J.base, J.hok, rfl, q⟩
  | .brk, ⟨_, _, _, q⟩ => exact q.elim
  | .cont, ⟨_, _, _, q⟩ => exact q.elim
abbrev FnDG (P : Program) (w : World) (K : PySem.W.Frag) (mg : Str → Option Value) (base : Heap) (k : Nat) (f : Addr) (fd : FuncData) (ps : List Str) (sp : DSp) : Prop := FnG P w K mg base k f fd ps (upSp K sp)
theorem fnDG_of {x qual : Str} {st : Stmt} {f : Addr} {fd : FuncData} {N ps : List Str} {k : Nat} {sp : DSp} (F : Fun K x qual st f fd) (S : FnScope N ps (defScope st)) (len : ∀ {ds m q qe}, sp ds m q qe → ds.length = ps.length)
    (body : ∀ (cdv : Value) (A : Around) (outer : List Env) (s : Shared) (H : Hp) (E : XK) (B : Bs) (qe : Value → Mem → Prop),
      Room k (A.deeper (envOfC qual (defScope st) s.heap.objs.size f cdv)) → (cxOf (L2.CX P w) P w K mg base N qual (defScope st) f cdv A outer s H E).A.guards = some [] →
      Takes (cxOf (L2.CX P w) P w K mg base N qual (defScope st) f cdv A outer s H E) (upW K B fun cls _ m => qe cls m) →
      PassesOwn (model P w) (cxOf (L2.CX P w) P w K mg base N qual (defScope st) f cdv A outer s H E).A (cxOf (L2.CX P w) P w K mg base N qual (defScope st) f cdv A outer s H E).env (cxOf (L2.CX P w) P w K mg base N qual (defScope st) f cdv A outer s H E).xe →
      ∃ t, DSs B (cxOf (L2.CX P w) P w K mg base N qual (defScope st) f cdv A outer s H E) (defBody st) t ∧ ∀ ds m q, sp ds m q qe → t (defEnds q) (startD N ds) m) : FnDG P w K mg base (k + 1) f fd ps sp := by
  refine fnG_body F S (fun vs H Q E h => ?_) (fun cdv A outer s H vs Q E hgd hr h => ?_)
  · obtain ⟨ds, m, q, qe, r, _, h, _⟩ := h
    rw [← r.length]
    exact len h
  · obtain ⟨ds, m, q, qe, r, sim, h, post, hE⟩ := h
    have tk : Takes (cxOf (L2.CX P w) P w K mg base N qual (defScope st) f cdv A outer s H E) (upW K ⟨H, m⟩ fun cls _ m => qe cls m) :=
      (takes_of (E := E) rfl rfl rfl rfl).imp fun cls d σ H' ⟨e, ρ, m', p, q'⟩ => by
        subst e
        exact hE cls m' H' q' p.sim p.st
    obtain ⟨t, ht, hq⟩ := body cdv A outer s H E ⟨H, m⟩ qe hr hgd tk (passes_of (K := fun e s'' => L2.CX P w outer H s E e s'') rfl)
    refine ⟨_, ht, startD N ds, m, defEnds q, ⟨start_ok r, sim, Step.refl _ _⟩, hq ds m q h, ?_⟩
    exact ⟨fun ρ' m' σ' H' ⟨m2, hle, hq⟩ env s2 st => post .non m2 .non H' hq .non (s2.forget hle) (st.forget hle), fun d m' v H' ⟨m2, hle, hq⟩ rd s2 st => post d m2 v H' hq rd (s2.forget hle) (st.forget hle),
      fun _ _ _ _ z => False.elim z, fun _ _ _ _ z => False.elim z⟩
end
/-- a def as it is called, where no repr is under way -/
structure DefG (P : Program) (w : World) (K : PySem.W.Frag) (mg : Str → Option Value) (base : Heap) (k : Nat) (x : Str) (ps : List Str) (sp : DSp) where
  f : Addr
  fd : FuncData
  ok : FnDG P w K mg base k f fd ps sp
  g : mg x = some (.ref f)
  kp : PySem.W.keepIn K (.ref f) = true
  b : Binds K fd ps []
section
variable {X : Cx} {B : Bs} {k : Nat} {ps : List Str} {sp : DSp} {we : DWX} {x : Str} {p pos : Pos} {e : Expr} {es : List Expr} {t : DTA}
theorem run_G {f : Addr} {fd : FuncData} {E : XK} {pins : List (Addr × Obj)} {σ : St} {H : Hp} {s : Shared} {Q : VK} {args : Args} {us : List Value} {vs : List V} {sp : Sp} (F : FnG X.prog X.w X.K X.mg X.base k f fd ps sp) (hgd : X.A.guards = some []) (hr : Room k X.A)
    (I : Inv X pins σ H s) (hx : PassesAt (L2.CX X.prog X.w) X σ E) (b : BindsTo s fd args (ps.zip us)) (r : Vals vs us) (h : sp vs H Q E) : codeAny (model X.prog X.w) X.A (.call (.ref f) args) (fun r s' => match r with | .ok (.ret u) => EP X pins σ Q u s' | .ok _ => False | .error e => X.xe e s') s := by
  refine codeAny_mono (F.run X.A X.stack s H args us vs Q E hgd hr I.env0 b r h) fun r s' hq => ?_
  match r, hq with
  | .error e, hq => exact hx pins H s e s' I hq
  | .ok (.ret u), hq => exact I.after hq
  | .ok .next, hq => exact False.elim hq
  | .ok .brk, hq => exact False.elim hq
  | .ok .cont, hq => exact False.elim hq
theorem de_callG (d : DefG X.prog X.w X.K X.mg X.base k x ps sp) (hgd : X.A.guards = some []) (hr : Room k X.A) (hg : Gl X x) (tk : Takes X (upW X.K B we)) (ha : DA B X (e :: es) t) (hdb : (x == ("__debug__" : Str)) = false := by decide)
    (he : starEach (e :: es) X.env = (false, eval e X.env) :: starEach es X.env := by rfl) (hpl : (backTo pos (starEach es X.env)).any (·.1) = false := by rfl) : DE B X (.Call (.Name x p) (e :: es) [] pos) (dCall sp we t) := by
  refine pe_imp (t := tCallS (upSp X.K sp) (WE (upW X.K B we)) (upA X.K B t)) ⟨fun pins s σ H Q I h => ?_⟩ call_lift
  refine wpAny_Call_Name_kw (ld_glob I hg d.g ?_ hdb)
  refine PySem.W.callWith_K (h₀ := X.base) I.ok.mod.kin d.kp (thn (ha.run pos pins s σ H _ I h) fun us s1 ⟨vs, H1, I1, r, q⟩ => ⟨I1.kIn, ?_⟩) he hpl
  have hl : us.length = ps.length := by rw [← r.length]; exact d.ok.len _ _ _ _ q
  have b := d.b s1 us I1.kIn (by rw [List.append_nil]; exact hl)
  rw [List.append_nil] at b
  exact wpAny_call (codeAny_mono (run_G d.ok hgd hr I1 (passAt tk σ) b r q) fun r s' z => by
    match r, z with
    | .error e, z => exact z
    | .ok (.ret u), z => exact z
    | .ok .next, z => exact z.elim
    | .ok .brk, z => exact z.elim
    | .ok .cont, z => exact z.elim)
end

/-! ### the end -/
theorem lawG {P : Program} {w : World} {K : PySem.W.Frag} {mg mb : Str → Option Value} {k n : Nat} {fa a : Addr} {fd : FuncData} {x : Str} {s₁ : Shared} {vs : List Value} {ns : List Int}
    (KX : K.In s₁.heap) (hns : s₁.heap.Ns mainGlobals mg) (hb : s₁.heap.Ns builtinsNs mb) (hbb : ∀ x : Str, x ≠ "__name__" → mb x = bootBuiltins x) (hlim : s₁.heap.NoLimit) (hg : s₁.gens = #[])
    (ha : s₁.heap.get? a = some { cls := .type "list", data := .seq vs.toArray }) (hi : IntsAre vs ns) (hn : ns.length ≤ n) (hl : n ≤ sizeLine) (hr : Room k callerA)
    (F : ∀ base : Heap, K.In base → base.Ns mainGlobals mg → FnDG P w K mg base k fa fd [x] (spLawD n)) (hbind : ∀ (s : Shared) (u : Value), BindsTo s fd ⟨[u], []⟩ [(x, u)]) :
    codeAny (model P w) callerA (.call (.ref fa) ⟨[.ref a], []⟩) (fun r s' => r = .ok (.ret (.bool true)) ∧ OldK s₁.heap s'.heap ∧ s'.os = s₁.os ∧ AllBare s'.gens) s₁ := by
  obtain ⟨ob, hob⟩ : ∃ ob : Obj, ob = { cls := .type "list", data := .seq vs.toArray } := ⟨_, rfl⟩
  have one : ∃ H : Hp, Only H ∧ SqL K H a (ns.map V.int) ∧ HOk P w H s₁.heap ∧ (∀ b u, H b = some u → b = a) ∧ (∀ u, H a = some u → K.lookup a = none) := by
    by_cases hk : K.lookup a = none
    · refine ⟨fun b => if b = a then some (.frz ob (.lst (ns.map V.int))) else none, fun b => ?_, .inl (.inr ⟨ob, if_pos rfl⟩), fun b u z => ?_, fun b u z => ?_, fun _ _ => hk⟩
      · show (if b = a then _ else _) = _ ∨ _
        by_cases e : b = a
        · exact .inr ⟨ob, _, if_pos e⟩
        · exact .inl (if_neg e)
      · have z : (if b = a then some (HO.frz ob (.lst (ns.map V.int))) else none) = some u := z
        by_cases e : b = a
        · rw [if_pos e] at z
          cases z
          rw [e, hob]
          exact ⟨ha, by rw [List.length_map]; omega, vs, _, vals_ints hi, ha⟩
        · rw [if_neg e] at z
          cases z
      · have z : (if b = a then some (HO.frz ob (.lst (ns.map V.int))) else none) = some u := z
        by_cases e : b = a
        · exact e
        · rw [if_neg e] at z
          cases z
    · obtain ⟨o, ho⟩ := Option.ne_none_iff_exists'.mp hk
      have eo : o = { cls := .type "list", data := .seq vs.toArray } := Option.some.inj ((KX a o ho).symm.trans ha)
      subst eo
      exact ⟨fun _ => none, fun _ => .inl rfl, .inr ⟨_, vs.toArray, _, ho, rfl, rfl, rfl, by rw [List.size_toArray, hi.length]; omega, by simpa using vals_ints hi⟩, (fun _ _ z => nomatch z), (fun _ _ z => nomatch z), (fun _ z => nomatch z)⟩
  obtain ⟨H, hO, hS, hok, at_, noK⟩ := one
  have old : ∀ {b : Addr} {o : Obj}, s₁.heap.get? b = some o → (o.data ≠ .seq vs.toArray _ ∨ K.lookup b = some o) → H b = none := fun {b o} e d => by
    cases q : H b with
    | none => rfl
    | some u =>
      have e1 := at_ b u q
      subst e1
      rcases d with d | d
      · rw [ha] at e; cases e; exact absurd rfl d
      · rw [noK u q] at d; cases d
  have nsK : ∀ {b : Addr} {m : Str → Option Value}, s₁.heap.Ns b m → (hidT s₁.heap H).Ns b m := fun {b m} ⟨o, es, ep, e, d, r⟩ => ⟨o, es, ep, hidT_get e (old e (.inl (by rw [d]; exact fun z => nomatch z))), d, r⟩
  have hKb : K.In (hidT s₁.heap H) := fun b o e => hidT_get (KX b o e) (old (KX b o e) (.inr e))
  obtain ⟨mc, l1, l2⟩ := hlim
  have e0 : Env0 P w K mg (hidT s₁.heap H) callerA [] s₁ H := { frames := rfl, mod := ⟨hKb, nsK hns, ⟨mb, nsK hb, hbb⟩, ⟨mc, nsK l1, l2⟩⟩, bs := fun b o e => of_hidT e, bsz := Nat.le_of_eq (hidT_size _ _), funs := trivial, frf := (fun _ z => nomatch z), hok := hok, bare := .of_eq hg }
  refine codeAny_mono ((F _ hKb (nsK hns)).run callerA [] s₁ H ⟨[.ref a], []⟩ [.ref a] [.ref a] _ _ rfl hr e0 (hbind s₁ (.ref a)) (.cons rfl .nil) (law_sp hn hO hS)) fun r s' h => ?_
  match r, h with
  | .error e, h => exact (law_cx h).elim
  | .ok .next, h => exact False.elim h
  | .ok .brk, h => exact False.elim h
  | .ok .cont, h => exact False.elim h
  | .ok (.ret u), ⟨v, H', os, bare, un, hok', r', q⟩ =>
    have q' : v = .bl true := q
    subst q'
    have eu : u = Value.bool true := r'
    subst eu
    refine ⟨rfl, OldK.of_keep fun b o e => ?_, os, bare⟩
    rcases hO b with z | ⟨o1, xs, z⟩
    · exact un.keep b o e z (fun y => nomatch y) (fun y => nomatch y)
    · have e1 := (hok b _ z).1
      have e2 := (hok' b _ (un.frzs b o1 _ z)).1
      rw [e] at e1
      cases e1
      exact e2
theorem walkG {l : PySem.W.OpenLaw} {n k : Nat} {q : Program} {loose : List Str} {XP : (Str → Option Value) → Heap → Prop} {YP : World → Heap → Prop} {d : DefRec} {K : Params → PySem.W.Frag} {x : Str}
    (hn : l.most = some n) (hn2 : n ≤ sizeLine) (hdf : d.params.defaults = []) (hr : Room k callerA) (hY : ∀ (w : World) (h : Heap), YP w h → (K w.params).In h)
    (F : ∀ (w : World) (mg : Str → Option Value) (fa : Addr) (h : Heap), (K w.params).In h → h.Ns mainGlobals mg → mg d.name = some (.ref fa) →
      ∃ fd : FuncData, (∀ (s : Shared) (u : Value), BindsTo s fd ⟨[u], []⟩ [(x, u)]) ∧ ∀ base : Heap, (K w.params).In base → base.Ns mainGlobals mg → FnDG l.prog w (K w.params) mg base k fa fd [x] (spLawD n)) :
    PySem.W.WalkO q loose XP YP l.row.toRowW d [] (fun f vs => PySem.call f vs) :=
  Att.attach_call hn hdf fun w s₀ s₁ mg mb fa o pm cd doc a vs ns G Y ho hd hcd hmg hobj hints hlen hg => by
    have KX := hY w _ Y
    obtain ⟨fd, hb, hF⟩ := F w mg fa _ KX G.T.g hmg
    exact lawG KX G.T.g G.T.b G.T.builtins G.T.nolimit hg hobj hints hlen hn2 hr hF hb
end L2.Lh

/-! repr, min, max, remove, keyword calls -/
namespace L2.Lh
open PySem PySem.Spec PyProof.Rows

theorem reps_ints {K : PySem.W.Frag} {H : Hp} : ∀ {ns : List Int} {vs : List V}, Reps K H (ns.map D.int) vs → vs = ns.map V.int
  | [], _, r => by cases r; rfl
  | n :: ns, _, r => by
    cases r with
    | cons a b => cases a; rw [List.map_cons, reps_ints b]
/-! ### repr -/
def reprOf (d : D) (m : Mem) (q : DQ) : Prop := match pyD m d with
  | some p => p.showable = true ∧ p.hasDict = false ∧ p.depth ≤ 50 ∧ p.shown.length ≤ sizeLine ∧ q (.str p.shown) m
  | none => False
def reprD : DRC
  | [.int i], m, q => i.natAbs.log2 < 1920 ∧ q (.str (toString i)) m
  | [.tup xs], m, q => reprOf (.tup xs) m q
  | [.ftup xs], m, q => reprOf (.ftup xs) m q
  | [.ref a], m, q => reprOf (.ref a) m q
  | [.rol xs], m, q => reprOf (.rol xs) m q
  | _, _, _ => False
section
variable {X : Cx}
theorem repr_ok {K : PySem.W.Frag} (hK : X.K = K) (hgd : X.A.guards = some []) (hu : X.A.units + 64 < cLine) {pins : List (Addr × Obj)} {s : Shared} {σ : St} {H : Hp} {a : Addr} {d : D} {m : Mem} {q : DQ} {Q : VK} (I : Inv X pins σ H s) (sim : Sim X.K H m) (r : Rep X.K H d (.ref a)) (h : reprOf d m q) (post : PostE X.K H m q Q) :
    wpAny (model X.prog X.w) X.A (call (.builtin "repr") [.ref a]) (EP X pins σ Q) X.xe s := by
  unfold reprOf at h
  split at h
  · rename_i p ep
    obtain ⟨h1, h2, h3, h4, hq⟩ := h
    obtain ⟨as, rd⟩ := Dp.reads I p (.ref a) (.ref a) (pyW_ok (pyA_ok sim 3) r ep) rfl
    exact repr_of_reads' rd h1 (PyData.noDict_hsm h2) hgd (by omega) (fun _ _ e => e) (fun h' u tk hk => ⟨.str p.shown, H, I.kept hk, ⟨u, rfl⟩, post.here hq (.str _) sim⟩) h4
  · exact h.elim
theorem c_repr (hgd : X.A.guards = some []) (hu : X.A.units + 64 < cLine) : CallD X (.builtin "repr") reprD := by
  intro pins s σ H xs us Q I r ⟨ds, m, q, rs, sim, h, post⟩
  unfold reprD at h
  split at h
  · obtain ⟨v, rfl, rv⟩ := reps1 rs
    cases rv
    exact SkE.call_repr_int pins s σ H _ us Q I r ⟨_, rfl, h.1, post.here h.2 (.str _) sim⟩
  · obtain ⟨v, rfl, rv⟩ := reps1 rs
    obtain ⟨a, rfl⟩ : ∃ a, v = .ref a := by cases rv; exact ⟨_, rfl⟩
    rw [Vals.ref1 r]
    exact repr_ok rfl hgd hu I sim rv h post
  · obtain ⟨v, rfl, rv⟩ := reps1 rs
    obtain ⟨a, rfl⟩ : ∃ a, v = .ref a := by cases rv; exact ⟨_, rfl⟩
    rw [Vals.ref1 r]
    exact repr_ok rfl hgd hu I sim rv h post
  · obtain ⟨v, rfl, rv⟩ := reps1 rs
    obtain ⟨a, rfl⟩ : ∃ a, v = .ref a := by cases rv; exact ⟨_, rfl⟩
    rw [Vals.ref1 r]
    exact repr_ok rfl hgd hu I sim rv h post
  · obtain ⟨v, rfl, rv⟩ := reps1 rs
    obtain ⟨a, rfl⟩ : ∃ a, v = .ref a := by cases rv; exact ⟨_, rfl⟩
    rw [Vals.ref1 r]
    exact repr_ok rfl hgd hu I sim rv h post
  · exact h.elim
/-! .. of a list just made -/
def reprN : DRC := fun ds m q => match pyDs m ds with
  | some ps => (PyData.list ps).showable = true ∧ (PyData.list ps).hasDict = false ∧ (PyData.list ps).depth ≤ 50 ∧ (PyData.list ps).shown.length ≤ sizeLine ∧ q (.str (PyData.list ps).shown) m
  | none => False
theorem n_repr (hgd : X.A.guards = some []) (hu : X.A.units + 64 < cLine) : CallN X (.builtin "repr") reprN := by
  intro pins s σ H xs us Q I r ⟨a, ds, vs, m, q, e, ha, rs, hn, sim, h, post⟩
  unfold reprN at h
  split at h
  · rename_i ps ep
    subst e
    obtain ⟨h1, h2, h3, h4, hq⟩ := h
    rw [Vals.ref1 r]
    obtain ⟨as, rd⟩ := Dp.reads I (.list ps) (.ref a) (.ref a) (.lst (SqL.of ha) (pyWs_ok (pyA_ok sim 3) rs ep)) rfl
    exact repr_of_reads' rd h1 (PyData.noDict_hsm h2) hgd (by omega) (fun _ _ e => e) (fun h' u tk hk => ⟨.str _, H, I.kept hk, ⟨u, rfl⟩, post.here hq (.str _) sim⟩) h4
  · exact h.elim
end

/-! ### min, max of ints -/
section
variable {prog : Program} {w : World} {A : Around} {E : Value → Shared → Prop} {s : Shared} {Q : Value → Shared → Prop} {l : Addr} {its : List Value} {ns : List Int}
theorem min_tup (hh : A.handled = none) (hl : s.heap.IsTuple l its.toArray) (hi : IntsAre its ns) (hne : 0 < ns.length)
    (h : ∀ h' tk M t', (∀ b o, s.heap.get? b = some o → h'.get? b = some o) → M ∈ ns → (∀ a, a ∈ ns → M ≤ a) → Q (.int M t') { s with heap := h', toks := tk }) : wpAny (model prog w) A (call (.builtin "min") [.ref l]) Q E s := by
  obtain ⟨xs, e⟩ := hi.allInts.items
  have hn : numsOf (intItems xs).toList = ns := by rw [← e]; exact hi.numsOf
  rw [nums_intItems] at hn
  subst hn
  rw [e] at hl
  have hsz : 0 < xs.size := by simpa using hne
  have hlt : l < s.heap.objs.size := by obtain ⟨_, e, _⟩ := hl; exact Heap.lt_size e
  refine call_min_walk (wpAny_pyIter_tuple hl ?_)
  refine ⟨_, _, _, _, _, _, _, rfl, Walks.tuple (A := A.in1) hh s.heap.objs.size l (Nat.ne_of_lt hlt) (intItems xs), ⟨⟨_, Heap.get?_push_size _ rfl, rfl, rfl⟩, hl.push _⟩, (fun b hb => ?_), by simpa [intItems] using hsz, CmpOf.ints_lt (numAt xs) (fun _ _ => intItems_at), fun v h' tk hP hk => ?_⟩
  · show b < (s.heap.push _).objs.size
    rw [Heap.size_push]
    rcases List.mem_cons.mp hb with rfl | hb
    · exact Nat.lt_succ_self _
    · rcases List.mem_cons.mp hb with rfl | hb
      · exact Nat.lt_succ_of_lt hlt
      · cases hb
  · have hP' : (intItems xs)[argBest (fun i j => decide (numAt xs i < numAt xs j)) (xs.size - 1)]? = some v := by simpa [intItems] using hP
    obtain ⟨t, rfl⟩ := intItems_at hP'
    obtain ⟨h1, h2⟩ := argBest_lt (numAt xs) (xs.size - 1)
    refine h h' tk _ t (fun b o e => hk b o (fun hm => ?_) (Heap.get?_push_of_some _ e)) ?_ fun a ha => ?_
    · rcases List.mem_cons.mp hm with e1 | hm
      · exact absurd (e1 ▸ Heap.lt_size e) (Nat.lt_irrefl _)
      · cases hm
    · rw [numAt_eq]; exact PySem.getD_mem (by rw [List.length_map, Array.length_toList]; omega)
    · obtain ⟨j, hj, rfl⟩ := mem_getD ha
      rw [List.length_map, Array.length_toList] at hj
      rw [← numAt_eq]; exact h2 j (by omega)
end
def minD : DRC
  | [d], m, q => match itemsOf m d with
    | some xs => match intsOf xs with
      | some ns => 0 < ns.length ∧ ∀ k, k ∈ ns → (∀ y ∈ ns, k ≤ y) → q (.int k) m
      | none => False
    | none => False
  | _, _, _ => False
section
variable {X : Cx} {B : Bs}
theorem c_min (hc : X.calm = true) : CallD X (.builtin "min") minD := by
  intro pins s σ H xs us Q I r ⟨ds, m, q, rs, sim, h, post⟩
  unfold minD at h
  split at h
  · split at h
    · rename_i xs' ex
      split at h
      · rename_i ns en
        obtain ⟨v, rfl, rv⟩ := reps1 rs
        obtain ⟨a, vs, rfl, hsq, rvs⟩ := sim.seq rv ex
        have e1 := intsOf_ok en
        subst e1
        have e2 := reps_ints rvs
        subst e2
        rcases hsq with hs | hs
        · exact cr_min hc pins s σ H _ us Q I r ⟨a, ns, rfl, hs, h.1, fun k hk hm => post.here (h.2 k hk hm) (.int _) sim⟩
        · obtain ⟨its, rv', hl, _⟩ := I.tuple hs
          rw [Vals.ref1 r]
          exact min_tup (I.ok.hd hc) hl rv'.ints h.1 fun h' tk k t' hk h1 h2 => ⟨.int _, H, I.kept hk, ⟨_, rfl⟩, post.here (h.2 k h1 h2) (.int _) sim⟩
      · exact h.elim
    · exact h.elim
  · exact h.elim
/-! ### o.remove(k) that finds k -/
def removeD : DRM
  | .ref a, [.int k], m, q => ∃ ns : List Int, m a = some (.lst (ns.map D.int)) ∧ k ∈ ns ∧ q .non (m.set a (.lst ((ns.erase k).map D.int)))
  | _, _, _, _ => False
theorem reps_of_ints {K : PySem.W.Frag} {H : Hp} : ∀ ns : List Int, Reps K H (ns.map D.int) (ns.map V.int)
  | [] => .nil
  | n :: ns => .cons (.int n) (reps_of_ints ns)
theorem de_remove {o e : Expr} {to te : DTE} {apos cpos : Pos} (hc : X.calm = true) (ho : DE B X o to) (he : DE B X e te) (hbase : attributeBase o "remove" X.env (eval o X.env) = eval o X.env := by rfl)
    (hfew : ((backTo cpos (starEach [e] X.env)).all (fun x => !x.1) && (backToKw cpos (keywordEach [] X.env)).all (fun x => x.1.isSome)
      && decide (([e] : List Expr).length + ([] : List Keyword).length + (if ([] : List Keyword).isEmpty then 0 else 1) < 30)) = true := by rfl)
    (hline : (apos.endLine == cpos.line) = true := by rfl) (hs : starEach [e] X.env = (false, eval e X.env) :: starEach [] X.env := by rfl) (hplain : (backTo cpos (starEach [] X.env)).any (·.1) = false := by rfl) :
    DE B X (.Call (.Attribute o "remove" apos) [e] [] cpos) (dBM removeD to (dCons te dNil)) :=
  pe_imp (pe_remX hc (takesN (K := X.K) (B := B)) ho he hbase hfew hline hs hplain) fun σ H Q ⟨ρ, m, q, p, h, post⟩ => ⟨ρ, m, _, p, h, fun x m1 v H1 ⟨⟨a, xs, hd, hm1⟩, h1⟩ r1 s1 t1 => by
    subst hd
    cases r1
    obtain ⟨vs, hv, _⟩ := s1 a _ hm1
    refine ⟨.inl ⟨rfl, vs, SqL.of hv⟩, ρ, m1, _, p.next s1 t1, h1, fun y m2 u H2 h2 r2 s2 t2 => ?_⟩
    have h2 : removeD (.ref a) [y] m2 q := h2
    cases y with
    | int k =>
      obtain ⟨ns, e1, hk, hq⟩ := h2
      cases r2
      obtain ⟨vs2, hv2, rs⟩ := s2 a _ e1
      have e2 := reps_ints rs
      subst e2
      exact ⟨a, ns, k, rfl, rfl, hv2, fun _ => PostE.wrt (fun d3 m3 v3 H3 h3 r3 s3 t3 => post d3 m3 v3 H3 h3 r3 s3 (t1.trans (t2.trans t3))) e1 hq (reps_of_ints _) .non s2, fun z => absurd hk z⟩
    | _ => exact (show False from h2).elim⟩
end
/-! ### a call, every argument a keyword -/
def KwB (K : PySem.W.Frag) (fd : FuncData) (ps ks : List Str) (ix : List Nat) : Prop := ∀ (s : Shared) (ws : List Value), ws.length = ks.length → BindsTo s fd ⟨[], ks.zip ws⟩ (ps.zip (ix.map fun i => ws.getD i .none))
theorem kwB_of {K : PySem.W.Frag} {x qual : Str} {st : Stmt} {f : Addr} {fd : FuncData} {ps ks : List Str} {ix : List Nat} (F : Fun K x qual st f fd)
    (h : ∀ (kV doc pm : Value) (an : Option Addr) (cdv ct : Value) (ws : List Value), ws.length = ks.length → bindArgs (PySem.W.fnOf x qual (defArgs st) (defBody st) (defScope st) .none kV doc pm an cdv ct) ⟨[], ks.zip ws⟩ = pure (ps.zip (ix.map fun i => ws.getD i .none))) : KwB K fd ps ks ix := by
  obtain ⟨oc, od, kV, doc, pm, an, cdv, ct, osl, rfl, lk, hcd⟩ := F.ex
  exact fun s ws hl => .of_eq (h kV doc pm an cdv ct ws hl)
/-- the callee runs here -/
def Runs (X : Cx) (f : Addr) (fd : FuncData) (ps : List Str) (sp : Sp) : Prop := ∀ (E : XK) (pins : List (Addr × Obj)) (σ : St) (H : Hp) (s : Shared) (Q : VK) (args : Args) (us : List Value) (vs : List V), Inv X pins σ H s → PassesAt (L2.CX X.prog X.w) X σ E → BindsTo s fd args (ps.zip us) → Vals vs us → sp vs H Q E →
  wpAny (model X.prog X.w) X.A (call (.ref f) args.pos args.kw) (EP X pins σ Q) X.xe s
section
variable {X : Cx} {B : Bs} {k : Nat} {ps ks : List Str} {ix : List Nat} {sp : DSp} {we : DWX} {x : Str} {p pos kpos : Pos} {e : Expr} {kws : List Keyword} {te : DTE} {t : DTA} {f : Addr} {fd : FuncData} {nm : Option Str}
theorem runs_end {E : XK} {pins : List (Addr × Obj)} {σ : St} {H : Hp} {s : Shared} {Q : VK} {args : Args} (I : Inv X pins σ H s) (hx : PassesAt (L2.CX X.prog X.w) X σ E) (h : codeAny (model X.prog X.w) X.A (.call (.ref f) args) (CR (L2.CX X.prog X.w) X.stack X.prog X.w H s Q E) s) :
    wpAny (model X.prog X.w) X.A (call (.ref f) args.pos args.kw) (EP X pins σ Q) X.xe s :=
  wpAny_call (codeAny_mono h fun r s' z => by
    match r, z with
    | .error e, z => exact hx pins H s e s' I z
    | .ok (.ret u), z => exact I.after z
    | .ok .next, z => exact False.elim z
    | .ok .brk, z => exact False.elim z
    | .ok .cont, z => exact False.elim z)
theorem runs_D (F : FnD X.prog X.w X.K X.mg X.base k f fd ps sp) (hr : Room k X.A) : Runs X f fd ps (upSp X.K sp) := fun E pins σ H s Q args us vs I hx b r h => runs_end I hx (F.run X.A X.stack s H args us vs Q E hr I.env0 b r h)
theorem runs_G (F : FnDG X.prog X.w X.K X.mg X.base k f fd ps sp) (hgd : X.A.guards = some []) (hr : Room k X.A) : Runs X f fd ps (upSp X.K sp) := fun E pins σ H s Q args us vs I hx b r h => runs_end I hx (F.run X.A X.stack s H args us vs Q E hgd hr I.env0 b r h)
/-- keywords' values -/
abbrev DK (B : Bs) (X : Cx) (kws : List Keyword) (t : DTA) : Prop := PK X kws (upA X.K B t)
theorem dk_nil : DK B X [] dNil := ⟨fun pos pins s σ H Q I h => pk_nil.run pos pins s σ H Q I (let ⟨ρ, m, q, p, h, post⟩ := h; post [] m [] H h .nil p.sim (Step.refl _ _))⟩
theorem dk_cons (ha : DE B X e te) (hr : DK B X kws t) : DK B X (⟨nm, e, kpos⟩ :: kws) (dCons te t) := ⟨fun pos pins s σ H Q I h => (pk_cons ha hr).run pos pins s σ H Q I (let ⟨ρ, m, q, p, h, post⟩ := h; ⟨ρ, m, _, p, h, fun d m1 v H1 h1 r1 s1 t1 => ⟨ρ, m1, _, p.next s1 t1, h1, fun ds m2 vs H2 h2 r2 s2 t2 => post (d :: ds) m2 (v :: vs) H2 h2 (.cons (r1.mono t2.ext) r2) s2 (t1.trans t2)⟩⟩)⟩
def dCallK (sp : DSp) (we : DWX) (n : Nat) (ix : List Nat) (t : DTA) : DTE := fun ρ m q => t ρ m fun ds m1 => ds.length = n ∧ sp (ix.map fun i => ds.getD i .non) m1 q fun cls m2 => we cls ρ m2
theorem vals_perm {zs : List V} {ws : List Value} (r : Vals zs ws) : ∀ {ix : List Nat}, (∀ i ∈ ix, i < zs.length) → Vals (ix.map fun i => zs.getD i .non) (ix.map fun i => ws.getD i .none)
  | [], _ => .nil
  | i :: ix, h => by
    refine .cons ?_ (vals_perm r fun j hj => h j (List.mem_cons_of_mem _ hj))
    have hi := h i List.mem_cons_self
    obtain ⟨u, hu, rv⟩ := r.get (List.getElem?_eq_getElem hi)
    dsimp only
    rw [List.getD_eq_getElem?_getD, List.getElem?_eq_getElem hi, List.getD_eq_getElem?_getD, hu]
    exact rv
theorem reps_perm {K : PySem.W.Frag} {H : Hp} {ds : List D} {vs : List V} (r : Reps K H ds vs) : ∀ {ix : List Nat}, (∀ i ∈ ix, i < ds.length) → Reps K H (ix.map fun i => ds.getD i .non) (ix.map fun i => vs.getD i .non)
  | [], _ => .nil
  | i :: ix, h => by
    refine .cons ?_ (reps_perm r fun j hj => h j (List.mem_cons_of_mem _ hj))
    have hi := h i List.mem_cons_self
    obtain ⟨u, hu, rv⟩ := r.get (List.getElem?_eq_getElem hi)
    dsimp only
    rw [List.getD_eq_getElem?_getD, List.getElem?_eq_getElem hi, List.getD_eq_getElem?_getD, hu]
    exact rv
theorem de_callK (R : Runs X f fd ps (upSp X.K sp)) (hkb : KwB X.K fd ps ks ix) (hix : ∀ i ∈ ix, i < ks.length) (hg : Gl X x) (hm : X.mg x = some (.ref f)) (hk : PySem.W.keepIn X.K (.ref f) = true) (tk : Takes X (upW X.K B we)) (hkw : DK B X kws t)
    (hall : (backToKw pos (keywordEach kws X.env)).all (·.1.isSome) = true := by rfl) (hks : (backToKw pos (keywordEach kws X.env)).filterMap (·.1) = ks := by rfl) (hdb : (x == ("__debug__" : Str)) = false := by decide)
    (hpl : ((backTo pos (starEach [] X.env)).any (·.1) || (backToKw pos (keywordEach kws X.env)).any (·.1.isNone)) = false := by rfl) :
    DE B X (.Call (.Name x p) [] kws pos) (dCallK sp we ks.length ix t) := by
  refine ⟨fun pins s σ H Q I ⟨ρ, m, q, pr, h, post⟩ => ?_⟩
  refine wpAny_Call_Name_kw (ld_glob I hg hm ?_ hdb)
  refine PySem.W.callWith_KW0 (h₀ := X.base) I.ok.mod.kin hk hall ?_ hpl
  refine thn (hkw.run pos pins s σ H (fun vs H1 => vs.length = ks.length ∧ upSp X.K sp (ix.map fun i => vs.getD i .non) H1 Q (WE (upW X.K B we) σ)) I ⟨ρ, m, _, pr, h, fun ds m1 vs H1 h1 r1 s1 t1 => ?_⟩) fun ws s2 ⟨zs, H2, I2, rz, hl, q2⟩ => ⟨I2.kIn, ?_⟩
  · obtain ⟨hl, h1⟩ := h1
    refine ⟨by rw [← r1.length]; exact hl, _, m1, q, _, reps_perm r1 (by rw [hl]; exact hix), s1, h1, fun d2 m2 v2 H2 h2 r2 s2 t2 => post d2 m2 v2 H2 h2 r2 s2 (t1.trans t2), fun cls m2 H2 hq s2 t2 => ⟨rfl, ρ, m2, pr.next s2 (t1.trans t2), hq⟩⟩
  · rw [hks]
    exact R _ pins σ H2 s2 Q ⟨[], ks.zip ws⟩ _ _ I2 (passAt tk σ) (hkb s2 ws (by rw [← rz.length]; exact hl)) (vals_perm rz (by rw [hl]; exact hix)) q2
end
end L2.Lh

/-! readings at known things: equations -/
namespace L2.Lh
open PySem PySem.Spec PyProof.Rows
section
variable {m : Mem} {q : DQ} {i j : Int} {x y : Str} {xs ys : List D} {a b : Addr} {d : D} {ds : List D}
theorem addD_ii : addD (.int i) (.int j) m q = q (.int (i + j)) m := rfl
theorem addD_ss : addD (.str x) (.str y) m q = (x.length + y.length ≤ sizeLine ∧ q (.str (x ++ y)) m) := rfl
theorem addD_tt : addD (.tup xs) (.tup ys) m q = (xs.length + ys.length ≤ sizeLine ∧ q (.tup (xs ++ ys)) m) := rfl
theorem addD_rr : addD (.ref a) (.ref b) m q = ∃ xs ys, m a = some (.lst xs) ∧ m b = some (.lst ys) ∧ xs.length + ys.length ≤ sizeLine ∧ ∀ p, m p = none → q (.ref p) (m.set p (.lst (xs ++ ys))) := rfl
theorem iiD_ii {C : Int → Int → Prop} {g : Int → Int → D} : iiD C g (.int i) (.int j) m q = (C i j ∧ q (g i j) m) := rfl
theorem ii0_ii {g : Int → Int → D} : ii0 g (.int i) (.int j) m q = q (g i j) m := rfl
theorem mulD_ii : mulD (.int i) (.int j) m q = (CMul i j ∧ q (.int (i * j)) m) := rfl
theorem mulD_ri : mulD (.ref a) (.int j) m q = ∃ xs, m a = some (.lst xs) ∧ -(2 ^ 63) ≤ j ∧ j < 2 ^ 63 ∧ xs.length * j.toNat ≤ sizeLine ∧ ∀ p, m p = none → q (.ref p) (m.set p (.lst (List.replicate j.toNat xs).flatten)) := rfl
theorem mulD_ti : mulD (.tup xs) (.int j) m q = (xs ≠ [] ∧ 2 ≤ j ∧ j ≤ 1000 ∧ xs.length ≤ 1000 ∧ q (.tup (List.replicate j.toNat xs).flatten) m) := rfl
theorem negD_i : negD (.int i) m q = q (.int (-i)) m := rfl
theorem absD_i : absD [.int i] m q = q (.int (if i < 0 then -i else i)) m := rfl
theorem max2D_ii : max2D [.int i, .int j] m q = q (.int (if j > i then j else i)) m := rfl
theorem min2D_ii : min2D [.int i, .int j] m q = q (.int (if j < i then j else i)) m := rfl
theorem eqD_ii : eqD (.int i) (.int j) m q = q (.bl (i == j)) m := rfl
theorem neD_ii : neD (.int i) (.int j) m q = q (.bl (!(i == j))) m := rfl
theorem eqD_ss : eqD (.str x) (.str y) m q = q (.bl (decide (x = y))) m := rfl
theorem neD_ss : neD (.str x) (.str y) m q = q (.bl (!decide (x = y))) m := rfl
theorem reprD_i : reprD [.int i] m q = (i.natAbs.log2 < 1920 ∧ q (.str (toString i)) m) := rfl
theorem reprD_t : reprD [.tup xs] m q = reprOf (.tup xs) m q := rfl
theorem reprD_f : reprD [.ftup xs] m q = reprOf (.ftup xs) m q := rfl
theorem reprD_r : reprD [.ref a] m q = reprOf (.ref a) m q := rfl
theorem reprD_o : reprD [.rol xs] m q = reprOf (.rol xs) m q := rfl
theorem itemsOf_t : itemsOf m (.tup xs) = some xs := rfl
theorem itemsOf_f : itemsOf m (.ftup xs) = some xs := rfl
theorem itemsOf_o : itemsOf m (.rol xs) = some xs := rfl
theorem itemsOf_r (h : m a = some (.lst xs)) : itemsOf m (.ref a) = some xs := by unfold itemsOf; dsimp only; rw [h]
theorem itemsL_o : itemsL m (.rol xs) = some xs := rfl
theorem itemsL_r (h : m a = some (.lst xs)) : itemsL m (.ref a) = some xs := by unfold itemsL; dsimp only; rw [h]
theorem lenD_t : lenD [.tup xs] m q = q (.int xs.length) m := rfl
theorem lenD_f : lenD [.ftup xs] m q = q (.int xs.length) m := rfl
theorem lenD_o : lenD [.rol xs] m q = q (.int xs.length) m := rfl
theorem lenD_s : lenD [.str x] m q = (x.length ≤ sizeLine ∧ q (.int x.length) m) := rfl
theorem lenD_r (h : m a = some (.lst xs)) : lenD [.ref a] m q = q (.int xs.length) m := by
  show (match itemsOf m (.ref a) with | some xs => q (.int xs.length) m | none => False) = _
  rw [itemsOf_r h]
theorem tupleD_t : tupleD [.tup xs] m q = q (.tup xs) m := rfl
theorem tupleD_f : tupleD [.ftup xs] m q = q (.ftup xs) m := rfl
theorem tupleD_o : tupleD [.rol xs] m q = q (.tup xs) m := rfl
theorem tupleD_r (h : m a = some (.lst xs)) : tupleD [.ref a] m q = q (.tup xs) m := by
  show (match itemsOf m (.ref a) with | some xs => q (.tup xs) m | none => False) = _
  rw [itemsOf_r h]
theorem listD_t {q : List D → Mem → Prop} : listD (.tup xs) m q = q xs m := rfl
theorem listD_f {q : List D → Mem → Prop} : listD (.ftup xs) m q = q xs m := rfl
theorem listD_o {q : List D → Mem → Prop} : listD (.rol xs) m q = q xs m := rfl
theorem listD_r {q : List D → Mem → Prop} (h : m a = some (.lst xs)) : listD (.ref a) m q = q xs m := by unfold listD; rw [itemsOf_r h]
theorem minD_t : minD [.tup xs] m q = (match intsOf xs with | some ns => 0 < ns.length ∧ ∀ k, k ∈ ns → (∀ y ∈ ns, k ≤ y) → q (.int k) m | none => False) := rfl
theorem ixD_t (h : atI xs i = some d) : ixD (.tup xs) (.int i) m q = q d m := by unfold ixD; dsimp only [itemsOf]; rw [h]
theorem ixD_f (h : atI xs i = some d) : ixD (.ftup xs) (.int i) m q = q d m := by unfold ixD; dsimp only [itemsOf]; rw [h]
theorem ixD_o (h : atI xs i = some d) : ixD (.rol xs) (.int i) m q = q d m := by unfold ixD; dsimp only [itemsOf]; rw [h]
theorem ixD_r (h1 : m a = some (.lst xs)) (h : atI xs i = some d) : ixD (.ref a) (.int i) m q = q d m := by unfold ixD; dsimp only; rw [itemsOf_r h1]; dsimp only; rw [h]
theorem slD_t {lo hi : Option Int} : slD (.tup xs) lo hi m q = q (.tup (cutL xs lo hi)) m := rfl
theorem slD_o {lo hi : Option Int} : slD (.rol xs) lo hi m q = ∀ p, m p = none → q (.ref p) (m.set p (.lst (cutL xs lo hi))) := rfl
theorem slD_r {lo hi : Option Int} (h : m a = some (.lst xs)) : slD (.ref a) lo hi m q = ∀ p, m p = none → q (.ref p) (m.set p (.lst (cutL xs lo hi))) := by unfold slD; dsimp only; rw [h]
theorem itOf_t {q : Itd → Prop} : itOf m (.tup xs) q = q ⟨xs, fun _ => True⟩ := rfl
theorem itOf_f {q : Itd → Prop} : itOf m (.ftup xs) q = q ⟨xs, fun _ => True⟩ := rfl
theorem itOf_o {q : Itd → Prop} : itOf m (.rol xs) q = q ⟨xs, fun _ => True⟩ := rfl
theorem itOf_r {q : Itd → Prop} (h : m a = some (.lst xs)) : itOf m (.ref a) q = q ⟨xs, fun m' => m' a = some (.lst xs)⟩ := by unfold itOf; dsimp only; rw [h]
theorem sortD_f {q : List D → Mem → Prop} : sortD (.ftup xs) m q = (match intsOf xs with | some ns => ns.length < 64 ∧ ∀ ns' : List Int, ns'.Perm ns → ns'.Pairwise (· ≤ ·) → q (ns'.map D.int) m | none => False) := rfl
theorem sortD_t {q : List D → Mem → Prop} : sortD (.tup xs) m q = (match intsOf xs with | some ns => ns.length < 64 ∧ ∀ ns' : List Int, ns'.Perm ns → ns'.Pairwise (· ≤ ·) → q (ns'.map D.int) m | none => False) := rfl
theorem appendD_r {v : D} (h : m a = some (.lst xs)) : appendD (.ref a) [v] m q = (xs.length < sizeLine ∧ q .non (m.set a (.lst (xs ++ [v])))) := by
  unfold appendD
  dsimp only
  rw [h]
  simp
theorem setD_r {v : D} {k : Nat} {q : Mem → Prop} (h : m a = some (.lst xs)) (hk : ixN xs.length i = some k) : setD (.ref a) (.int i) v m q = q (m.set a (.lst (xs.set k v))) := by
  unfold setD
  dsimp only
  rw [h]
  dsimp only
  rw [hk]
def isA (d : D) (m : Mem) (T : String) : Option Bool := match tyS m d with | some a => isaB a T | none => none
theorem isi_some {T : String} {c : Bool} (h : isA d m T = some c) : isiD [d, .ty T] m q = q (.bl c) m := by
  unfold isA at h
  unfold isiD
  dsimp only
  cases e : tyS m d with
  | none => rw [e] at h; cases h
  | some s =>
    rw [e] at h
    dsimp only at h ⊢
    rw [h]
theorem isi_int_int : isiD [.int i, .ty "int"] m q = q (.bl true) m := rfl
theorem isi_int_bool : isiD [.int i, .ty "bool"] m q = q (.bl false) m := rfl
theorem isi_int_tuple : isiD [.int i, .ty "tuple"] m q = q (.bl false) m := rfl
theorem isi_tup_tuple : isiD [.tup xs, .ty "tuple"] m q = q (.bl true) m := rfl
theorem isi_ftup_tuple : isiD [.ftup xs, .ty "tuple"] m q = q (.bl true) m := rfl
theorem isi_tup_list : isiD [.tup xs, .ty "list"] m q = q (.bl false) m := rfl
theorem isi_tup_int : isiD [.tup xs, .ty "int"] m q = q (.bl false) m := rfl
theorem truD_b {c : Bool} : truD (.bl c) m = some c := rfl
theorem truD_t : truD (.tup xs) m = some (!xs.isEmpty) := rfl
theorem gTp_t {n : Nat} {t : DTGs} {ρ : DEnv} {q : DEnv → Mem → Prop} : gTp n t (.tup xs) ρ m q = (xs.length = n ∧ t xs ρ m q) := rfl
theorem gCn_c {t : DTG} {u : DTGs} {ρ : DEnv} {q : DEnv → Mem → Prop} : gCn t u (d :: ds) ρ m q = t d ρ m fun ρ' m' => u ds ρ' m' q := rfl
theorem gNl_n {ρ : DEnv} {q : DEnv → Mem → Prop} : gNl [] ρ m q = q ρ m := rfl
end
end L2.Lh

/-! instances, tuple.index -/
namespace L2.Lh
open PySem PySem.Spec PyProof.Rows

/-! ### t.index(k) that finds k -/
def tixD : DR2 := fun x y m q => match x, y with
  | .ftup xs, .int k => match intsOf xs with
    | some ns => k ∈ ns ∧ q (.int (ns.idxOf k : Nat)) m
    | none => False
  | _, _ => False
def isF : D → Prop
  | .ftup _ => True
  | _ => False
def dTix (to te : DTE) : DTE := fun ρ m q => to ρ m fun x m1 => isF x ∧ te ρ m1 fun y m2 => tixD x y m2 q
section
variable {X : Cx} {B : Bs} {o e : Expr} {es : List Expr} {to te : DTE} {t : DTA} {apos cpos pos : Pos}
theorem tixD_t {ns : List Int} {k : Int} {m : Mem} {q : DQ} : tixD (.ftup (ns.map D.int)) (.int k) m q = (k ∈ ns ∧ q (.int (ns.idxOf k : Nat)) m) := by
  unfold tixD
  dsimp only
  rw [intsOf_map]
theorem frz_tup {P : Program} {w : World} {H : Hp} {h : Heap} {a : Addr} {ob : Obj} {vs : List V} (hok : HOk P w H h) (e : H a = some (.frz ob (.tup vs))) : h.get? a = some ob ∧ ∃ its : List Value, Vals vs its ∧ IsTup h a its.toArray ∧ vs.length ≤ sizeLine := by
  obtain ⟨h1, hz, its, rv, ht⟩ := hok a _ e
  exact ⟨h1, its, rv, ht, hz⟩
theorem de_tix (ho : DE B X o to) (he : DE B X e te) (hbase : attributeBase o "index" X.env (eval o X.env) = eval o X.env := by rfl)
    (hfew : ((backTo cpos (starEach [e] X.env)).all (fun x => !x.1) && (backToKw cpos (keywordEach [] X.env)).all (fun x => x.1.isSome)
      && decide (([e] : List Expr).length + ([] : List Keyword).length + (if ([] : List Keyword).isEmpty then 0 else 1) < 30)) = true := by rfl)
    (hline : (apos.endLine == cpos.line) = true := by rfl) (hs : starEach [e] X.env = (false, eval e X.env) :: starEach [] X.env := by rfl) (hplain : (backTo cpos (starEach [] X.env)).any (·.1) = false := by rfl) :
    DE B X (.Call (.Attribute o "index" apos) [e] [] cpos) (dTix to te) := by
  refine ⟨fun pins s σ H Q I ⟨ρ, m, q, p, h, post⟩ => ?_⟩
  refine wpAny_Call_method_late hbase hfew hline rfl (thn (ho.run pins s σ H (fun v H1 => ∃ x m1, Rep X.K H1 x v ∧ Sim X.K H1 m1 ∧ Step H m H1 m1 ∧ isF x ∧ te ρ m1 fun y m2 => tixD x y m2 q) I ⟨ρ, m, _, p, h, fun x m1 v H1 h1 r1 s1 t1 => ⟨x, m1, r1, s1, t1, h1⟩⟩) fun v s1 ⟨vx, H1, I1, rv, x, m1, rx, sm1, t1, hf, h1⟩ => ?_)
  cases rx with
  | @ftup a ob vs xs hz nz rs =>
    cases (show v = Value.ref a from rv)
    obtain ⟨hob, its, rvs, htup, hlen⟩ := frz_tup I1.hok hz
    have hty : s1.heap.IsTuple a its.toArray := htup
    refine ⟨"tuple", _, PySem.F.plainAttrs_tuple, PySem.F.slot_tuple_index, PySem.F.type_tuple_index, (by obtain ⟨o', g1, g2, _⟩ := hty; exact ⟨o', g1, g2⟩), (fun b hb => by cases hb; exact ⟨ob, hob, nz⟩), ?_⟩
    rw [hs]
    refine Calls.callWith_builtin (by show (false || (backTo cpos (starEach [] X.env)).any (·.1)) = false; rw [hplain] <;> rfl) (Calls.evalArgs_plain ?_)
    show wpAny _ _ (spliced ((false, eval e X.env) :: backTo cpos (starEach [] X.env))) _ _ s1
    refine Calls.spliced_cons (thn (he.run pins s1 σ H1 (fun u H2 => ∃ y m2, Rep X.K H2 y u ∧ Sim X.K H2 m2 ∧ Step H1 m1 H2 m2 ∧ tixD (.ftup xs) y m2 q) I1 ⟨ρ, m1, _, p.next sm1 t1, h1, fun y m2 u H2 h2 r2 s2 t2 => ⟨y, m2, r2, s2, t2, h2⟩⟩) fun u s2 ⟨vy, H2, I2, ru, y, m2, ry, sm2, t2, h2⟩ => ?_)
    refine Calls.spliced_nil ?_
    unfold tixD at h2
    cases y with
    | int k =>
      dsimp only at h2
      split at h2
      · rename_i ns en
        have e1 := intsOf_ok en
        subst e1
        have rs2 := reps_ints rs
        subst rs2
        cases ry
        obtain ⟨tk, rfl⟩ := (show ∃ t, u = Value.int k t from ru)
        obtain ⟨_, its2, rv2, htup2, _⟩ := frz_tup I2.hok (t2.ext.frz _ _ _ hz)
        exact PySem.SeqAt.tuple_index_ints (show s2.heap.IsTuple a its2.toArray from htup2) rv2.ints h2.1 ⟨.int _, H2, I2.tok _, ⟨_, rfl⟩, post _ m2 _ H2 h2.2 (.int _) sm2 (t1.trans t2)⟩
      · exact h2.elim
    | _ => exact (show False from h2).elim
  | _ => exact (show False from hf).elim
/-- tuple of a list just made: its very object is known -/
theorem n_ftuple : CallN X (.type "tuple") (fun ds m q => q (.ftup ds) m) := by
  intro pins s σ H xs us Q I r ⟨a, ds, vs, m, q, e, ha, rs, hn, sim, h, post⟩
  subst e
  rw [Vals.ref1 r]
  obtain ⟨its, rv, pl, hz⟩ := I.list (SqL.of ha)
  refine call_tuple_list pl.isList (fun h' hk => ?_) (by rw [List.size_toArray, ← rv.length]; exact hz)
  have I1 : Inv X pins σ H { s with heap := h' } := I.kept (t' := s.toks) hk
  have nw : H h'.objs.size = none := I1.hok.fresh (Nat.le_refl _)
  have I2 : Inv X pins σ (upd H h'.objs.size (.frz { cls := .type "tuple", data := .seq its.toArray } (.tup vs))) { s with heap := h'.push { cls := .type "tuple", data := .seq its.toArray } } :=
    I1.laid (t' := s.toks) (fun b o e => Heap.get?_push_of_some _ e) (Nat.le_refl _) (show ObjOk X.prog X.w _ _ _ (.frz _ (.tup vs)) from ⟨Heap.get?_push_size _ rfl, hz, its, rv, IsTup.new _ _⟩)
  exact ⟨.ref h'.objs.size, _, I2, rfl, post (.ftup ds) m _ _ h (.ftup upd_same rfl (rs.mono (upd_new nw))) (sim.alloc nw) (Step.alloc nw)⟩
end
/-! ### instances -/
def putFD (f : Str) (v : D) : List (Str × D) → List (Str × D)
  | [] => [(f, v)]
  | (g, x) :: r => if g = f then (g, v) :: r else (g, x) :: putFD f v r
theorem RepF.put {K : PySem.W.Frag} {H : Hp} {f : Str} {d : D} {v : V} (r : Rep K H d v) : ∀ {fs : List (Str × D)} {fv : List (Str × V)}, RepF K H fs fv → RepF K H (putFD f d fs) (putF f v fv)
  | _, _, .nil => .cons ⟨rfl, r⟩ .nil
  | (g, x) :: fs, (g', x') :: fv, .cons ⟨e, q⟩ rest => by
    have e : g = g' := e
    subst e
    unfold putFD putF
    by_cases z : g = f
    · rw [if_pos z, if_pos z]; exact .cons ⟨rfl, r⟩ rest
    · rw [if_neg z, if_neg z]; exact .cons ⟨rfl, q⟩ (RepF.put r rest)
theorem RepF.look {K : PySem.W.Frag} {H : Hp} {f : Str} : ∀ {fs : List (Str × D)} {fv : List (Str × V)} {d : D}, RepF K H fs fv → fs.lookup f = some d → ∃ v, fv.lookup f = some v ∧ Rep K H d v
  | _, _, _, .nil, e => by cases e
  | (g, x) :: fs, (g', x') :: fv, d, .cons ⟨eg, q⟩ rest, e => by
    have eg : g = g' := eg
    subst eg
    rw [List.lookup_cons] at e ⊢
    cases z : (f == g) with
    | true => rw [z] at e; cases e; exact ⟨x', rfl, q⟩
    | false => rw [z] at e; exact RepF.look rest e
theorem RepF.lookN {K : PySem.W.Frag} {H : Hp} {f : Str} : ∀ {fs : List (Str × D)} {fv : List (Str × V)}, RepF K H fs fv → fs.lookup f = none → fv.lookup f = none
  | _, _, .nil, e => rfl
  | (g, x) :: fs, (g', x') :: fv, .cons ⟨eg, q⟩ rest, e => by
    have eg : g = g' := eg
    subst eg
    rw [List.lookup_cons] at e ⊢
    cases z : (f == g) with
    | true => rw [z] at e; cases e
    | false => rw [z] at e; exact RepF.lookN rest e
theorem RepF.len {K : PySem.W.Frag} {H : Hp} {fs : List (Str × D)} {fv : List (Str × V)} (r : RepF K H fs fv) : fs.length = fv.length := Paired.length r
/-- e.f -/
def dFld (C : Addr) (f : Str) (to : DTE) : DTE := fun ρ m q => to ρ m fun x m1 => ∃ a fs d, x = .ref a ∧ m1 a = some (.ins C fs) ∧ fs.lookup f = some d ∧ q d m1
/-- e.f = v -/
def dSetF (C : Addr) (f : Str) (te to : DTE) : DTS := fun E ρ m => te ρ m fun y m1 => to ρ m1 fun x m2 => ∃ a fs, x = .ref a ∧ m2 a = some (.ins C fs) ∧ fs.length < 1000 ∧ E.nx ρ (m2.set a (.ins C (putFD f y fs)))
section
variable {X : Cx} {B : Bs} {o e value : Expr} {es : List Expr} {to te : DTE} {t : DTA} {f : Str} {apos cpos pos pos' : Pos} {C : Addr}
theorem de_fld (c : Cls X.K C) (n : NoAttr X.K C f) (he : DE B X o to) (hb : attributeBase o f X.env (eval o X.env) = eval o X.env := by rfl) : DE B X (.Attribute o f pos) (dFld C f to) :=
  pe_imp (pe_fld he hb) fun σ H Q ⟨ρ, m, q, p, h, post⟩ => ⟨ρ, m, _, p, h, fun x m1 v H1 ⟨a, fs, d, ex, ea, el, hq⟩ r1 s1 t1 => by
    subst ex
    cases r1
    obtain ⟨dx, fv, e1, rf⟩ := s1 a _ ea
    obtain ⟨w, hw, rw'⟩ := rf.look el
    exact ⟨a, C, dx, fv, w, rfl, e1, c, n, hw, post d m1 w H1 hq rw' s1 t1⟩⟩
theorem ds_fld (c : Cls X.K C) (n : NoAttr X.K C f) (ha : DE B X o to) (hv : DE B X value te) (hs : swapsWith value (some (.Attribute o f pos')) pos.line X.env = pure false := by rfl) : DS B X (.Assign [.Attribute o f pos'] value pos) (dSetF C f te to) :=
  ps_imp (ps_fld ha hv hs) fun F σ H ⟨ρ, m, E, p, h, ok⟩ => ⟨ρ, m, _, p, h, fun y m1 v H1 h1 r1 s1 t1 => ⟨ρ, m1, _, p.next s1 t1, h1, fun x m2 u H2 ⟨a, fs, ex, ea, hl, hn⟩ r2 s2 t2 => by
    subst ex
    cases r2
    obtain ⟨dx, fv, e1, rf⟩ := s2 a _ ea
    have r1' := r1.mono t2.ext
    refine ⟨a, C, dx, fv, rfl, e1, c, n, by rw [← rf.len]; exact hl, ?_⟩
    have st : Step H2 m2 (upd H2 a (.ins C dx (putF f v fv))) (m2.set a (.ins C (putFD f y fs))) := Step.write s2 ea
    exact ok.nx ρ _ σ _ hn ((p.env.mono ((t1.trans t2).ext)).mono st.ext) (s2.write ea ⟨dx, _, upd_same, (rf.put r1').mono (upd_old s2 ea)⟩) ((t1.trans t2).trans st)⟩⟩
end
/-- o.m(..) -/
def dMeth (C : Addr) (mn : Str) (sp : DSp) (we : DWX) (to : DTE) (t : DTA) : DTE := fun ρ m q => to ρ m fun x m1 => ∃ a fs, x = .ref a ∧ m1 a = some (.ins C fs) ∧ fs.lookup mn = none ∧ t ρ m1 fun ds m2 => sp (x :: ds) m2 q fun cls m3 => we cls ρ m3
/-- a method of the text as it is called -/
structure MethAt (P : Program) (w : World) (K : PySem.W.Frag) (mg : Str → Option Value) (base : Heap) (k : Nat) (C : Addr) (mn : Str) (ps : List Str) (sp : DSp) where
  f : Addr
  fd : FuncData
  ok : FnD P w K mg base k f fd ps sp
  me : Meth K C mn f
  b : Binds K fd ps []
section
variable {X : Cx} {B : Bs} {o e : Expr} {es : List Expr} {to : DTE} {t : DTA} {sp : DSp} {we : DWX} {mn : Str} {apos pos : Pos} {C : Addr} {k : Nat} {ps : List Str}
theorem meth_run {fa : Addr} {fd : FuncData} {pins : List (Addr × Obj)} {σ : St} {H : Hp} {s : Shared} {Q : VK} {us : List Value} {vs : List V} (F : FnD X.prog X.w X.K X.mg X.base k fa fd ps sp) (hr : Room k X.A) (b : Binds X.K fd ps []) (tk : Takes X (upW X.K B we)) (I : Inv X pins σ H s) (r : Vals vs us)
    (h : upSp X.K sp vs H Q (WE (upW X.K B we) σ)) : wpAny (model X.prog X.w) X.A (call (.ref fa) us) (EP X pins σ Q) X.xe s := by
  have hl : us.length = ps.length := by rw [← r.length]; exact F.len _ _ _ _ h
  have bb := b s us I.kIn (by rw [List.append_nil]; exact hl)
  rw [List.append_nil] at bb
  exact runs_D F hr _ pins σ H s Q ⟨us, []⟩ us vs I (passAt tk σ) bb r h
theorem de_meth {pl : Sem Bool} (d : MethAt X.prog X.w X.K X.mg X.base k C mn ps sp) (c : Cls X.K C) (hr : Room k X.A) (tk : Takes X (upW X.K B we)) (he : DE B X o to) (ha : DA B X (e :: es) t)
    (hst : starEach (e :: es) X.env = (false, eval e X.env) :: starEach es X.env := by rfl) (hpl : (backTo pos (starEach es X.env)).any (·.1) = false := by rfl)
    (ht : eval (.Call (.Attribute o mn apos) (e :: es) [] pos) X.env = (do
      let ov ← eval o X.env
      standAt apos.atName
      let (f, first) ← holding [ov] (getMethod ov mn pl)
      callWith pos f first (backTo pos (starEach (e :: es) X.env)) (backToKw pos (keywordEach [] X.env))) := by rfl) :
    DE B X (.Call (.Attribute o mn apos) (e :: es) [] pos) (dMeth C mn sp we to t) := by
  refine ⟨fun pins s σ H Q I ⟨ρ, m, q, p, h, post⟩ => ?_⟩
  refine PySem.W.methodCall_KW (pl := pl) (thn (he.run pins s σ H (fun v H1 => ∃ a m1 dx fv fs, v = .ref a ∧ H1 a = some (.ins C dx fv) ∧ fv.lookup mn = none ∧ m1 a = some (.ins C fs) ∧ Sim X.K H1 m1 ∧ Step H m H1 m1 ∧ t ρ m1 fun ds m2 => sp (.ref a :: ds) m2 q fun cls m3 => we cls ρ m3) I ⟨ρ, m, _, p, h, fun x m1 v H1 ⟨a, fs, ex, ea, el, h1⟩ r1 s1 t1 => by
    subst ex
    cases r1
    obtain ⟨dx, fv, e1, rf⟩ := s1 a _ ea
    exact ⟨a, m1, dx, fv, fs, rfl, e1, rf.lookN el, ea, s1, t1, h1⟩⟩) fun v s1 ⟨vx, H1, I1, rv, a, m1, dx, fv, fs, ev, e1, ln, ea, sm1, t1, h1⟩ => ?_) ht
  subst ev
  cases (show v = Value.ref a from rv)
  refine getmeth_ok I1 e1 c d.me ln ?_
  refine PySem.W.callWith_K (first := [.ref a]) (h₀ := X.base) I.ok.mod.kin d.me.kp (thn (ha.run pos pins s1 σ H1 (fun vs H2 => upSp X.K sp (.ref a :: vs) H2 Q (WE (upW X.K B we) σ)) I1 ⟨ρ, m1, _, p.next sm1 t1, h1, fun ds m2 vs H2 h2 r2 s2 t2 =>
    ⟨.ref a :: ds, m2, q, _, .cons (.ref a) r2, s2, h2, fun d3 m3 v3 H3 h3 r3 s3 t3 => post d3 m3 v3 H3 h3 r3 s3 (t1.trans (t2.trans t3)), fun cls m3 H3 hq s3 t3 => ⟨rfl, ρ, m3, p.next s3 (t1.trans (t2.trans t3)), hq⟩⟩⟩) fun us s2 ⟨vs, H2, I2, r, q2⟩ => ⟨I2.kIn, ?_⟩) hst hpl
  exact meth_run (us := .ref a :: us) (vs := .ref a :: vs) d.ok hr d.b tk I2 (.cons rfl r) q2
theorem de_meth0 {pl : Sem Bool} (d : MethAt X.prog X.w X.K X.mg X.base k C mn ps sp) (c : Cls X.K C) (hr : Room k X.A) (tk : Takes X (upW X.K B we)) (he : DE B X o to)
    (ht : eval (.Call (.Attribute o mn apos) [] [] pos) X.env = (do
      let ov ← eval o X.env
      standAt apos.atName
      let (f, first) ← holding [ov] (getMethod ov mn pl)
      callWith pos f first (backTo pos (starEach [] X.env)) (backToKw pos (keywordEach [] X.env))) := by rfl) :
    DE B X (.Call (.Attribute o mn apos) [] [] pos) (dMeth C mn sp we to dNil) := by
  refine ⟨fun pins s σ H Q I ⟨ρ, m, q, p, h, post⟩ => ?_⟩
  refine PySem.W.methodCall_KW (pl := pl) (thn (he.run pins s σ H (fun v H1 => ∃ a dx fv, v = .ref a ∧ H1 a = some (.ins C dx fv) ∧ fv.lookup mn = none ∧ upSp X.K sp [.ref a] H1 Q (WE (upW X.K B we) σ)) I ⟨ρ, m, _, p, h, fun x m1 v H1 ⟨a, fs, ex, ea, el, h1⟩ r1 s1 t1 => by
    subst ex
    cases r1
    obtain ⟨dx, fv, e1, rf⟩ := s1 a _ ea
    exact ⟨a, dx, fv, rfl, e1, rf.lookN el, [.ref a], m1, q, _, .cons (.ref a) .nil, s1, h1, fun d3 m3 v3 H3 h3 r3 s3 t3 => post d3 m3 v3 H3 h3 r3 s3 (t1.trans t3), fun cls m3 H3 hq s3 t3 => ⟨rfl, ρ, m3, p.next s3 (t1.trans t3), hq⟩⟩⟩) fun v s1 ⟨vx, H1, I1, rv, a, dx, fv, ev, e1, ln, h1⟩ => ?_) ht
  subst ev
  cases (show v = Value.ref a from rv)
  refine getmeth_ok I1 e1 c d.me ln ?_
  exact PySem.W.callWith_K0 (first := [.ref a]) I1.kIn d.me.kp (meth_run (us := [.ref a]) (vs := [.ref a]) d.ok hr d.b tk I1 (.cons rfl .nil) h1)
end
/-- C(..) -/
def dMake (C : Addr) (sp : DSp) (we : DWX) (t : DTA) : DTE := fun ρ m q => t ρ m fun ds m1 => ∀ a, m1 a = none → sp (.ref a :: ds) (m1.set a (.ins C [])) (fun d m2 => d = .non ∧ q (.ref a) m2) fun cls m3 => we cls ρ m3
section
variable {X : Cx} {B : Bs} {e : Expr} {es : List Expr} {t : DTA} {sp : DSp} {qe : Value → Mem → Prop} {x : Str} {p pos : Pos} {C : Addr} {k : Nat} {ps : List Str}
/-- what is asked of an error, whatever stands in the slots -/
def upE0 (K : PySem.W.Frag) (B : Bs) (qe : Value → Mem → Prop) : XK := fun cls d H => d = none ∧ ∃ m, Sim K H m ∧ Step B.H B.m H m ∧ qe cls m
theorem passes0 (tk : Takes X (upW X.K B fun cls _ m => qe cls m)) : Passes (L2.CX X.prog X.w) X (upE0 X.K B qe) := fun pins σ H s e s' I c =>
  tk e s' (XE.of_call I (fun cls d H' ⟨e1, m', s1, st, hq⟩ => ⟨e1, σ.map fun _ => none, m', ⟨(by
    clear hq st s1 e1 c I
    induction σ with
    | nil => exact .nil
    | cons v σ ih => exact .cons trivial ih), s1, st⟩, hq⟩) c)
theorem de_make {f : Addr} {fd : FuncData} (M : Mk X.K C f) (F : FnD X.prog X.w X.K X.mg X.base k f fd ps sp) (b : Binds X.K fd ps []) (hr : Room (k + 1) X.A) (hg : Gl X x) (hm : X.mg x = some (.ref C)) (tk : Takes X (upW X.K B fun cls _ m => qe cls m)) (ha : DA B X (e :: es) t)
    (hdb : (x == ("__debug__" : Str)) = false := by decide) (he : starEach (e :: es) X.env = (false, eval e X.env) :: starEach es X.env := by rfl) (hpl : (backTo pos (starEach es X.env)).any (·.1) = false := by rfl) :
    DE B X (.Call (.Name x p) (e :: es) [] pos) (dMake C sp (fun cls _ m => qe cls m) t) :=
  pe_imp (pe_make (dvs := []) M F hr hg hm b .nil (passes0 tk) ha hdb he hpl) fun σ H Q ⟨ρ, m, q, pr, h, post⟩ => ⟨ρ, m, _, pr, h, fun ds m1 vs H1 h1 r1 s1 t1 a dx na nd hne => by
    rw [List.append_nil]
    have n2 : upd H1 dx (.own a) a = none := by rw [upd_ne hne.symm]; exact na
    have st : Step H1 m1 (upd (upd H1 dx (.own a)) a (.ins C dx [])) (m1.set a (.ins C [])) := (Step.alloc nd).trans (Step.allocM n2)
    refine ⟨.ref a :: ds, m1.set a (.ins C []), _, _, .cons (.ref a) ((r1.mono (upd_new nd)).mono (upd_new n2)), (s1.alloc nd).allocM n2 ⟨dx, [], upd_same, .nil⟩, h1 a (s1.free na), fun d3 m3 v3 H3 ⟨e3, h3⟩ r3 s3 t3 => ?_, fun cls m3 H3 hq s3 t3 => ⟨rfl, m3, s3, (pr.st.trans t1).trans (st.trans t3), hq⟩⟩
    subst e3
    cases r3
    exact ⟨rfl, post _ m3 _ H3 h3 (.ref a) s3 (t1.trans (st.trans t3))⟩⟩
end
end L2.Lh

/-! tuples whose very object is known; what the memory holds, by grind -/
namespace L2.Lh
open PySem PySem.Spec PyProof.Rows
def sp5 (f : D → D → D → D → D → Mem → DQ → (Value → Mem → Prop) → Prop) : DSp := fun ds m q qe => match ds with | [a, b, c, d, e] => f a b c d e m q qe | _ => False
theorem sp5_at {f} {ds : List D} {m q qe} (h : sp5 f ds m q qe) : ∃ a b c d e, ds = [a, b, c, d, e] ∧ f a b c d e m q qe := by
  match ds, h with
  | [a, b, c, d, e], h => exact ⟨a, b, c, d, e, rfl, h⟩
theorem sp5_len {f} {ds : List D} {m q qe} (h : sp5 f ds m q qe) : ds.length = 5 := by obtain ⟨a, b, c, d, e, z, _⟩ := sp5_at h; rw [z]; rfl
def sp6 (f : D → D → D → D → D → D → Mem → DQ → (Value → Mem → Prop) → Prop) : DSp := fun ds m q qe => match ds with | [a, b, c, d, e, g] => f a b c d e g m q qe | _ => False
theorem sp6_at {f} {ds : List D} {m q qe} (h : sp6 f ds m q qe) : ∃ a b c d e g, ds = [a, b, c, d, e, g] ∧ f a b c d e g m q qe := by
  match ds, h with
  | [a, b, c, d, e, g], h => exact ⟨a, b, c, d, e, g, rfl, h⟩
theorem sp6_len {f} {ds : List D} {m q qe} (h : sp6 f ds m q qe) : ds.length = 6 := by obtain ⟨a, b, c, d, e, g, z, _⟩ := sp6_at h; rw [z]; rfl
section
variable {X : Cx} {B : Bs}
/-- tuple(range(n)) -/
def dTupRgF (ta : DTE) : DTE := fun ρ m q => dRg1 ta (fun ds m' => q (.ftup ds) m') ρ m
theorem de_tupRgF1 {a : Expr} {ta : DTE} {p p2 pos pos2 : Pos} (hc : X.calm = true) (hg : Gl X "tuple") (hm : X.mg "tuple" = none) (hg2 : Gl X "range") (hm2 : X.mg "range" = none) (ha : DE B X a ta)
    (na : starEach [a] X.env = (false, eval a X.env) :: starEach [] X.env := by rfl) (ne : starEach [Expr.Call (.Name "range" p2) [a] [] pos2] X.env = (false, eval (.Call (.Name "range" p2) [a] [] pos2) X.env) :: starEach [] X.env := by rfl) :
    DE B X (.Call (.Name "tuple" p) [.Call (.Name "range" p2) [a] [] pos2] [] pos) (dTupRgF ta) := by
  refine ⟨fun pins s σ H Q I ⟨ρ, m, q, p, h, post⟩ => ?_⟩
  have he := prg_1 hg2 hm2 ha na (pos := pos2) (p := p2)
  refine Call_ (ld_blt I hg hm boot_tuple (PyProof.Rows.callWith_type1 (args_cons (thn (he pins s σ H (fun a b H1 => a = 0 ∧ ∃ m1 n, b = n ∧ Sim X.K H1 m1 ∧ Step H m H1 m1 ∧ RgOk 0 n ∧ q (.ftup (rngD 0 n.toNat)) m1) I ⟨ρ, m, _, p, h, fun d m1 v H1 h1 r1 s1 t1 => by
    cases d with
    | int n => cases r1; exact ⟨n, rfl, rfl, m1, n, rfl, s1, t1, h1.1, h1.2⟩
    | _ => exact (show False from h1).elim⟩) fun x s1 ⟨r, a, b, t, u, v, H1, ex, hr, I1, ea, m1, n, eb, sm, st, ok, hq⟩ => args_nil ?_) ne) ne))
  subst ex ea eb
  obtain ⟨b1, b2, b3, b4, b5⟩ := ok
  refine call_tuple_range (n := (b - 0).toNat) (I1.ok.hd hc) hr (small_one b1 b2 b3 b4) (rangeSize_nat 0 b) b5 fun h' tk acc hk hi => ?_
  have I2 : Inv X pins σ H1 { s1 with heap := h', toks := tk } := I1.kept hk
  have nw : H1 h'.objs.size = none := I2.hok.fresh (Nat.le_refl _)
  have rr : Reps X.K H1 (rngD 0 b.toNat) (rgV 0 b) := by
    rw [rgV_eq, Int.sub_zero]
    exact reps_rng 0 _
  refine ⟨.ref h'.objs.size, upd H1 h'.objs.size (.frz { cls := .type "tuple", data := .seq acc } (.tup (rgV 0 b))), I2.laid (t' := tk) (fun c o e => Heap.get?_push_of_some _ e) (Nat.le_refl _) (show ObjOk X.prog X.w _ _ _ (.frz _ (.tup (rgV 0 b))) from ⟨Heap.get?_push_size _ rfl, ?_, acc.toList, vals_rg hi, ?_⟩), rfl,
    post (.ftup (rngD 0 b.toNat)) m1 _ _ hq (.ftup upd_same rfl (rr.mono (upd_new nw))) (sm.alloc nw) (st.trans (Step.alloc nw))⟩
  · rw [rgV_length, sizeLine_eq]; omega
  · rw [Array.toArray_toList]; exact IsTup.new _ _
/-- tuple(xs) of a list -/
def ftupleD : DRC
  | [.ftup xs], m, q => q (.ftup xs) m
  | [.ref a], m, q => match m a with
    | some (.lst xs) => q (.ftup xs) m
    | _ => False
  | _, _, _ => False
theorem ftupleD_f {xs : List D} {m : Mem} {q : DQ} : ftupleD [.ftup xs] m q = q (.ftup xs) m := rfl
theorem ftupleD_r {a : Addr} {xs : List D} {m : Mem} {q : DQ} (h : m a = some (.lst xs)) : ftupleD [.ref a] m q = q (.ftup xs) m := by
  unfold ftupleD; dsimp only; rw [h]
theorem c_ftuple : CallD X (.type "tuple") ftupleD := by
  intro pins s σ H xs us Q I r ⟨ds, m, q, rs, sim, h, post⟩
  unfold ftupleD at h
  split at h
  · obtain ⟨v, rfl, rv⟩ := reps1 rs
    cases rv with
    | ftup h1 n1 q1 => exact call_tuple_of pins s σ H _ us Q I r ⟨_, _, rfl, .inr ⟨.inl (.inr ⟨_, h1⟩), post.here h (.ftup h1 n1 q1) sim⟩⟩
  · rename_i a
    split at h
    · rename_i ys q2
      obtain ⟨v, rfl, rv⟩ := reps1 rs
      cases rv
      obtain ⟨vs, hv, rr⟩ := sim a _ q2
      rw [Vals.ref1 r]
      obtain ⟨its, rv, pl, hz⟩ := I.list (SqL.of hv)
      refine call_tuple_list pl.isList (fun h' hk => ?_) (by rw [List.size_toArray, ← rv.length]; exact hz)
      have I1 : Inv X pins σ H { s with heap := h' } := I.kept (t' := s.toks) hk
      have nw : H h'.objs.size = none := I1.hok.fresh (Nat.le_refl _)
      have I2 : Inv X pins σ (upd H h'.objs.size (.frz { cls := .type "tuple", data := .seq its.toArray } (.tup vs))) { s with heap := h'.push { cls := .type "tuple", data := .seq its.toArray } } :=
        I1.laid (t' := s.toks) (fun b o e => Heap.get?_push_of_some _ e) (Nat.le_refl _) (show ObjOk X.prog X.w _ _ _ (.frz _ (.tup vs)) from ⟨Heap.get?_push_size _ rfl, hz, its, rv, IsTup.new _ _⟩)
      exact ⟨.ref h'.objs.size, _, I2, rfl, post (.ftup ys) m _ _ h (.ftup upd_same rfl (rr.mono (upd_new nw))) (sim.alloc nw) (Step.alloc nw)⟩
    · exact h.elim
  · exact h.elim
end
end L2.Lh

/-! dicts: keys that are ints and texts (dK), keys that are tuples, nested (dN) -/
namespace L2.Lh
open PySem PySem.Spec PyProof.Rows

/-! ### association lists -/
section
variable {κ β : Type} [DecidableEq κ]
def valG (kvs : List (κ × β)) (k : κ) : Option β := (kvs.find? fun kv => decide (kv.1 = k)).map (·.2)
def putG (kvs : List (κ × β)) (k : κ) (v : β) : List (κ × β) :=
  if (valG kvs k).isSome then kvs.map (fun kv => if kv.1 = k then (kv.1, v) else kv) else kvs ++ [(k, v)]
theorem valG_nil (k : κ) : valG ([] : List (κ × β)) k = none := rfl
theorem valG_cons (p : κ × β) (r : List (κ × β)) (k : κ) : valG (p :: r) k = if p.1 = k then some p.2 else valG r k := by
  unfold valG
  by_cases h : p.1 = k <;> simp [List.find?_cons, h]
theorem valG_none {kvs : List (κ × β)} {k : κ} : valG kvs k = none ↔ k ∉ kvs.map (·.1) := by
  induction kvs with
  | nil => simp [valG_nil]
  | cons p r ih =>
    rw [valG_cons]
    by_cases h : p.1 = k
    · simp [h]
    · have h' : ¬ k = p.1 := fun e => h e.symm
      simp [h, h', ih]
theorem valG_some {kvs : List (κ × β)} {k : κ} : (valG kvs k).isSome = true ↔ k ∈ kvs.map (·.1) := by
  have := valG_none (kvs := kvs) (k := k)
  cases e : valG kvs k with
  | none => rw [e] at this; simpa using this
  | some v =>
    rw [e] at this
    simp only [Option.isSome_some, true_iff]
    simp only [reduceCtorEq, false_iff, Decidable.not_not] at this
    exact this
theorem putG_new {kvs : List (κ × β)} {k : κ} (v : β) (h : valG kvs k = none) : putG kvs k v = kvs ++ [(k, v)] := by unfold putG; rw [h]; rfl
theorem valG_app (kvs l : List (κ × β)) (k : κ) : valG (kvs ++ l) k = (valG kvs k).or (valG l k) := by
  induction kvs with
  | nil => simp [valG_nil]
  | cons p r ih =>
    rw [List.cons_append, valG_cons, valG_cons, ih]
    by_cases h : p.1 = k <;> simp [h]
theorem valG_map (kvs : List (κ × β)) (k j : κ) (v : β) : valG (kvs.map fun kv => if kv.1 = k then (kv.1, v) else kv) j = (valG kvs j).map fun x => if j = k then v else x := by
  induction kvs with
  | nil => rfl
  | cons p r ih =>
    rw [List.map_cons, valG_cons, valG_cons, ih]
    by_cases h : p.1 = j
    · by_cases h2 : p.1 = k
      · have : j = k := by rw [← h, h2]
        simp [h2, this]
      · have : ¬ j = k := fun e => h2 (by rw [h, e])
        simp [h2, h, this]
    · by_cases h2 : p.1 = k
      · have : ¬ k = j := fun e => h (h2.trans e)
        simp [h2, this]
      · simp [h, h2]
theorem valG_put (kvs : List (κ × β)) (k j : κ) (v : β) : valG (putG kvs k v) j = if j = k then some v else valG kvs j := by
  unfold putG
  cases e : valG kvs k with
  | some x =>
    simp only [Option.isSome_some, if_true]
    rw [valG_map]
    by_cases h : j = k
    · subst h; simp [e]
    · simp [h]
  | none =>
    simp only [Option.isSome_none, Bool.false_eq_true, if_false]
    rw [valG_app, valG_cons, valG_nil]
    by_cases h : j = k
    · subst h; simp [e]
    · have : ¬ k = j := fun e => h e.symm
      simp [h, this]
theorem putG_len (kvs : List (κ × β)) (k : κ) (v : β) : (putG kvs k v).length ≤ kvs.length + 1 := by
  unfold putG; split
  · rw [List.length_map]; omega
  · rw [List.length_append]; simp
end

/-! ### keys -/
theorem isTup_at {h : Heap} {a : Addr} {vs : Array Value} (t : IsTup h a vs) : ∃ o, h.get? a = some o ∧ o.cls = .type "tuple" ∧ ∃ n, o.data = .seq vs n := t
mutual
theorem nested_of {P : Program} {w : World} {K : PySem.W.Frag} {H : Hp} {h : Heap} (hok : HOk P w H h) : ∀ {d : D} {v : V} {u : Value} {k : NestedKey}, Rep K H d v → keyN d = some k → RelV v u → NestedIs h k u
  | _, _, _, _, .non, e, r => by cases e; cases r; exact .none
  | _, _, _, _, .bl b, e, r => by cases e
  | _, _, _, _, .int i, e, r => by cases e; obtain ⟨t, rfl⟩ := r; exact .int i t
  | _, _, _, _, .str x, e, r => by cases e
  | _, _, _, _, .ty x, e, r => by cases e
  | _, _, _, _, .ref x, e, r => by cases e
  | _, _, _, _, .rol _ _, e, r => by cases e
  | .tup xs, _, _, _, .tup (a := a) (vs := vs) g rs, e, r => by
    cases r
    rw [keyN] at e
    cases q : keyNs xs with
    | none => rw [q] at e; cases e
    | some ks =>
      rw [q] at e; cases e
      obtain ⟨_, its, rv, t⟩ := hok a _ g
      obtain ⟨o, e1, e2, n, e3⟩ := isTup_at t
      exact .tup e1 e2 e3 (by simpa using nesteds_of hok rs q rv)
  | .ftup xs, _, _, _, .ftup (a := a) (vs := vs) g _ rs, e, r => by
    cases r
    rw [keyN] at e
    cases q : keyNs xs with
    | none => rw [q] at e; cases e
    | some ks =>
      rw [q] at e; cases e
      obtain ⟨_, _, its, rv, t⟩ := hok a _ g
      obtain ⟨o, e1, e2, n, e3⟩ := isTup_at t
      exact .tup e1 e2 e3 (by simpa using nesteds_of hok rs q rv)
theorem nesteds_of {P : Program} {w : World} {K : PySem.W.Frag} {H : Hp} {h : Heap} (hok : HOk P w H h) : ∀ {ds : List D} {vs : List V} {us : List Value} {ks : List NestedKey}, Reps K H ds vs → keyNs ds = some ks → Vals vs us → NestedAll h ks us
  | _, _, _, _, .nil, e, r => by cases e; cases r; exact .nil
  | d :: ds, _, _, _, .cons g rs, e, r => by
    rw [keyNs] at e
    cases q1 : keyN d with
    | none => rw [q1] at e; cases e
    | some k =>
      cases q2 : keyNs ds with
      | none => rw [q1, q2] at e; cases e
      | some ks =>
        rw [q1, q2] at e; cases e
        cases r with
        | cons r1 r2 => exact .cons (nested_of hok g q1 r1) (nesteds_of hok rs q2 r2)
end
mutual
theorem hash_any : ∀ {d : D} {k : NestedKey}, keyN d = some k → ∀ w w' : World, k.hash w = k.hash w'
  | .non, _, e, w, w' => by cases e; rfl
  | .int i, _, e, w, w' => by cases e; rfl
  | .bl _, _, e, _, _ => by cases e
  | .str _, _, e, _, _ => by cases e
  | .ty _, _, e, _, _ => by cases e
  | .ref _, _, e, _, _ => by cases e
  | .rol _, _, e, _, _ => by cases e
  | .tup xs, _, e, w, w' => by
    rw [keyN] at e
    cases q : keyNs xs with
    | none => rw [q] at e; cases e
    | some ks => rw [q] at e; cases e; rw [NestedKey.hash, NestedKey.hash, hashes_any q w w']
  | .ftup xs, _, e, w, w' => by
    rw [keyN] at e
    cases q : keyNs xs with
    | none => rw [q] at e; cases e
    | some ks => rw [q] at e; cases e; rw [NestedKey.hash, NestedKey.hash, hashes_any q w w']
theorem hashes_any : ∀ {ds : List D} {ks : List NestedKey}, keyNs ds = some ks → ∀ w w' : World, NestedKey.hashes w ks = NestedKey.hashes w' ks
  | [], _, e, w, w' => by cases e; rfl
  | d :: ds, _, e, w, w' => by
    rw [keyNs] at e
    cases q1 : keyN d with
    | none => rw [q1] at e; cases e
    | some k =>
      cases q2 : keyNs ds with
      | none => rw [q1, q2] at e; cases e
      | some ks => rw [q1, q2] at e; cases e; rw [NestedKey.hashes, NestedKey.hashes, hash_any q1 w w', hashes_any q2 w w']
end
theorem KeyRep.is {P : Program} {w : World} {K : PySem.W.Frag} {H : Hp} {h : Heap} (hok : HOk P w H h) {k : NestedKey} {a : Addr} (r : KeyRep K H k a) : (nestedKind P w).is h k a :=
  let ⟨_, rd, e, z⟩ := r; ⟨nested_of hok rd e rfl, z⟩
theorem KeyRep.hash {K : PySem.W.Frag} {H : Hp} {k : NestedKey} {a : Addr} (r : KeyRep K H k a) (w w' : World) : k.hash w = k.hash w' := let ⟨_, _, e, _⟩ := r; hash_any e w w'
/-- a dict of tuple keys as it stands -/
theorem RawN.dict {P : Program} {w : World} {K : PySem.W.Frag} {H : Hp} {h : Heap} (hok : HOk P w H h) {a : Addr} {kvs : List (NestedKey × D)} {es : Array DictEntry} {ep : Nat} {xs : List (NestedKey × Addr × Value)} (e : H a = some (.ext (rawIs a es ep))) (r : RawN K H a kvs es ep xs) :
    h.DictOfH (nestedKind P w) a xs := by
  obtain ⟨⟨o, h1, h2, h3⟩, _, _⟩ := hok a _ e
  refine ⟨o, es, ep, h1, h2, h3, r.ent P w, fun x hx => ?_, r.nd⟩
  have : ∀ {kvs : List (NestedKey × D)} {xs : List (NestedKey × Addr × Value)}, RepN K H kvs xs → ∀ x ∈ xs, KeyRep K H x.1 x.2.1 := by
    intro kvs xs r
    induction r with
    | nil => intro x hx; cases hx
    | cons q _ ih =>
      intro x hx
      rcases List.mem_cons.mp hx with e | hx
      · subst e; exact q.2.1
      · exact ih x hx
  exact (this r.rel x hx).is hok
theorem RepN.val {K : PySem.W.Frag} {H : Hp} {kvs : List (NestedKey × D)} {xs : List (NestedKey × Addr × Value)} (r : RepN K H kvs xs) (k : NestedKey) :
    (valG kvs k = none ∧ atKey xs k = none) ∨ ∃ d v p, valG kvs k = some d ∧ atKey xs k = some p ∧ Rep K H d v ∧ RelV v p.2 := by
  induction r with
  | nil => exact .inl ⟨rfl, rfl⟩
  | @cons p x ps xs q _ ih =>
    rw [valG_cons]
    unfold atKey at ih ⊢
    rw [List.find?_cons]
    by_cases h : p.1 = k
    · have h' : x.1 = k := q.1.symm.trans h
      obtain ⟨_, _, v, rd, rv⟩ := q
      rw [if_pos h, decide_eq_true h']
      exact .inr ⟨_, v, x.2, rfl, rfl, rd, rv⟩
    · have h' : ¬ x.1 = k := fun e => h (q.1.trans e)
      rw [if_neg h, decide_eq_false h']
      exact ih
theorem RepN.len {K : PySem.W.Frag} {H : Hp} {kvs : List (NestedKey × D)} {xs : List (NestedKey × Addr × Value)} (r : RepN K H kvs xs) : kvs.length = xs.length := Paired.length r
theorem RepN.app {K : PySem.W.Frag} {H : Hp} {kvs ks : List (NestedKey × D)} {xs ys : List (NestedKey × Addr × Value)} (r : RepN K H kvs xs) (s : RepN K H ks ys) : RepN K H (kvs ++ ks) (xs ++ ys) := by
  induction r with
  | nil => exact s
  | cons q _ ih => exact .cons q ih
theorem RepN.put {K : PySem.W.Frag} {H : Hp} {kvs : List (NestedKey × D)} {xs : List (NestedKey × Addr × Value)} (r : RepN K H kvs xs) {k : NestedKey} {b : Addr} {d : D} {v : V} {u : Value} (hk : KeyRep K H k b) (rd : Rep K H d v) (rv : RelV v u) :
    RepN K H (putG kvs k d) (storedH xs k b u) := by
  unfold putG storedH
  have hs : (valG kvs k).isSome = (atKey xs k).isSome := by
    rcases r.val k with ⟨e1, e2⟩ | ⟨_, _, _, e1, e2, _⟩ <;> rw [e1, e2] <;> rfl
  rw [hs]
  cases (atKey xs k).isSome with
  | false => exact r.app (.cons ⟨rfl, hk, v, rd, rv⟩ .nil)
  | true =>
    clear hs
    simp only [if_true]
    induction r with
    | nil => exact .nil
    | @cons p x ps xs q _ ih =>
      rw [List.map_cons, List.map_cons]
      refine .cons ?_ ih
      unfold putAt
      by_cases h : p.1 = k
      · have h' : x.1 = k := q.1.symm.trans h
        rw [if_pos h, if_pos h']
        exact ⟨q.1, q.2.1, v, rd, rv⟩
      · have h' : ¬ x.1 = k := fun e => h (q.1.trans e)
        rw [if_neg h, if_neg h']
        exact q
theorem storedH_len (xs : List (NestedKey × Addr × Value)) (k : NestedKey) (b : Addr) (u : Value) : (storedH xs k b u).length ≤ xs.length + 1 := by
  unfold storedH; split
  · rw [List.length_map]; omega
  · rw [List.length_append]; simp
theorem RepN.keys {K : PySem.W.Frag} {H : Hp} {kvs : List (NestedKey × D)} {xs : List (NestedKey × Addr × Value)} (r : RepN K H kvs xs) : ∀ x ∈ xs, KeyRep K H x.1 x.2.1 := by
  induction r with
  | nil => intro x hx; cases hx
  | cons q _ ih =>
    intro x hx
    rcases List.mem_cons.mp hx with e | hx
    · subst e; exact q.2.1
    · exact ih x hx
/-- a store -/
theorem RawN.stored {P : Program} {w : World} {K : PySem.W.Frag} {H : Hp} {a : Addr} {kvs : List (NestedKey × D)} {es : Array DictEntry} {ep : Nat} {xs : List (NestedKey × Addr × Value)} (r : RawN K H a kvs es ep xs) (hz : kvs.length < sizeLine) {k : NestedKey} {b : Addr} {d : D} {v : V} {u : Value} (hk : KeyRep K H k b) (rd : Rep K H d v) (rv : RelV v u)
    {h' : Heap} (hm : h'.DictOfH (nestedKind P w) a (storedH xs k b u)) : ∃ es' ep', rawIs a es' ep' h' ∧ RawN K H a (putG kvs k d) es' ep' (storedH xs k b u) := by
  obtain ⟨o, es', ep', h1, h2, h3, h4, _, h6⟩ := hm
  have rp := r.rel.put hk rd rv
  refine ⟨es', ep', ⟨o, h1, h2, h3⟩, fun P' w' => ?_, h6, ?_, r.sys, rp⟩
  · rw [h4]
    refine List.map_congr_left fun x hx => ?_
    unfold entryOfKey
    have : (nestedKind P w).hash x.1 = (nestedKind P' w').hash x.1 := (rp.keys x hx).hash w w'
    rw [this]
  · have := storedH_len xs k b u
    have := r.rel.len
    omega
section
variable {X : Cx} {pins : List (Addr × Obj)} {σ : St} {H : Hp} {s : Shared} {a b : Addr}
theorem ext_new {P : Program} {w : World} {H : Hp} {h : Heap} {a : Addr} {es : Array DictEntry} {ep : Nat} (r : rawIs a es ep h) : ObjOk P w H h a (.ext (rawIs a es ep)) :=
  ⟨r, (let ⟨o, e, _⟩ := r; ⟨o, e⟩), fun h1 h2 ⟨o, e, q⟩ k => ⟨o, k o e, q⟩⟩
theorem roomN {A : Around} (hu : A.units + 64 < cLine) {P : Program} {w : World} : (nestedKind P w).room A.in1 := by
  show A.units + 1 + 8 < cLine
  omega
end

/-! ### what is read and stored -/
def keyK : D → Option Key
  | .int i => some (.inl i)
  | .str x => some (.inr x)
  | _ => none
theorem keyK_rep {K : PySem.W.Frag} {H : Hp} {d : D} {v : V} {k : Key} (r : Rep K H d v) (e : keyK d = some k) : v = kV k := by
  cases r <;> cases e <;> rfl
theorem RepK.val {K : PySem.W.Frag} {H : Hp} {kvs : List (Key × D)} {kv : List (Key × V)} (r : RepK K H kvs kv) (k : Key) : (valG kvs k = none ∧ valV kv k = none) ∨ ∃ d v, valG kvs k = some d ∧ valV kv k = some v ∧ Rep K H d v := by
  induction r with
  | nil => exact .inl ⟨rfl, rfl⟩
  | @cons p x ps xs q _ ih =>
    rw [valG_cons]
    by_cases h : p.1 = k
    · have h' : x.1 = k := q.1.symm.trans h
      rw [if_pos h, valV_pos h']
      exact .inr ⟨_, _, rfl, rfl, q.2⟩
    · have h' : ¬ x.1 = k := fun e => h (q.1.trans e)
      rw [if_neg h, valV_neg h']
      exact ih
theorem RepK.len {K : PySem.W.Frag} {H : Hp} {kvs : List (Key × D)} {kv : List (Key × V)} (r : RepK K H kvs kv) : kvs.length = kv.length := Paired.length r
theorem RepK.put {K : PySem.W.Frag} {H : Hp} {kvs : List (Key × D)} {kv : List (Key × V)} (r : RepK K H kvs kv) (k : Key) {d : D} {v : V} (rd : Rep K H d v) : RepK K H (putG kvs k d) (putK kv k v) := by
  unfold putG putK
  have hs : (valG kvs k).isSome = (kv.any fun kv => decide (kv.1 = k)) := by
    rw [valV_any]
    rcases r.val k with ⟨e1, e2⟩ | ⟨_, _, e1, e2, _⟩ <;> rw [e1, e2] <;> rfl
  rw [hs]
  cases (kv.any fun kv => decide (kv.1 = k)) with
  | false =>
    simp only [Bool.false_eq_true, if_false]
    clear hs
    induction r with
    | nil => exact .cons ⟨rfl, rd⟩ .nil
    | cons q _ ih => exact .cons q ih
  | true =>
    clear hs
    simp only [if_true]
    induction r with
    | nil => exact .nil
    | @cons p x ps xs q _ ih =>
      rw [List.map_cons, List.map_cons]
      refine .cons ?_ ih
      by_cases h : p.1 = k
      · have h' : x.1 = k := q.1.symm.trans h
        rw [if_pos h, if_pos h']
        exact ⟨q.1, rd⟩
      · have h' : ¬ x.1 = k := fun e => h (q.1.trans e)
        rw [if_neg h, if_neg h']
        exact q
def keyD (y : D) : Option NestedKey := match keyN y with
  | some k => if k.depth ≤ 8 then some k else none
  | none => none
def keyT : D → Option NestedKey
  | .tup xs => keyD (.tup xs)
  | .ftup xs => keyD (.ftup xs)
  | _ => none
theorem keyD_of {y : D} {k : NestedKey} (h : keyD y = some k) : keyN y = some k ∧ k.depth ≤ 8 := by
  unfold keyD at h
  split at h
  · rename_i k' e
    split at h
    · cases h; exact ⟨e, by assumption⟩
    · cases h
  · cases h
theorem keyT_rep {K : PySem.W.Frag} {H : Hp} {d : D} {v : V} {k : NestedKey} (r : Rep K H d v) (e : keyT d = some k) : ∃ b, v = .ref b ∧ KeyRep K H k b := by
  cases r with
  | tup g rs => obtain ⟨e1, e2⟩ := keyD_of (y := .tup _) e; exact ⟨_, rfl, _, .tup g rs, e1, e2⟩
  | ftup g n rs => obtain ⟨e1, e2⟩ := keyD_of (y := .ftup _) e; exact ⟨_, rfl, _, .ftup g n rs, e1, e2⟩
  | _ => cases e
/-- the value of a dict at a key: none is «no dict or no such key kind» -/
def getO (m : Mem) (x y : D) : Option (Option D) := match x with
  | .ref a => match m a with
    | some (.dK kvs) => (keyK y).map fun k => valG kvs k
    | some (.dN kvs) => (keyT y).map fun k => valG kvs k
    | some (.dR kvs _ _ _) => (keyT y).map fun k => valG kvs k
    | some (.dF kvs) => (keyK y).map fun k => valG kvs k
    | _ => none
  | _ => none
theorem getO_K {m : Mem} {a : Addr} {kvs : List (Key × D)} {y : D} {k : Key} (h : m a = some (.dK kvs)) (e : keyK y = some k) : getO m (.ref a) y = some (valG kvs k) := by
  unfold getO; dsimp only; rw [h]; dsimp only; rw [e]; rfl
theorem getO_N {m : Mem} {a : Addr} {kvs : List (NestedKey × D)} {y : D} {k : NestedKey} (h : m a = some (.dN kvs)) (e : keyT y = some k) : getO m (.ref a) y = some (valG kvs k) := by
  unfold getO; dsimp only; rw [h]; dsimp only; rw [e]; rfl
theorem getO_F {m : Mem} {a : Addr} {kvs : List (Key × D)} {y : D} {k : Key} (h : m a = some (.dF kvs)) (e : keyK y = some k) : getO m (.ref a) y = some (valG kvs k) := by
  unfold getO; dsimp only; rw [h]; dsimp only; rw [e]; rfl
theorem getO_L {m : Mem} {a : Addr} {xs : List D} {y : D} (h : m a = some (.lst xs)) : getO m (.ref a) y = none := by
  unfold getO; dsimp only; rw [h]
/-- what stands at a dict and a key -/
inductive DictSim (X : Cx) (H : Hp) (a : Addr) (y : D) (vy : V) (o : Option D) : Prop
  | k (kvs : List (Key × D)) (kv : List (Key × V)) (k : Key) : Rd H a (.dK kv) → RepK X.K H kvs kv → vy = kV k → o = valG kvs k → DictSim X H a y vy o
  | n (kvs : List (NestedKey × D)) (es : Array DictEntry) (ep : Nat) (xs : List (NestedKey × Addr × Value)) (k : NestedKey) (b : Addr) : H a = some (.ext (rawIs a es ep)) → RawN X.K H a kvs es ep xs → vy = .ref b → KeyRep X.K H k b → o = valG kvs k → DictSim X H a y vy o
theorem getO_sim {X : Cx} {H : Hp} {m : Mem} {x y : D} {vx vy : V} {o : Option D} (sim : Sim X.K H m) (rx : Rep X.K H x vx) (ry : Rep X.K H y vy) (e : getO m x y = some o) : ∃ a, vx = .ref a ∧ DictSim X H a y vy o := by
  unfold getO at e
  split at e
  · rename_i a
    cases rx
    refine ⟨a, rfl, ?_⟩
    split at e
    · rename_i kvs q
      obtain ⟨kv, h1, h2⟩ := sim a _ q
      cases q2 : keyK y with
      | none => rw [q2] at e; cases e
      | some k => rw [q2] at e; cases e; exact .k kvs kv k (.inl h1) h2 (keyK_rep ry q2) rfl
    · rename_i kvs q
      obtain ⟨es, ep, xs, h1, h2⟩ := sim a _ q
      cases q2 : keyT y with
      | none => rw [q2] at e; cases e
      | some k =>
        rw [q2] at e; cases e
        obtain ⟨b, eb, hk⟩ := keyT_rep ry q2
        exact .n kvs es ep xs k b h1 h2 eb hk rfl
    · rename_i kvs es ep ds q
      obtain ⟨h1, xs, h2, _⟩ := sim a _ q
      cases q2 : keyT y with
      | none => rw [q2] at e; cases e
      | some k =>
        rw [q2] at e; cases e
        obtain ⟨b, eb, hk⟩ := keyT_rep ry q2
        exact .n kvs es ep xs k b h1 h2 eb hk rfl
    · rename_i kvs q
      obtain ⟨od, kv, h1, h2⟩ := sim a _ q
      cases q2 : keyK y with
      | none => rw [q2] at e; cases e
      | some k => rw [q2] at e; cases e; exact .k kvs kv k (.inr ⟨od, h1⟩) h2 (keyK_rep ry q2) rfl
    · cases e
  · cases e
section
variable {X : Cx} {pins : List (Addr × Obj)} {σ : St} {H : Hp} {s : Shared} {a : Addr} {y : D} {vy : V} {u : Value} {o : Option D} {E : Value → Shared → Prop}
theorem DictSim.typeIs (I : Inv X pins σ H s) (g : DictSim X H a y vy o) : s.TypeIs (.ref a) "dict" ∧ (∀ b, Value.ref a = .ref b → ∃ ob, s.heap.get? b = some ob ∧ ob.dict = none) ∧ (a == sysModules) = false := by
  cases g with
  | k kvs kv k h1 h2 _ _ => exact isD_at I (.inl ⟨kv, h1⟩)
  | n kvs es ep xs k b h1 h2 _ _ _ =>
    refine ⟨(h2.dict I.hok h1).typeIs, fun c q => ?_, h2.sys⟩
    cases q
    obtain ⟨⟨ob, e1, e2, _⟩, _, _⟩ := I.hok a _ h1
    exact ⟨ob, e1, e2.2.1⟩
/-- d[y] -/
theorem DictSim.get (hu : X.A.units + 64 < cLine) (I : Inv X pins σ H s) {d : D} (g : DictSim X H a y vy (some d)) (ry : RelV vy u) {Q : Value → Shared → Prop} (h : ∀ w' v s', Inv X pins σ H s' → Rep X.K H d v → RelV v w' → Q w' s') :
    wpAny (model X.prog X.w) X.A (getItem (.ref a) u) Q E s := by
  cases g with
  | k kvs kv k h1 h2 ey ev =>
    rcases h2.val k with ⟨e1, _⟩ | ⟨d', v, e1, e2, rd⟩
    · rw [e1] at ev; cases ev
    · rw [e1] at ev; cases ev
      subst ey
      exact d_getItem (by omega) I (.inl ⟨kv, k, h1, rfl, e2.symm⟩) ry fun w' s' I' rv => h w' v s' I' rd rv
  | n kvs es ep xs k b h1 h2 ey hk ev =>
    subst ey
    cases ry
    rcases h2.rel.val k with ⟨e1, _⟩ | ⟨d', v, p, e1, e2, rd, rv⟩
    · rw [e1] at ev; cases ev
    · rw [e1] at ev; cases ev
      exact wpAny_getItem_heap (roomN hu) (hk.is I.hok) (h2.dict I.hok h1) e2 (h _ v _ (I.tok _) rd rv)
theorem DictSim.isIn (hu : X.A.units + 64 < cLine) (I : Inv X pins σ H s) (g : DictSim X H a y vy o) (ry : RelV vy u) {Q : Value → Shared → Prop} (h : ∀ s', Inv X pins σ H s' → Q (.bool o.isSome) s') :
    wpAny (model X.prog X.w) X.A (compareOp .In u (.ref a)) Q E s := by
  cases g with
  | k kvs kv k h1 h2 ey ev =>
    subst ey
    have e : o.isSome = (valV kv k).isSome := by
      subst ev
      rcases h2.val k with ⟨e1, e2⟩ | ⟨_, _, e1, e2, _⟩ <;> rw [e1, e2] <;> rfl
    rw [e] at h
    exact L2.d_in (by omega) I (.inl ⟨kv, k, h1, rfl, rfl⟩) ry h
  | n kvs es ep xs k b h1 h2 ey hk ev =>
    subst ey
    cases ry
    have e : o.isSome = (atKey xs k).isSome := by
      subst ev
      rcases h2.rel.val k with ⟨e1, e2⟩ | ⟨_, _, _, e1, e2, _⟩ <;> rw [e1, e2] <;> rfl
    rw [e] at h
    exact wpAny_in_heap (roomN hu) (hk.is I.hok) h2.sys (h2.dict I.hok h1) (h _ (I.tok _))
theorem DictSim.notIn (hu : X.A.units + 64 < cLine) (I : Inv X pins σ H s) (g : DictSim X H a y vy o) (ry : RelV vy u) {Q : Value → Shared → Prop} (h : ∀ s', Inv X pins σ H s' → Q (.bool (!o.isSome)) s') :
    wpAny (model X.prog X.w) X.A (compareOp .NotIn u (.ref a)) Q E s := by
  cases g with
  | k kvs kv k h1 h2 ey ev =>
    subst ey
    have e : o.isSome = (valV kv k).isSome := by
      subst ev
      rcases h2.val k with ⟨e1, e2⟩ | ⟨_, _, e1, e2, _⟩ <;> rw [e1, e2] <;> rfl
    rw [e] at h
    exact L2.d_notIn (by omega) I (.inl ⟨kv, k, h1, rfl, rfl⟩) ry h
  | n kvs es ep xs k b h1 h2 ey hk ev =>
    subst ey
    cases ry
    have e : o.isSome = (atKey xs k).isSome := by
      subst ev
      rcases h2.rel.val k with ⟨e1, e2⟩ | ⟨_, _, _, e1, e2, _⟩ <;> rw [e1, e2] <;> rfl
    rw [e] at h
    exact wpAny_notIn_heap (roomN hu) (hk.is I.hok) h2.sys (h2.dict I.hok h1) (h _ (I.tok _))
/-- d.get(y), d.get(y, z) -/
theorem DictSim.get2 (hu : X.A.units + 64 < cLine) (I : Inv X pins σ H s) (g : DictSim X H a y vy o) (ry : RelV vy u) {z : D} {vz : V} {uz : Value} (rz : Rep X.K H z vz) (rvz : RelV vz uz) {Q : Value → Shared → Prop} (h : ∀ w' v s', Inv X pins σ H s' → Rep X.K H (o.getD z) v → RelV v w' → Q w' s') :
    wpAny (model X.prog X.w) X.A (call (.builtin "dict.get") [.ref a, u, uz]) Q E s := by
  cases g with
  | k kvs kv k h1 h2 ey ev =>
    subst ey
    refine d_get2 (d := vz) (by omega) I (.inl ⟨kv, k, h1, rfl, rfl⟩) ry rvz fun w' s' I' rv => h w' _ s' I' ?_ rv
    subst ev
    rcases h2.val k with ⟨e1, e2⟩ | ⟨_, _, e1, e2, rd⟩
    · rw [e1, e2]; exact rz
    · rw [e1, e2]; exact rd
  | n kvs es ep xs k b h1 h2 ey hk ev =>
    subst ey
    cases ry
    subst ev
    refine call_meetsIn PySem.F.slot_dict_get (h2.dict I.hok h1).typeIs PySem.F.entry_dict_get (PySem.F.args_dict_get_3 _ _ _) (meetsH_dict_get_default (nestedKind X.prog X.w) a b h2.sys uz) ⟨roomN hu, k, xs, hk.is I.hok, h2.dict I.hok h1, ?_⟩
    rcases h2.rel.val k with ⟨e1, e2⟩ | ⟨d, v, p, e1, e2, rd, rv⟩
    · rw [e2]; rw [e1] at h; exact h _ _ _ (I.tok _) rz rvz
    · rw [e2]; rw [e1] at h; exact h _ v _ (I.tok _) rd rv
theorem DictSim.get1 (hu : X.A.units + 64 < cLine) (I : Inv X pins σ H s) (g : DictSim X H a y vy o) (ry : RelV vy u) {Q : Value → Shared → Prop} (h : ∀ w' v s', Inv X pins σ H s' → Rep X.K H (o.getD .non) v → RelV v w' → Q w' s') :
    wpAny (model X.prog X.w) X.A (call (.builtin "dict.get") [.ref a, u]) Q E s := by
  cases g with
  | k kvs kv k h1 h2 ey ev =>
    subst ey
    refine d_get1 (by omega) I (.inl ⟨kv, k, h1, rfl, rfl⟩) ry fun w' s' I' rv => h w' _ s' I' ?_ rv
    subst ev
    rcases h2.val k with ⟨e1, e2⟩ | ⟨_, _, e1, e2, rd⟩
    · rw [e1, e2]; exact .non
    · rw [e1, e2]; exact rd
  | n kvs es ep xs k b h1 h2 ey hk ev =>
    subst ey
    cases ry
    subst ev
    refine call_meetsIn PySem.F.slot_dict_get (h2.dict I.hok h1).typeIs PySem.F.entry_dict_get (PySem.F.args_dict_get_2 _ _) (meetsH_dict_get (nestedKind X.prog X.w) a b h2.sys) ⟨roomN hu, k, xs, hk.is I.hok, h2.dict I.hok h1, ?_⟩
    rcases h2.rel.val k with ⟨e1, e2⟩ | ⟨d, v, p, e1, e2, rd, rv⟩
    · rw [e2]; rw [e1] at h; exact h _ _ _ (I.tok _) .non rfl
    · rw [e2]; rw [e1] at h; exact h _ v _ (I.tok _) rd rv
end
/-! ### stores -/
def setG (o i d : D) (m : Mem) (q : Mem → Prop) : Prop := match o with
  | .ref a => match m a with
    | some (.dK kvs) => match keyK i with
      | some k => kvs.length < sizeLine ∧ q (m.set a (.dK (putG kvs k d)))
      | none => False
    | some (.dN kvs) => match keyT i with
      | some k => kvs.length < sizeLine ∧ q (m.set a (.dN (putG kvs k d)))
      | none => False
    | _ => setD o i d m q
  | _ => False
theorem setG_N {a : Addr} {i d : D} {m : Mem} {q : Mem → Prop} {kvs : List (NestedKey × D)} {k : NestedKey} (h : m a = some (.dN kvs)) (e : keyT i = some k) : setG (.ref a) i d m q = (kvs.length < sizeLine ∧ q (m.set a (.dN (putG kvs k d)))) := by
  unfold setG; dsimp only; rw [h]; dsimp only; rw [e]
theorem setG_K {a : Addr} {i d : D} {m : Mem} {q : Mem → Prop} {kvs : List (Key × D)} {k : Key} (h : m a = some (.dK kvs)) (e : keyK i = some k) : setG (.ref a) i d m q = (kvs.length < sizeLine ∧ q (m.set a (.dK (putG kvs k d)))) := by
  unfold setG; dsimp only; rw [h]; dsimp only; rw [e]
theorem setG_L {a : Addr} {i d : D} {m : Mem} {q : Mem → Prop} {xs : List D} (h : m a = some (.lst xs)) : setG (.ref a) i d m q = setD (.ref a) i d m q := by
  unfold setG; dsimp only; rw [h]
def rSetG (K : PySem.W.Frag) : TSet := fun vo vi vd H Q => ∃ o i d m q, Rep K H o vo ∧ Rep K H i vi ∧ Rep K H d vd ∧ Sim K H m ∧ setG o i d m q ∧ ∀ m' H', q m' → Sim K H' m' → Step H m H' m' → Q H'
theorem set_G {X : Cx} (hu : X.A.units + 64 < cLine) : PSet X (rSetG X.K) := by
  intro pins s σ H vo vi vd ov iv u Q I ro ri rd ⟨o, i, d, m, q, hro, hri, hrd, sim, h, post⟩
  unfold setG at h
  split at h
  · rename_i a
    cases hro
    cases ro
    split at h
    · rename_i kvs ea
      obtain ⟨kv, h1, h2⟩ := sim a _ ea
      split at h
      · rename_i k ek
        obtain ⟨hz, h⟩ := h
        have e1 := keyK_rep hri ek
        subst e1
        refine d_setItem (by omega) I (.inl ⟨kv, k, h1, rfl, by rw [← h2.len]; exact hz, rfl⟩) ri rd fun s' I' => ⟨_, I', post _ _ h (sim.write ea ⟨_, upd_same, (h2.put k hrd).mono (upd_old sim ea)⟩) (Step.write sim ea)⟩
      · exact h.elim
    · rename_i kvs ea
      obtain ⟨es, ep, xs, h1, h2⟩ := sim a _ ea
      split at h
      · rename_i k ek
        obtain ⟨hz, h⟩ := h
        obtain ⟨b, eb, hk⟩ := keyT_rep hri ek
        subst eb
        cases ri
        refine wpAny_setItem_heap (hsz := by have := h2.sz; exact this) (roomN hu) (hk.is I.hok) (h2.dict I.hok h1) fun h' hm hs => ?_
        obtain ⟨es', ep', r1, r2⟩ := h2.stored hz hk hrd rd hm
        have I2 : Inv X pins σ (upd H a (.ext (rawIs a es' ep'))) { s with heap := h', toks := s.toks + (nestedKind X.prog X.w).draws k } :=
          d_write I (by rw [h1]; exact True.intro) hs (let ⟨o, e, _⟩ := r1; ⟨o, e⟩) (ext_new r1)
        exact ⟨_, I2, post _ _ h (sim.write ea ⟨es', ep', _, upd_same, r2.mono (upd_old sim ea)⟩) (Step.write sim ea)⟩
      · exact h.elim
    · exact set_list pins s σ H (.ref a) vi vd _ iv u Q I (show RelV (.ref a) (.ref a) from rfl) ri rd (setD_ok sim (.ref a) hri hrd h post)
  · exact h.elim
def dSetG (te to ti : DTE) : DTS := fun E ρ m => te ρ m fun d m1 => to ρ m1 fun o m2 => ti ρ m2 fun i m3 => setG o i d m3 fun m4 => E.nx ρ m4
section
variable {X : Cx} {B : Bs} {e : Expr} {te : DTE} {pos : Pos}
theorem ds_setG (hu : X.A.units + 64 < cLine) {oe ie : Expr} {to ti : DTE} {tpos : Pos} (he : DE B X e te) (ho : DE B X oe to) (hi : DE B X ie ti) (hs : swapsWithSole [.Subscript oe ie tpos] e pos.line X.env = pure false := by rfl) (hw : swappedStores [.Subscript oe ie tpos] e X.env = pure none := by rfl)
    (h1 : (assignEach [.Subscript oe ie tpos] X.env).map (·.2) = [assign (.Subscript oe ie tpos) X.env] := by rfl)
    (ha : ∀ v, assign (.Subscript oe ie tpos) X.env v = (do
      let ov ← holding [v] (eval oe X.env)
      let iv ← holding [v, ov] (eval ie X.env)
      standAt tpos
      holding [v, ov, iv] (setItem ov iv v)
      release [v, ov, iv] []) := by intro _; rfl) : DS B X (.Assign [.Subscript oe ie tpos] e pos) (dSetG te to ti) :=
  ps_imp (ps_asg he (pg_sub ho hi (set_G hu) ha) hs hw h1) fun F σ H ⟨ρ, m, E, p, h, o⟩ => ⟨ρ, m, _, p, h, fun d m1 v H1 h1 r1 s1 t1 => ⟨ρ, m1, _, p.next s1 t1, h1, fun d2 m2 v2 H2 h2 r2 s2 t2 =>
    ⟨ρ, m2, _, (p.next s1 t1).next s2 t2, h2, fun d3 m3 v3 H3 h3 r3 s3 t3 => ⟨d2, d3, d, m3, _, r2.mono t3.ext, r3, r1.mono (t2.trans t3).ext, s3, h3, fun m4 H4 h4 s4 t4 =>
      o.nx ρ m4 σ H4 h4 (p.env.mono (t1.trans (t2.trans (t3.trans t4))).ext) s4 (t1.trans (t2.trans (t3.trans t4)))⟩⟩⟩⟩
end
/-! ### in, not in, d[k] -/
def inG (neg : Bool) : DR2 := fun x y m q => match getO m y x with
  | some o => q (.bl (if neg then !o.isSome else o.isSome)) m
  | none => match x, itemsOf m y with
    | .int k, some xs => match intsOf xs with
      | some ns => q (.bl (if neg then !ns.contains k else ns.contains k)) m
      | none => False
    | _, _ => False
theorem inV_ints (k : Int) (ns : List Int) : inV (.int k) (ns.map V.int) = ns.contains k := by
  unfold inV
  rw [List.any_map, List.contains_eq_any_beq]
  congr 1
  funext x
  show (x == k) = (k == x)
  exact Bool.beq_comm
theorem flat_ints (ns : List Int) : (ns.map V.int).all flatV = true := by
  rw [List.all_map, List.all_eq_true]; intro x _; rfl
theorem d_inG {X : Cx} (hu : X.A.units + 64 < cLine) (neg : Bool) : OpD X (compareOp (if neg then .NotIn else .In)) (inG neg) := by
  intro pins s σ H x y v u Q I rx ry ⟨dx, dy, m, q, r1, r2, sim, h, post⟩
  unfold inG at h
  split at h
  · rename_i o e
    obtain ⟨a, rfl, g⟩ := getO_sim sim r2 r1 e
    cases ry
    cases neg with
    | false => exact g.isIn hu I rx fun s' I' => ⟨.bl o.isSome, H, I', rfl, post.here h (.bl _) sim⟩
    | true => exact g.notIn hu I rx fun s' I' => ⟨.bl (!o.isSome), H, I', rfl, post.here h (.bl _) sim⟩
  · cases dx with
    | int k =>
      cases e : itemsOf m dy with
      | none => rw [e] at h; exact h.elim
      | some xs =>
        rw [e] at h
        dsimp only at h
        split at h
        · rename_i ns en
          have e1 := intsOf_ok en
          subst e1
          obtain ⟨p, vs, rfl, hq, rs⟩ := sim.seq r2 e
          have e2 := reps_ints rs
          subst e2
          cases r1
          have hh : Q (.bl (if neg then !inV (.int k) (ns.map V.int) else inV (.int k) (ns.map V.int))) H := by rw [inV_ints]; exact post.here h (.bl _) sim
          cases neg with
          | false => exact op_in_seq pins s σ H _ _ v u Q I rx ry ⟨p, _, rfl, hq, rfl, flat_ints ns, hh⟩
          | true => exact op_notIn_seq pins s σ H _ _ v u Q I rx ry ⟨p, _, rfl, hq, rfl, flat_ints ns, hh⟩
        · exact h.elim
    | _ => exact (show False from h).elim
theorem d_in {X : Cx} (hu : X.A.units + 64 < cLine) : OpD X (compareOp .In) (inG false) := d_inG hu false
theorem d_notIn {X : Cx} (hu : X.A.units + 64 < cLine) : OpD X (compareOp .NotIn) (inG true) := d_inG hu true
def ixG : DR2 := fun x y m q => match getO m x y with
  | some (some d) => q d m
  | some none => False
  | none => ixD x y m q
theorem d_ixG {X : Cx} (hu : X.A.units + 64 < cLine) : IxR X (up2 X.K ixG) := by
  intro value slice pins s σ H x y v u Q I rx ry ⟨dx, dy, m, q, r1, r2, sim, h, post⟩ hs
  unfold ixG at h
  split at h
  · rename_i d e
    obtain ⟨a, rfl, g⟩ := getO_sim sim r1 r2 e
    cases rx
    obtain ⟨hT, _, _⟩ := g.typeIs I
    unfold subscriptTail
    refine wpAny_bind ?_
    rw [getitemInPython_of_ne hT.not_modules]
    refine wpAny_bind (wpAny_specialOf hT PySem.F.slot_dict_getitem.lookup ?_)
    have fin : wpAny (model X.prog X.w) X.A (subscripted slice false (.ref a) u) (fun r s₃ => wpAny (model X.prog X.w) X.A (letTemporaryGo value (.ref a) r >>= fun _ => pure r) (EP X pins σ Q) X.xe s₃) X.xe s := by
      rw [hs]
      exact wpAny_operating (g.get hu I ry fun w' v' s' I' rd rv => wpAny_bind (wpAny_letTemporaryGo (wpAny_pure ⟨v', H, I', rv, post.here h rd sim⟩)))
    first
      | exact wpAny_pure (wpAny_bind fin)
      | exact wpAny_bind (wpAny_pure (wpAny_bind fin))
      | exact wpAny_bind fin
  · exact h.elim
  · exact d_ix value slice pins s σ H x y v u Q I rx ry ⟨dx, dy, m, q, r1, r2, sim, h, post⟩ hs
section
variable {X : Cx} {B : Bs} {a b o e f : Expr} {ta tb to te tx : DTE} {pos apos cpos : Pos}
theorem de_ixG (hu : X.A.units + 64 < cLine) (ha : DE B X a ta) (hb : DE B X b tb) (hs : PlainIx b := by exact fun _ _ => rfl) : DE B X (.Subscript a b pos) (dOp ixG ta tb) := pe_imp (pe_ix (d_ixG hu) ha hb hs) op_lift
/-! ### methods -/
def isDict (m : Mem) (x : D) : Prop := ∃ a, x = .ref a ∧ ((∃ kvs, m a = some (.dK kvs)) ∨ ∃ kvs, m a = some (.dN kvs))
theorem isDict_at {pins : List (Addr × Obj)} {σ : St} {H : Hp} {s : Shared} {m : Mem} {x : D} {v : V} (I : Inv X pins σ H s) (sim : Sim X.K H m) (r : Rep X.K H x v) (h : isDict m x) : ∃ a, x = .ref a ∧ v = .ref a ∧ s.TypeIs (.ref a) "dict" ∧ (∀ b, Value.ref a = .ref b → ∃ ob, s.heap.get? b = some ob ∧ ob.dict = none) ∧ (a == sysModules) = false := by
  obtain ⟨a, rfl, h⟩ := h
  cases r
  refine ⟨a, rfl, rfl, ?_⟩
  rcases h with ⟨kvs, h⟩ | ⟨kvs, h⟩
  · obtain ⟨kv, h1, h2⟩ := sim a _ h
    exact isD_at I (.inl ⟨kv, .inl h1⟩)
  · obtain ⟨es, ep, xs, h1, h2⟩ := sim a _ h
    refine ⟨(h2.dict I.hok h1).typeIs, fun c q => ?_, h2.sys⟩
    cases q
    obtain ⟨⟨ob, e1, e2, _⟩, _, _⟩ := I.hok a _ h1
    exact ⟨ob, e1, e2.2.1⟩
def dGet1 (to te : DTE) : DTE := fun ρ m q => to ρ m fun x m1 => isDict m1 x ∧ te ρ m1 fun y m2 => match getO m2 x y with | some o => q (o.getD .non) m2 | none => False
def dGet2 (to te tx : DTE) : DTE := fun ρ m q => to ρ m fun x m1 => isDict m1 x ∧ te ρ m1 fun y m2 => tx ρ m2 fun z m3 => match getO m3 x y with | some o => q (o.getD z) m3 | none => False
theorem de_get1 (hu : X.A.units + 64 < cLine) (ho : DE B X o to) (he : DE B X e te) (mm : M1 X o "get" apos e cpos := by exact ⟨rfl, rfl, rfl, rfl⟩) : DE B X (.Call (.Attribute o "get" apos) [e] [] cpos) (dGet1 to te) := by
  refine ⟨fun pins s σ H Q I ⟨ρ, m, q, p, h, post⟩ => ?_⟩
  refine wpAny_Call_method mm.base mm.few mm.line PySem.F.plainAttrs_dict PySem.F.slot_dict_get PySem.F.type_dict_get (thn (ho.run pins s σ H (fun v H1 => ∃ x m1, Rep X.K H1 x v ∧ Sim X.K H1 m1 ∧ Step H m H1 m1 ∧ isDict m1 x ∧ te ρ m1 fun y m2 => match getO m2 x y with | some o => q (o.getD .non) m2 | none => False) I ⟨ρ, m, _, p, h, fun x m1 v H1 h1 r1 s1 t1 => ⟨x, m1, r1, s1, t1, h1⟩⟩) fun u s1 ⟨vx, H1, I1, rx, x, m1, r1, sm1, t1, hd, h1⟩ => ?_)
  obtain ⟨a, rfl, rfl, t1', t2', _⟩ := isDict_at I1 sm1 r1 hd
  obtain rfl : u = Value.ref a := rx
  refine ⟨t1', t2', ?_⟩
  rw [mm.trees]
  refine Calls.callWith_builtin rfl (Calls.evalArgs_plain (Calls.spliced_cons (thn (he.run pins s1 σ H1 (fun v H2 => ∃ y m2, Rep X.K H2 y v ∧ Sim X.K H2 m2 ∧ Step H1 m1 H2 m2 ∧ match getO m2 (.ref a) y with | some o => q (o.getD .non) m2 | none => False) I1 ⟨ρ, m1, _, p.next sm1 t1, h1, fun y m2 v H2 h2 r2 s2 t2 => ⟨y, m2, r2, s2, t2, h2⟩⟩) fun iv s2 ⟨vy, H2, I2, ry, y, m2, r2, sm2, t2, h2⟩ => Calls.spliced_nil ?_)))
  cases eo : getO m2 (.ref a) y with
  | none => rw [eo] at h2; exact h2.elim
  | some ov =>
    rw [eo] at h2
    obtain ⟨a', ea, g⟩ := getO_sim sm2 (.ref a) r2 eo
    cases ea
    exact g.get1 hu I2 ry fun w' v s3 I3 rd rv => ⟨v, H2, I3, rv, post _ m2 v H2 h2 rd sm2 (t1.trans t2)⟩
theorem de_get2 (hu : X.A.units + 64 < cLine) (ho : DE B X o to) (he : DE B X e te) (hf : DE B X f tx) (mm : M2 X o "get" apos e f cpos := by exact ⟨rfl, rfl, rfl, rfl⟩) : DE B X (.Call (.Attribute o "get" apos) [e, f] [] cpos) (dGet2 to te tx) := by
  refine ⟨fun pins s σ H Q I ⟨ρ, m, q, p, h, post⟩ => ?_⟩
  refine wpAny_Call_method mm.base mm.few mm.line PySem.F.plainAttrs_dict PySem.F.slot_dict_get PySem.F.type_dict_get (thn (ho.run pins s σ H (fun v H1 => ∃ x m1, Rep X.K H1 x v ∧ Sim X.K H1 m1 ∧ Step H m H1 m1 ∧ isDict m1 x ∧ te ρ m1 fun y m2 => tx ρ m2 fun z m3 => match getO m3 x y with | some o => q (o.getD z) m3 | none => False) I ⟨ρ, m, _, p, h, fun x m1 v H1 h1 r1 s1 t1 => ⟨x, m1, r1, s1, t1, h1⟩⟩) fun u s1 ⟨vx, H1, I1, rx, x, m1, r1, sm1, t1, hd, h1⟩ => ?_)
  obtain ⟨a, rfl, rfl, t1', t2', _⟩ := isDict_at I1 sm1 r1 hd
  obtain rfl : u = Value.ref a := rx
  refine ⟨t1', t2', ?_⟩
  rw [mm.trees]
  refine Calls.callWith_builtin rfl (Calls.evalArgs_plain (Calls.spliced_cons (thn (he.run pins s1 σ H1 (fun v H2 => ∃ y m2, Rep X.K H2 y v ∧ Sim X.K H2 m2 ∧ Step H1 m1 H2 m2 ∧ tx ρ m2 fun z m3 => match getO m3 (.ref a) y with | some o => q (o.getD z) m3 | none => False) I1 ⟨ρ, m1, _, p.next sm1 t1, h1, fun y m2 v H2 h2 r2 s2 t2 => ⟨y, m2, r2, s2, t2, h2⟩⟩) fun iv s2 ⟨vy, H2, I2, ry, y, m2, r2, sm2, t2, h2⟩ => ?_)))
  refine Calls.spliced_cons (thn (hf.run pins s2 σ H2 (fun v H3 => ∃ z m3, Rep X.K H3 z v ∧ Sim X.K H3 m3 ∧ Step H2 m2 H3 m3 ∧ match getO m3 (.ref a) y with | some o => q (o.getD z) m3 | none => False) I2 ⟨ρ, m2, _, (p.next sm1 t1).next sm2 t2, h2, fun z m3 v H3 h3 r3 s3 t3 => ⟨z, m3, r3, s3, t3, h3⟩⟩) fun fv s3 ⟨vz, H3, I3, rz, z, m3, r3, sm3, t3, h3⟩ => Calls.spliced_nil ?_)
  cases eo : getO m3 (.ref a) y with
  | none => rw [eo] at h3; exact h3.elim
  | some ov =>
    rw [eo] at h3
    obtain ⟨a', ea, g⟩ := getO_sim sm3 (.ref a) (r2.mono t3.ext) eo
    cases ea
    exact g.get2 hu I3 ry r3 rz fun w' v s4 I4 rd rv => ⟨v, H3, I4, rv, post _ m3 v H3 h3 rd sm3 (t1.trans (t2.trans t3))⟩
/-- d.setdefault(k, x), keys tuples -/
def setdefD (x y z : D) (m : Mem) (q : DQ) : Prop := match x with
  | .ref a => match m a with
    | some (.dN kvs) => match keyT y with
      | some k => match valG kvs k with
        | some v => q v m
        | none => kvs.length < sizeLine ∧ q z (m.set a (.dN (putG kvs k z)))
      | none => False
    | _ => False
  | _ => False
def dSetdef (to te tx : DTE) : DTE := fun ρ m q => to ρ m fun x m1 => isDict m1 x ∧ te ρ m1 fun y m2 => tx ρ m2 fun z m3 => setdefD x y z m3 q
theorem de_setdef (hu : X.A.units + 64 < cLine) (ho : DE B X o to) (he : DE B X e te) (hf : DE B X f tx) (mm : M2 X o "setdefault" apos e f cpos := by exact ⟨rfl, rfl, rfl, rfl⟩) : DE B X (.Call (.Attribute o "setdefault" apos) [e, f] [] cpos) (dSetdef to te tx) := by
  refine ⟨fun pins s σ H Q I ⟨ρ, m, q, p, h, post⟩ => ?_⟩
  refine wpAny_Call_method mm.base mm.few mm.line PySem.F.plainAttrs_dict PySem.F.slot_dict_setdefault PySem.F.type_dict_setdefault (thn (ho.run pins s σ H (fun v H1 => ∃ x m1, Rep X.K H1 x v ∧ Sim X.K H1 m1 ∧ Step H m H1 m1 ∧ isDict m1 x ∧ te ρ m1 fun y m2 => tx ρ m2 fun z m3 => setdefD x y z m3 q) I ⟨ρ, m, _, p, h, fun x m1 v H1 h1 r1 s1 t1 => ⟨x, m1, r1, s1, t1, h1⟩⟩) fun u s1 ⟨vx, H1, I1, rx, x, m1, r1, sm1, t1, hd, h1⟩ => ?_)
  obtain ⟨a, rfl, rfl, t1', t2', _⟩ := isDict_at I1 sm1 r1 hd
  obtain rfl : u = Value.ref a := rx
  refine ⟨t1', t2', ?_⟩
  rw [mm.trees]
  refine Calls.callWith_builtin rfl (Calls.evalArgs_plain (Calls.spliced_cons (thn (he.run pins s1 σ H1 (fun v H2 => ∃ y m2, Rep X.K H2 y v ∧ Sim X.K H2 m2 ∧ Step H1 m1 H2 m2 ∧ tx ρ m2 fun z m3 => setdefD (.ref a) y z m3 q) I1 ⟨ρ, m1, _, p.next sm1 t1, h1, fun y m2 v H2 h2 r2 s2 t2 => ⟨y, m2, r2, s2, t2, h2⟩⟩) fun iv s2 ⟨vy, H2, I2, ry, y, m2, r2, sm2, t2, h2⟩ => ?_)))
  refine Calls.spliced_cons (thn (hf.run pins s2 σ H2 (fun v H3 => ∃ z m3, Rep X.K H3 z v ∧ Sim X.K H3 m3 ∧ Step H2 m2 H3 m3 ∧ setdefD (.ref a) y z m3 q) I2 ⟨ρ, m2, _, (p.next sm1 t1).next sm2 t2, h2, fun z m3 v H3 h3 r3 s3 t3 => ⟨z, m3, r3, s3, t3, h3⟩⟩) fun fv s3 ⟨vz, H3, I3, rz, z, m3, r3, sm3, t3, h3⟩ => Calls.spliced_nil ?_)
  unfold setdefD at h3
  dsimp only at h3
  split at h3
  · rename_i kvs ea
    obtain ⟨es, ep, xs, g1, g2⟩ := sm3 a _ ea
    split at h3
    · rename_i k ek
      obtain ⟨b, eb, hk⟩ := keyT_rep (r2.mono t3.ext) ek
      subst eb
      cases ry
      refine call_setdefault_heap (hsz := g2.sz) (roomN hu) (hk.is I3.hok) g2.sys (g2.dict I3.hok g1) (fun pv hp => ?_) fun hn h' hm hs => ?_
      · rcases g2.rel.val k with ⟨_, e2⟩ | ⟨d, v, p', e1, e2, rd, rv⟩
        · rw [e2] at hp; cases hp
        · rw [e2] at hp; cases hp
          rw [e1] at h3
          exact ⟨v, H3, I3.tok _, rv, post _ m3 v H3 h3 rd sm3 (t1.trans (t2.trans t3))⟩
      · rcases g2.rel.val k with ⟨e1, _⟩ | ⟨d, v, p', _, e2, _⟩
        · rw [e1] at h3
          obtain ⟨hz, h3⟩ := h3
          obtain ⟨es', ep', q1, q2⟩ := g2.stored hz hk r3 rz hm
          have I4 : Inv X pins σ (upd H3 a (.ext (rawIs a es' ep'))) { s3 with heap := h', toks := s3.toks + (nestedKind X.prog X.w).draws k } :=
            d_write I3 (by rw [g1]; exact True.intro) hs (let ⟨o, e, _⟩ := q1; ⟨o, e⟩) (ext_new q1)
          exact ⟨vz, _, I4, rz, post _ _ vz _ h3 (r3.mono (upd_old sm3 ea)) (sm3.write ea ⟨es', ep', _, upd_same, q2.mono (upd_old sm3 ea)⟩) (t1.trans (t2.trans (t3.trans (Step.write sm3 ea))))⟩
        · rw [e2] at hn; cases hn
    · exact h3.elim
  · exact h3.elim
/-! ### {}, {k: v}, len -/
theorem raw_new (h : Heap) : rawIs h.objs.size #[] 0 (h.push { cls := .type "dict", data := .dict #[] }) := ⟨_, Heap.get?_push_size _ rfl, ⟨rfl, rfl, rfl⟩, rfl⟩
theorem rawN_new {K : PySem.W.Frag} {H : Hp} {a : Addr} (h : (a == sysModules) = false) : RawN K H a [] #[] 0 [] := ⟨fun _ _ => rfl, List.nodup_nil, Nat.zero_le _, h, .nil⟩
def dDict0 : DTE := fun _ m q => (∀ p, m p = none → q (.ref p) (m.set p (.dK []))) ∨ ∀ p, m p = none → q (.ref p) (m.set p (.dN []))
theorem sys_new {pins : List (Addr × Obj)} {σ : St} {H : Hp} {s : Shared} (I : Inv X pins σ H s) : (s.heap.objs.size == sysModules) = false := beq_eq_false_iff_ne.mpr (Ne.symm (Nat.ne_of_lt I.big))
theorem de_dict0 : DE B X (.Dict [] [] pos) dDict0 := ⟨fun pins s σ H Q I ⟨ρ, m, q, p, h, post⟩ => by
  have nw := I.hok.fresh (Nat.le_refl s.heap.objs.size)
  rcases h with h | h
  · exact wpAny_Dict_empty ⟨.ref s.heap.objs.size, _, I.laid (a := s.heap.objs.size) (o := .dK []) (t' := s.toks) (fun _ _ q => Heap.get?_push_of_some _ q) (Nat.le_refl _) (dk_empty s.heap I.big), rfl,
      post _ _ _ _ (h _ (p.sim.free nw)) (.ref _) (p.sim.allocM nw ⟨[], upd_same, .nil⟩) (Step.allocM nw)⟩
  · exact wpAny_Dict_empty ⟨.ref s.heap.objs.size, _, I.laid (a := s.heap.objs.size) (o := .ext (rawIs s.heap.objs.size #[] 0)) (t' := s.toks) (fun _ _ q => Heap.get?_push_of_some _ q) (Nat.le_refl _) (ext_new (raw_new s.heap)), rfl,
      post _ _ _ _ (h _ (p.sim.free nw)) (.ref _) (p.sim.allocM nw ⟨#[], 0, [], upd_same, rawN_new (sys_new I)⟩) (Step.allocM nw)⟩⟩
def dDisp1N (tk tv : DTE) : DTE := fun ρ m q => tk ρ m fun y m1 => tv ρ m1 fun v m2 => match keyT y with | some k => ∀ p, m2 p = none → q (.ref p) (m2.set p (.dN [(k, v)])) | none => False
def dDisp1K (tk tv : DTE) : DTE := fun ρ m q => tk ρ m fun y m1 => tv ρ m1 fun v m2 => match keyK y with | some k => ∀ p, m2 p = none → q (.ref p) (m2.set p (.dK [(k, v)])) | none => False
def lenG : DRC
  | [.ref a], m, q => match m a with
    | some (.dK kvs) => q (.int kvs.length) m
    | some (.dN kvs) => q (.int kvs.length) m
    | some (.dF kvs) => q (.int kvs.length) m
    | _ => lenD [.ref a] m q
  | ds, m, q => lenD ds m q
theorem c_lenG : CallD X (.builtin "len") lenG := by
  intro pins s σ H xs us Q I r ⟨ds, m, q, rs, sim, h, post⟩
  unfold lenG at h
  split at h
  · rename_i a
    split at h
    · rename_i kvs ea
      obtain ⟨v, rfl, rv⟩ := reps1 rs
      cases rv
      obtain ⟨kv, h1, h2⟩ := sim a _ ea
      exact call_lenD pins s σ H _ us Q I r ⟨a, kv, rfl, h1, by rw [← h2.len]; exact post.here h (.int _) sim⟩
    · rename_i kvs ea
      obtain ⟨v, rfl, rv⟩ := reps1 rs
      cases rv
      obtain ⟨es, ep, ys, h1, h2⟩ := sim a _ ea
      rw [Vals.ref1 r]
      have hm : s.heap.DictKeyed (nestedKind X.prog X.w) a (pairsH ys) := ⟨ys, h2.dict I.hok h1, rfl⟩
      have hl : (pairsH ys).length = kvs.length := by rw [pairsH_length, ← h2.rel.len]
      have hz := h2.sz
      have hz' := h2.rel.len
      refine PyProof.Rows.call_len_slot (n := (kvs.length : Nat)) hm.typeIs PySem.F.slot_dict_len (fun Q' hq => len_keyed h2.sys hm (by rw [hl]; exact hq)) (by omega) (by rw [sizeLine_eq] at hz; omega) ⟨.int _, H, I.tok _, ⟨_, rfl⟩, post.here h (.int _) sim⟩
    · rename_i kvs ea
      obtain ⟨v, rfl, rv⟩ := reps1 rs
      cases rv
      obtain ⟨od, kv, h1, h2⟩ := sim a _ ea
      rw [Vals.ref1 r]
      exact d_len I (.inr ⟨od, h1⟩) fun t s' I' => ⟨.int kv.length, H, I', ⟨t, rfl⟩, by rw [← h2.len]; exact post.here h (.int _) sim⟩
    · exact c_len pins s σ H xs us Q I r ⟨_, m, q, rs, sim, h, post⟩
  · exact c_len pins s σ H xs us Q I r ⟨_, m, q, rs, sim, h, post⟩
theorem lenG_K {a : Addr} {m : Mem} {q : DQ} {kvs : List (Key × D)} (h : m a = some (.dK kvs)) : lenG [.ref a] m q = q (.int kvs.length) m := by unfold lenG; dsimp only; rw [h]
theorem lenG_F {a : Addr} {m : Mem} {q : DQ} {kvs : List (Key × D)} (h : m a = some (.dF kvs)) : lenG [.ref a] m q = q (.int kvs.length) m := by unfold lenG; dsimp only; rw [h]
theorem lenG_N {a : Addr} {m : Mem} {q : DQ} {kvs : List (NestedKey × D)} (h : m a = some (.dN kvs)) : lenG [.ref a] m q = q (.int kvs.length) m := by unfold lenG; dsimp only; rw [h]
theorem lenG_r {a : Addr} {m : Mem} {q : DQ} {xs : List D} (h : m a = some (.lst xs)) : lenG [.ref a] m q = q (.int xs.length) m := by unfold lenG; dsimp only; rw [h]; exact lenD_r h
theorem lenG_t {m : Mem} {q : DQ} {xs : List D} : lenG [.tup xs] m q = q (.int xs.length) m := rfl
theorem lenG_f {m : Mem} {q : DQ} {xs : List D} : lenG [.ftup xs] m q = q (.int xs.length) m := rfl
theorem lenG_o {m : Mem} {q : DQ} {xs : List D} : lenG [.rol xs] m q = q (.int xs.length) m := rfl
end
end L2.Lh

namespace L2.Lh
open PySem PySem.Spec PyProof.Rows
/-- an object that was laid ahead, not remembered, is written and remembered -/
theorem late_sim {K : PySem.W.Frag} {H H3 : Hp} {m m3 : Mem} {a : Addr} {u o' : HO} {w : MO} (h0 : H a = none) (h3 : H3 a = some u) (nt : ∀ xs, u ≠ .tup xs) (nf : ∀ ob x, u ≠ .frz ob x) (nk : ∀ b q, u ≠ LamX.CodeO b q) (hm : m3 a = none) (s3 : Sim K H3 m3) (t : Step H m H3 m3) (r : RepO K (upd H3 a o') a w) :
    Ext H3 (upd H3 a o') ∧ Sim K (upd H3 a o') (m3.set a w) ∧ Step H m (upd H3 a o') (m3.set a w) := by
  have ex : Ext H3 (upd H3 a o') := ⟨fun b xs h => by rw [upd_ne (fun z => by subst z; rw [h3] at h; cases h; exact nt xs rfl)]; exact h,
    fun b ob x h => by rw [upd_ne (fun z => by subst z; rw [h3] at h; cases h; exact nf ob x rfl)]; exact h,
    fun b q h => by rw [upd_ne (fun z => by subst z; rw [h3] at h; exact nk b q (Option.some.inj h))]; exact h⟩
  refine ⟨ex, fun b o e => ?_, ⟨t.ext.trans ex, fun b h => ?_, fun b o n h => ?_, fun b o n h => ?_⟩⟩
  · by_cases z : b = a
    · subst z; rw [Mem.set_same] at e; cases e; exact r
    · rw [Mem.set_ne z] at e
      exact (s3 b o e).mono ex fun y q => by rw [upd_ne z]; exact q
  · by_cases z : b = a
    · subst z; exact h0
    · rw [upd_ne z] at h; exact t.dom b h
  · have z : b ≠ a := fun z => by subst z; rw [h0] at h; cases h
    rw [upd_ne z]; exact t.keep b o n h
  · have z : b ≠ a := fun z => by subst z; rw [h0] at h; cases h
    rw [Mem.set_ne z]; exact t.new b o n h
section
variable {X : Cx} {B : Bs} {ke ve : Expr} {tk tv : DTE} {pos : Pos}
theorem de_disp1N (hu : X.A.units + 64 < cLine) (hk : DE B X ke tk) (hv : DE B X ve tv) : DE B X (.Dict [some ke] [ve] pos) (dDisp1N tk tv) := by
  refine ⟨fun pins s σ H Q I ⟨ρ, m, q, p, h, post⟩ => ?_⟩
  have nw := I.hok.fresh (Nat.le_refl s.heap.objs.size)
  have I1 := I.laid (a := s.heap.objs.size) (o := .ext (rawIs s.heap.objs.size #[] 0)) (h' := s.heap.push { cls := .type "dict", data := .dict #[] }) (t' := s.toks) (fun _ _ q => Heap.get?_push_of_some _ q) (Nat.le_refl _) (ext_new (raw_new s.heap))
  have sy := sys_new I
  rw [arm_eval_Dict, zip_pairTrees [some ke] [ve] X.env pos rfl rfl, dictDisplay_pairs _ (by intro z; cases z) (by show 1 < 17; decide)]
  generalize ea : s.heap.objs.size = a at nw I1 sy
  refine wpAny_bind (wpAny_standAt (wpAny_bind (wpAny_subDictH (knd := nestedKind X.prog X.w) (Q := fun d s' => wpAny (model X.prog X.w) X.A (pure (Value.ref d)) (EP X pins σ Q) X.xe s') (by show X.A.units + 8 < cLine; omega) (by show 1 ≤ 15; decide) ?_)))
  rw [ea]
  have st0 : Step H m (upd H a (.ext (rawIs a #[] 0))) m := Step.alloc nw
  refine pairTrees_cons_walk (thn (hk.run pins _ σ _ (fun v H1 => ∃ y m1, Rep X.K H1 y v ∧ Sim X.K H1 m1 ∧ Step (upd H a (.ext (rawIs a #[] 0))) m H1 m1 ∧ tv ρ m1 fun v m2 => match keyT y with | some k => ∀ p, m2 p = none → q (.ref p) (m2.set p (.dN [(k, v)])) | none => False) I1
    ⟨ρ, m, _, p.next (p.sim.alloc nw) st0, h, fun y m1 v H1 h1 r1 s1 t1 => ⟨y, m1, r1, s1, t1, h1⟩⟩) fun u s1 ⟨vy, H1, J1, ry, y, m1, r1, sm1, t1, h1⟩ => ?_)
  refine thn (hv.run pins s1 σ H1 (fun v H2 => ∃ z m2, Rep X.K H2 z v ∧ Sim X.K H2 m2 ∧ Step H1 m1 H2 m2 ∧ match keyT y with | some k => ∀ p, m2 p = none → q (.ref p) (m2.set p (.dN [(k, z)])) | none => False) J1
    ⟨ρ, m1, _, (p.next (p.sim.alloc nw) st0).next sm1 t1, h1, fun z m2 v H2 h2 r2 s2 t2 => ⟨z, m2, r2, s2, t2, h2⟩⟩) fun uv s2 ⟨vz, H2, J2, rz, z, m2, r2, sm2, t2, h2⟩ => pairTrees_nil_walk ?_
  cases ek : keyT y with
  | none => rw [ek] at h2; exact h2.elim
  | some k =>
    rw [ek] at h2
    obtain ⟨b, eb, hkr⟩ := keyT_rep (r1.mono t2.ext) ek
    subst eb
    cases ry
    have tt := (t1.trans t2)
    have hm0 : m a = none := p.sim.free nw
    have ha2 : H2 a = some (.ext (rawIs a #[] 0)) := tt.keep a _ hm0 upd_same
    have hm2 : m2 a = none := tt.new a _ hm0 upd_same
    have rn : RawN X.K H2 a [] #[] 0 [] := rawN_new sy
    refine ⟨[(k, b, uv)], ⟨rfl, rfl, hkr.is J2.hok, trivial⟩, rn.dict J2.hok ha2, fun h' tk' hm hs => wpAny_pure ?_⟩
    have hm' : h'.DictOfH (nestedKind X.prog X.w) a (storedH [] k b uv) := hm
    obtain ⟨es', ep', q1, q2⟩ := rn.stored (by rw [sizeLine_eq]; decide) hkr r2 rz hm'
    have I4 : Inv X pins σ (upd H2 a (.ext (rawIs a es' ep'))) { s2 with heap := h', toks := tk' } :=
      d_write J2 (by rw [ha2]; exact True.intro) hs (let ⟨o, e, _⟩ := q1; ⟨o, e⟩) (ext_new q1)
    have ex0 : Ext H2 (upd H2 a (.ext (rawIs a es' ep'))) := ⟨fun b xs h => by rw [upd_ne (fun z => by subst z; rw [ha2] at h; cases h)]; exact h, fun b ob x h => by rw [upd_ne (fun z => by subst z; rw [ha2] at h; cases h)]; exact h, fun b q h => by rw [upd_ne (fun z => by subst z; rw [ha2] at h; exact raw_ne (Option.some.inj h))]; exact h⟩
    obtain ⟨_, g2, g3⟩ := late_sim (o' := .ext (rawIs a es' ep')) (w := .dN [(k, z)]) nw ha2 (fun _ z => nomatch z) (fun _ _ z => nomatch z) (fun _ _ => raw_ne) hm2 sm2 (st0.trans tt) ⟨es', ep', _, upd_same, q2.mono ex0⟩
    exact ⟨.ref a, _, I4, rfl, post _ _ _ _ (h2 a hm2) (.ref a) g2 g3⟩
theorem de_disp1K (hk : DE B X ke tk) (hv : DE B X ve tv) : DE B X (.Dict [some ke] [ve] pos) (dDisp1K tk tv) :=
  pe_imp (pe_disp (pps_cons hk hv pps_nil) rfl rfl (by intro z; cases z) (by show 1 ≤ 15; decide)) fun σ H Q ⟨ρ, m, q, p, h, post⟩ a nw => by
    have st0 : Step H m (upd H a (.dK [])) m := Step.alloc nw
    refine ⟨ρ, m, _, p.next (p.sim.alloc nw) st0, h, fun y m1 v H1 h1 r1 s1 t1 => ⟨ρ, m1, _, (p.next (p.sim.alloc nw) st0).next s1 t1, h1, fun z m2 vz H2 h2 r2 s2 t2 => ?_⟩⟩
    have tt := (t1.trans t2)
    have hm0 : m a = none := p.sim.free nw
    have ha2 : H2 a = some (.dK []) := tt.keep a _ hm0 upd_same
    have hm2 : m2 a = none := tt.new a _ hm0 upd_same
    refine ⟨ha2, ?_⟩
    split at h2
    · rename_i k ek
      have ey := keyK_rep r1 ek
      subst ey
      refine ⟨[(k, vz)], rfl, by show 1 ≤ 15; decide, ?_⟩
      have ex0 : Ext H2 (upd H2 a (.dK (mergeK [] [(k, vz)]))) := ⟨fun b xs h => by rw [upd_ne (fun z => by subst z; rw [ha2] at h; cases h)]; exact h, fun b ob x h => by rw [upd_ne (fun z => by subst z; rw [ha2] at h; cases h)]; exact h, fun b q h => by rw [upd_ne (fun z => by subst z; rw [ha2] at h; unfold LamX.CodeO at h; cases h)]; exact h⟩
      obtain ⟨_, g2, g3⟩ := late_sim (o' := .dK (mergeK [] [(k, vz)])) (w := .dK [(k, z)]) nw ha2 (fun _ z => nomatch z) (fun _ _ z => nomatch z) (fun _ _ z => by unfold LamX.CodeO at z; cases z) hm2 s2 (st0.trans tt) ⟨_, upd_same, .cons ⟨rfl, r2.mono ex0⟩ .nil⟩
      exact post _ _ _ _ (h2 a hm2) (.ref a) g2 g3
    · exact h2.elim
end
end L2.Lh

/-! enumerate of a tuple -/
namespace L2.Lh
open PySem PySem.Spec PyProof.Rows
open AutoSeq1 (wpAny_loadPart')
section
variable {prog : Program} {w : World} {A : Around} {E : Value → Shared → Prop} {s : Shared}
theorem enumNewT (t : Addr) (ob : Obj) (its : Array Value) (n : Nat) (hc : ob.cls = .type "tuple") (hd : ob.data = .seq its n) :
    Meets (Builtin.«enumerate.__new__» ⟨[.type "enumerate", .ref t], []⟩) (fun _ R s₀ => s₀.heap.get? t = some ob ∧
      R (.ok (.ret (.ref (s₀.heap.push { cls := .type "tuple_iterator", data := .fields #[.ref t, .int 0 0] }).objs.size)))
        { s₀ with heap := (s₀.heap.push { cls := .type "tuple_iterator", data := .fields #[.ref t, .int 0 0] }).push { cls := .type "enumerate", data := .fields #[.none, .bool false, .ref s₀.heap.objs.size, rawInt 0, .none, .none] } }) :=
  .of_wp fun P₀ w₀ A₀ R₀ s₀ hyp => by
    obtain ⟨hp, gg, dd, tk, os⟩ := s₀
    obtain ⟨ht, hyp⟩ := hyp
    obtain ⟨oc, od, odt, osl⟩ := ob
    cases hc
    cases hd
    have hsub := sub_enumerate
    have hT : Heap.IsTuple (Shared.heap ⟨hp, gg, dd, tk, os⟩) t its := ⟨_, ht, rfl, n, rfl⟩
    wp_walk using wpAny_loadPart' ht
    refine wpAny_stack_any fun st => wpAny_pure ?_
    split
    · rename_i c _ _ _ _ _
      cases (c == Value.type "enumerate") <;> (wp_walk using wpAny_loadPart' ht, wpAny_pyIter_tuple hT; exact ⟨_, rfl, hyp⟩)
    · wp_walk using wpAny_loadPart' ht, wpAny_pyIter_tuple hT
      exact ⟨_, rfl, hyp⟩
theorem enumCallT {t : Addr} {its : Array Value} {Q : Value → Shared → Prop} (hT : s.heap.IsTuple t its)
    (hyp : ∀ h₁, IsEnum h₁ (s.heap.objs.size + 1) s.heap.objs.size 0 .none → h₁.IsTupleIter s.heap.objs.size t 0 → (∀ b o, s.heap.get? b = some o → h₁.get? b = some o) → Q (.ref (s.heap.objs.size + 1)) { s with heap := h₁ }) :
    wpAny (model prog w) A (call (.type "enumerate") [.ref t]) Q E s := by
  obtain ⟨ob, ho, hc, n, hd⟩ := hT
  refine callType_new F.called_enumerate (by decide) (F.typeCall_enumerate_1 _) (F.newCall_enumerate_1 _) (fun obj => F.args_object_init_2 obj _) F.entry_enumerate_new (enumNewT t ob its n hc hd) ⟨ho, ?_⟩
  have sz1 : (s.heap.push { cls := .type "tuple_iterator", data := .fields #[.ref t, .int 0 0] }).objs.size = s.heap.objs.size + 1 := Heap.size_push ..
  have isE : IsEnum ((s.heap.push { cls := .type "tuple_iterator", data := .fields #[.ref t, .int 0 0] }).push { cls := .type "enumerate", data := .fields #[.none, .bool false, .ref s.heap.objs.size, rawInt 0, .none, .none] }) (s.heap.objs.size + 1) s.heap.objs.size 0 .none := by
    rw [← sz1]
    exact Heap.get?_push_size _ rfl
  show _ ∧ _
  rw [sz1]
  exact ⟨⟨_, isE, rfl⟩, hyp _ isE ⟨_, Heap.get?_push_of_some _ (Heap.get?_push_size _ rfl), rfl, rfl⟩ fun b o x => Heap.get?_push_of_some _ (Heap.get?_push_of_some _ x)⟩
end
/-- the tuple at a, each item in a new pair -/
def ItEt (K : PySem.W.Frag) (a : Addr) : It where
  go := fun i H => ∃ (xs : List V) (x : V), SqT K H a xs ∧ xs[i]? = some x
  yld := fun i H v H' => ∃ T x, v = .ref T ∧ H T = none ∧ H' = upd H T (.tup [.int (i : Nat), x]) ∧ ∀ xs, SqT K H a xs → xs[i]? = some x
  stop := fun i H => ∃ xs : List V, SqT K H a xs ∧ xs.length = i
theorem turnEt {P : Program} {w : World} {K : PySem.W.Frag} {elts : List Expr} {kk : Nat} {tpos : Pos} (a en it : Addr) (its : Array Value) (nai : a ≠ it) (nei : en ≠ it) (nea : en ≠ a) :
    Turn P w K (.Tuple elts kk tpos) (ItEt K a) [en, it] en (fun i h => (∃ old, IsEnum h en it ((i : Nat) : Int) old) ∧ h.IsTupleIter it a i) where
  mem := by simp
  obj := fun i h st b hb => by
    obtain ⟨⟨old, he⟩, o, ho, hc, hd⟩ := st
    rcases (show b = en ∨ b = it by simpa using hb) with z | z
    · subst z; exact ⟨_, he, fun v q => nomatch q⟩
    · subst z; exact ⟨o, ho, fun v q => by rw [hd] at q; cases q⟩
  keep := fun i h h' st k => by
    obtain ⟨⟨old, he⟩, hi⟩ := st
    exact ⟨⟨old, k en (by simp) _ he⟩, hi.at fun o q => k it (by simp) o q⟩
  item := by
    intro X hP hw hK hc i pins s σ H E I hf st hg
    subst hP hw hK
    obtain ⟨⟨old, he⟩, hit⟩ := st
    obtain ⟨xs, x, hq, hx⟩ := hg
    obtain ⟨itv, rv, p, hz⟩ := I.tuple hq
    obtain ⟨u, hu, ru⟩ := rv.get hx
    have len1 : en < s.heap.objs.size := Heap.lt_size he
    have lit : it < s.heap.objs.size := by obtain ⟨_, q, _⟩ := hit; exact Heap.lt_size q
    have hlt : i < itv.toArray.size := by
      have := (List.getElem?_eq_some_iff.mp hu).1
      simpa using this
    have D := Draws.tuple (prog := X.prog) (w := X.w) (A := X.A.in1) (I.ok.hd hc) it a nai itv.toArray
    refine wpAny_pyNext_enum_itemD D he ⟨hit, (show s.heap.IsTuple a itv.toArray from p)⟩ hlt nei (by simp [nei, nea]) fun y h₁ tk hy ho hst hT hsz hk => ?_
    have ey : y = u := by
      have : itv.toArray[i]? = some u := by simpa using hu
      rw [this] at hy; cases hy; rfl
    subst ey
    refine ⟨_, rfl, wpAny_letOwnedTupleGo_enum (s := { s with heap := h₁, toks := tk + 1 }) ho fun h₂ he₂ sb => ?_⟩
    have hT2 : h₂.get? s.heap.objs.size = some { cls := .type "tuple", data := .seq #[.int i tk, y] } := (sb.2 _ (Nat.ne_of_gt len1)).trans hT
    have new : ObjOk X.prog X.w (upd H s.heap.objs.size (.tup [.int (i : Nat), x])) h₂ s.heap.objs.size (.tup [.int (i : Nat), x]) :=
      ⟨by show 2 ≤ sizeLine; decide, [.int i tk, y], .cons ⟨_, rfl⟩ (.cons ru .nil), ⟨_, hT2, rfl, _, rfl⟩⟩
    have I1 : Inv X pins σ (upd H s.heap.objs.size (.tup [.int (i : Nat), x])) { s with heap := h₂, toks := tk + 1 } :=
      I.turnedNew (ch := [en, it]) (fun b ob hb q => by
        have nb : b ≠ en ∧ b ≠ it := by
          constructor <;> intro z <;> exact hb (by simp [z])
        exact (sb.2 b nb.1).trans (hk b ob nb.1 nb.2 q)) hf (Nat.le_refl _) new
    refine ⟨.ref s.heap.objs.size, _, I1, rfl, ⟨_, x, rfl, I.hok.fresh (Nat.le_refl _), rfl, fun ys hy2 => by rw [I.tuple_inj hy2 hq]; exact hx⟩, ⟨⟨y, ?_⟩, hst.1.at fun o q => (sb.2 it (Ne.symm nei)).trans q⟩, fun b hb => ?_⟩
    · rw [show ((i + 1 : Nat) : Int) = (i : Int) + 1 by omega]; exact he₂
    · have lb : b < s.heap.objs.size := by
        rcases (show b = en ∨ b = it by simpa using hb) with z | z
        · subst z; exact len1
        · subst z; exact lit
      rw [upd_ne (Nat.ne_of_lt lb)]
      exact (hf b hb).1
  done := by
    intro X hP hw hK hc i pins s σ H E I hf st hg
    subst hP hw hK
    obtain ⟨⟨old, he⟩, hit⟩ := st
    obtain ⟨xs, hq, hx⟩ := hg
    obtain ⟨itv, rv, p, hz⟩ := I.tuple hq
    obtain ⟨f0, f1, f2, f3, f4, f5⟩ := hf it (by simp)
    have hl := rv.length
    have D := Draws.tuple (prog := X.prog) (w := X.w) (A := X.A.in1) (I.ok.hd hc) it a nai itv.toArray
    have en' : i = itv.toArray.size := by simp; omega
    refine wpAny_pyNext_enum_endD D he ⟨by rw [← en']; exact hit, (show s.heap.IsTuple a itv.toArray from p)⟩ fun h₁ eb => ⟨rfl, I.turned (t' := s.toks) (fun b o hb q => eb b o hb q) f0 f1 f3 f4 f5⟩
  self := fun A i s Q E st h => by obtain ⟨⟨_, he⟩, _⟩ := st; exact wpAny_pyIter_enum he h
theorem pi_enumG {X : Cx} {e : Expr} {ta : TA} {p pos tpos : Pos} {elts : List Expr} {kk : Nat} (hg : Gl X "enumerate") (hm : X.mg "enumerate" = none) (ha : PA X [e] ta) (hs : starEach [e] X.env = [(false, eval e X.env)] := by rfl) :
    PI X (.Tuple elts kk tpos) (.Call (.Name "enumerate" p) [e] [] pos) (fun σ H R => ta σ H fun vs H1 => ∃ a xs, vs = [.ref a] ∧ ((SqT X.K H1 a xs ∧ R (ItEt X.K a) H1) ∨ (SqL X.K H1 a xs ∧ R (Ite X.K a) H1))) := by
  refine ⟨fun pins s σ H R I wish => ?_⟩
  refine Call_ (ld_blt I hg hm boot_enumerate (PyProof.Rows.callWith_type1 (thn (ha.run pos pins s σ H _ I wish) fun us s1 ⟨vs, H1, I1, r1, a, xs, ex, which⟩ => ?_) hs rfl))
  subst ex
  rw [Vals.ref1 r1]
  have fresh : ∀ b ∈ [s1.heap.objs.size + 1, s1.heap.objs.size], FpOk X pins H1 b := fun b hb => by
    have hle : s1.heap.objs.size ≤ b := by
      rcases (show b = s1.heap.objs.size + 1 ∨ b = s1.heap.objs.size by simpa using hb) with z | z
      · rw [z]; exact Nat.le_succ _
      · rw [z]; exact Nat.le_refl _
    exact I1.fpOk hle (I1.hok.fresh hle)
  rcases which with ⟨hq, q⟩ | ⟨hq, q⟩
  · obtain ⟨itv, rv, p', hz⟩ := I1.tuple hq
    have pT : s1.heap.IsTuple a itv.toArray := p'
    have la : a < s1.heap.objs.size := by obtain ⟨o, e, _⟩ := pT; exact Heap.lt_size e
    refine enumCallT pT fun h₁ isE hit hk => wpAny_pyIter_enum isE ?_
    have I2 : Inv X pins σ H1 { s1 with heap := h₁ } := I1.kept (t' := s1.toks) hk
    exact ⟨s1.heap.objs.size + 1, [s1.heap.objs.size + 1, s1.heap.objs.size], _, _, H1, rfl, I2, turnEt a (s1.heap.objs.size + 1) s1.heap.objs.size itv.toArray (Nat.ne_of_lt la) (Nat.succ_ne_self _) (Nat.ne_of_gt (Nat.lt_succ_of_lt la)), ⟨⟨.none, isE⟩, hit⟩, fresh, q⟩
  · obtain ⟨itv, rv, p', hz⟩ := I1.list hq
    refine call_enumerate_list p'.isList fun h₁ isE hit _ hk => wpAny_pyIter_enum isE ?_
    exact ⟨s1.heap.objs.size + 1, [s1.heap.objs.size + 1, s1.heap.objs.size], _, _, H1, rfl, I1.kept (t' := s1.toks) hk, turn_enum a (s1.heap.objs.size + 1) s1.heap.objs.size, ⟨⟨.none, isE⟩, hit, Nat.succ_ne_self _⟩, fresh, q⟩
section
variable {X : Cx} {B : Bs}
def iEnum (t : DTE) : DTI := fun ρ m q => t ρ m fun d m' => match d with
  | .tup xs => q ⟨enumFrom 0 xs, fun _ => True⟩ m'
  | .ftup xs => q ⟨enumFrom 0 xs, fun _ => True⟩ m'
  | .ref a => match m' a with
    | some (.lst xs) => q ⟨enumFrom 0 xs, fun m'' => m'' a = some (.lst xs)⟩ m'
    | _ => False
  | _ => False
theorem ItOk.enumT {K : PySem.W.Frag} {a : Addr} {vs : List V} {xs : List D} {H0 : Hp} {m0 : Mem} (h : SqT K H0 a vs) (hs : ∀ H', Ext H0 H' → SqT K H' a vs) (r : Reps K H0 xs vs) : ItOk K ⟨enumFrom 0 xs, fun _ => True⟩ (ItEt K a) H0 m0 where
  go := fun i d m H e s st c => by
    obtain ⟨e0, h0, hd⟩ := enumFrom_get xs 0 i d e
    obtain ⟨v, h1, h2⟩ := (r.mono st.ext).get h0
    refine ⟨⟨vs, v, hs _ st.ext, h1⟩, fun x H' ⟨T, z, e1, e2, e3, e4⟩ => ?_⟩
    subst e1 e3
    have := e4 vs (hs _ st.ext)
    rw [h1] at this
    cases this
    rw [hd, Nat.zero_add]
    exact ⟨.tup upd_same (.cons (.int _) (.cons (h2.mono (upd_new e2)) .nil)), s.alloc e2, Step.alloc e2⟩
  stop := fun m H s st c => ⟨vs, hs _ st.ext, by rw [enumFrom_length]; exact r.length.symm⟩
theorem di_enum {e : Expr} {te : DTE} {p pos tpos : Pos} {elts : List Expr} {kk : Nat} (hg : Gl X "enumerate") (hm : X.mg "enumerate" = none) (he : DE B X e te) (hs : starEach [e] X.env = [(false, eval e X.env)] := by rfl) :
    DI B X (.Tuple elts kk tpos) (.Call (.Name "enumerate" p) [e] [] pos) (iEnum te) :=
  pi_imp (pi_enumG hg hm (pa_cons he pa_nil hs) hs) fun σ H R ⟨ρ, m, q, p, h, post⟩ => ⟨ρ, m, _, p, h, fun d m1 v H1 h1 r1 s1 t1 => by
    cases r1 with
    | tup g rs => exact ⟨_, _, rfl, .inl ⟨SqT.of g, post _ m1 _ H1 h1 (ItOk.enumT (SqT.of g) (fun H' x => SqT.of (x.tup _ _ g)) rs) s1 t1⟩⟩
    | ftup g n rs => exact ⟨_, _, rfl, .inl ⟨.inl (.inr ⟨_, g⟩), post _ m1 _ H1 h1 (ItOk.enumT (.inl (.inr ⟨_, g⟩)) (fun H' x => .inl (.inr ⟨_, x.frz _ _ _ g⟩)) rs) s1 t1⟩⟩
    | ref a =>
      dsimp only at h1
      split at h1
      · rename_i xs ea
        obtain ⟨vs, hv, _⟩ := s1 a _ ea
        exact ⟨a, vs, rfl, .inr ⟨SqL.of hv, post _ m1 _ H1 h1 ItOk.enumL s1 t1⟩⟩
      · exact h1.elim
    | _ => exact (show False from h1).elim⟩
theorem iEnum_t {xs : List D} {m : Mem} {q : Itd → Mem → Prop} {ρ : DEnv} {t : DTE} : iEnum t ρ m q = t ρ m fun d m' => match d with
  | .tup xs => q ⟨enumFrom 0 xs, fun _ => True⟩ m'
  | .ftup xs => q ⟨enumFrom 0 xs, fun _ => True⟩ m'
  | .ref a => match m' a with
    | some (.lst xs) => q ⟨enumFrom 0 xs, fun m'' => m'' a = some (.lst xs)⟩ m'
    | _ => False
  | _ => False := rfl
end
end L2.Lh
namespace L2.Lh
open PySem PySem.Spec PyProof.Rows
/-! ### < of ints, of tuples of ints -/
def intsT : D → Option (List Int)
  | .tup xs => intsOf xs
  | .ftup xs => intsOf xs
  | _ => none
def ltG : DR2 := fun x y m q => match x, y with
  | .int i, .int j => q (.bl (decide (i < j))) m
  | x, y => match intsT x, intsT y with
    | some ns, some ms => q (.bl (HT.lexLt ns ms)) m
    | _, _ => False
theorem ltG_ii {i j : Int} {m : Mem} {q : DQ} : ltG (.int i) (.int j) m q = q (.bl (decide (i < j))) m := rfl
theorem ltG_tt {ns ms : List Int} {m : Mem} {q : DQ} : ltG (.tup (ns.map D.int)) (.tup (ms.map D.int)) m q = q (.bl (HT.lexLt ns ms)) m := by
  unfold ltG; dsimp only [intsT]; rw [intsOf_map, intsOf_map]
theorem intsT_ok {K : PySem.W.Frag} {H : Hp} {d : D} {v : V} {ns : List Int} (r : Rep K H d v) (e : intsT d = some ns) : ∃ a, v = .ref a ∧ SqT K H a (ns.map V.int) := by
  cases r with
  | tup g rs => have := intsOf_ok e; subst this; rw [reps_ints rs] at g; exact ⟨_, rfl, SqT.of g⟩
  | ftup g n rs => have := intsOf_ok e; subst this; rw [reps_ints rs] at g; exact ⟨_, rfl, .inl (.inr ⟨_, g⟩)⟩
  | _ => cases e
theorem d_ltG {X : Cx} (hu : X.A.units + 64 < cLine) : OpD X (compareOp .Lt) ltG := by
  intro pins s σ H x y v u Q I rx ry ⟨dx, dy, m, q, r1, r2, sim, h, post⟩
  unfold ltG at h
  split at h
  · rename_i i j; cases r1; cases r2; exact op_lt pins s σ H _ _ v u Q I rx ry ⟨i, j, rfl, rfl, post.here h (.bl _) sim⟩
  · split at h
    · rename_i ns ms e1 e2
      obtain ⟨a, rfl, h1⟩ := intsT_ok r1 e1
      obtain ⟨b, rfl, h2⟩ := intsT_ok r2 e2
      exact op_ltT (by omega) pins s σ H _ _ v u Q I rx ry ⟨a, b, ns, ms, rfl, rfl, h1, h2, post.here h (.bl _) sim⟩
    · exact h.elim
/-! ### == of some data -/
theorem eqD_tt {ns ms : List Int} {m : Mem} {q : DQ} : eqD (.tup (ns.map D.int)) (.tup (ms.map D.int)) m q ↔ q (.bl (decide (ns = ms))) m := by
  have e : ∀ ns : List Int, pyD m (.tup (ns.map D.int)) = some (.tuple (ns.map PyData.int)) := fun ns => by
    show (pyWs _ _).map PyData.tuple = _; rw [pyWs_ints]; rfl
  have ev : PyData.eqv (.tuple (ns.map PyData.int)) (.tuple (ms.map PyData.int)) = decide (ns = ms) := by
    show PyData.eqvAll _ _ = _; exact eqvAll_ints ns ms
  unfold eqD
  dsimp only
  rw [e, e]
  dsimp only
  rw [ev]
  exact ⟨fun h => h.2.2, fun h => ⟨shaped_tupInts _, shaped_tupInts _, h⟩⟩
theorem neD_tt {ns ms : List Int} {m : Mem} {q : DQ} : neD (.tup (ns.map D.int)) (.tup (ms.map D.int)) m q ↔ q (.bl (!decide (ns = ms))) m := by
  have e : ∀ ns : List Int, pyD m (.tup (ns.map D.int)) = some (.tuple (ns.map PyData.int)) := fun ns => by
    show (pyWs _ _).map PyData.tuple = _; rw [pyWs_ints]; rfl
  have ev : PyData.eqv (.tuple (ns.map PyData.int)) (.tuple (ms.map PyData.int)) = decide (ns = ms) := by
    show PyData.eqvAll _ _ = _; exact eqvAll_ints ns ms
  unfold neD
  dsimp only
  rw [e, e]
  dsimp only
  rw [ev]
  exact ⟨fun h => h.2.2, fun h => ⟨shaped_tupInts _, shaped_tupInts _, h⟩⟩
theorem neD_ff {ns ms : List Int} {m : Mem} {q : DQ} : neD (.ftup (ns.map D.int)) (.ftup (ms.map D.int)) m q ↔ q (.bl (!decide (ns = ms))) m := by
  have e : ∀ ns : List Int, pyD m (.ftup (ns.map D.int)) = some (.tuple (ns.map PyData.int)) := fun ns => by
    show (pyWs _ _).map PyData.tuple = _; rw [pyWs_ints]; rfl
  have ev : PyData.eqv (.tuple (ns.map PyData.int)) (.tuple (ms.map PyData.int)) = decide (ns = ms) := by
    show PyData.eqvAll _ _ = _; exact eqvAll_ints ns ms
  unfold neD
  dsimp only
  rw [e, e]
  dsimp only
  rw [ev]
  exact ⟨fun h => h.2.2, fun h => ⟨shaped_tupInts _, shaped_tupInts _, h⟩⟩
theorem shaped_none : SeqAt.shaped .none = true := by simp [SeqAt.shaped, PyData.canLay0, PyData.depth]
theorem neD_nn {m : Mem} {q : DQ} : neD .non .non m q ↔ q (.bl false) m := by
  unfold neD
  dsimp only [pyD, pyW]
  exact ⟨fun h => h.2.2, fun h => ⟨shaped_none, shaped_none, h⟩⟩
/-! ### keys that are tuples of ints -/
def numK (ns : List Int) : NestedKey := .tup (ns.map .num)
theorem keyNs_ints : ∀ ns : List Int, keyNs (ns.map D.int) = some (ns.map .num)
  | [] => rfl
  | n :: ns => by rw [List.map_cons, keyNs, keyN, keyNs_ints ns]; rfl
theorem depth_nums : ∀ ns : List Int, NestedKey.depthAll (ns.map .num) = 0
  | [] => rfl
  | n :: ns => by rw [List.map_cons, NestedKey.depthAll, depth_nums ns]; rfl
theorem keyT_ints (ns : List Int) : keyT (.tup (ns.map D.int)) = some (numK ns) := by
  have e : keyN (.tup (ns.map D.int)) = some (numK ns) := by rw [keyN, keyNs_ints]; rfl
  show keyD _ = _
  unfold keyD
  rw [e]
  dsimp only
  rw [if_pos (by unfold numK; rw [NestedKey.depth, depth_nums]; decide)]
theorem numK_inj {a b : List Int} (h : numK a = numK b) : a = b := by
  unfold numK at h
  injection h with h
  have : ∀ {a b : List Int}, a.map NestedKey.num = b.map .num → a = b := by
    intro a
    induction a with
    | nil => intro b h; cases b with | nil => rfl | cons _ _ => cases h
    | cons x a ih =>
      intro b h
      cases b with
      | nil => cases h
      | cons y b => rw [List.map_cons, List.map_cons] at h; injection h with h1 h2; injection h1 with h1; rw [h1, ih h2]
  exact this h
/-- a dict by plain keys and values -/
theorem valG_mapK {κ κ' β β' : Type} [DecidableEq κ] [DecidableEq κ'] {f : κ → κ'} (hf : ∀ a b, f a = f b → a = b) (g : β → β') (k : κ) : ∀ kvs : List (κ × β), valG (kvs.map fun p => (f p.1, g p.2)) (f k) = (valG kvs k).map g
  | [] => rfl
  | p :: r => by
    rw [List.map_cons, valG_cons, valG_cons, valG_mapK hf g k r]
    by_cases h : p.1 = k
    · rw [if_pos (by rw [h]), if_pos h]; rfl
    · rw [if_neg (fun e => h (hf _ _ e)), if_neg h]
end L2.Lh

/-! try .. except X as n: the caught error stays known -/
namespace L2.Lh
open PySem PySem.Spec PyProof.Rows
section
variable {X : Cx} {pins : List (Addr × Obj)} {σ : St} {H : Hp} {s : Shared}
/-- an object of ours, younger than the entry, is tracked from now on -/
theorem track {a : Addr} {o : HO} (I : Inv X pins σ H s) (h0 : X.s_0.heap.get? a = none) (hn : H a = none) (nL : a ≠ X.env.locals) (nC : ∀ x c, X.env.cells.lookup x = some c → c ≠ a) (nP : ∀ p ∈ X.pn ++ pins, p.1 ≠ a) (new : ObjOk X.prog X.w (upd H a o) s.heap a o) : Inv X pins σ (upd H a o) s where
  ok := I.ok
  os := I.os
  bare := I.bare
  base := {
    keep := I.base.keep
    slot := I.base.slot
    free := fun b ob q z hx => by
      rw [upd_ne (fun e => by subst e; rw [h0] at q; cases q)]
      exact I.base.free b ob q z hx
    there := I.base.there
    tups := fun b xs q => by
      have := I.base.tups b xs q
      rw [upd_ne (fun e => by subst e; rw [hn] at this; cases this)]
      exact this
    frzs := fun b ob u q => by
      have := I.base.frzs b ob u q
      rw [upd_ne (fun e => by subst e; rw [hn] at this; cases this)]
      exact this
    tbls := fun b ps q => by
      obtain ⟨more, this⟩ := I.base.tbls b ps q
      refine ⟨more, ?_⟩
      rw [upd_ne (fun e => by subst e; rw [hn] at this; cases this)]
      exact this }
  loc := I.loc
  cell := I.cell
  free := by rw [upd_ne nL.symm]; exact I.free
  freeC := fun x c e => by rw [upd_ne (nC x c e)]; exact I.freeC x c e
  pin := fun p hp => by
    obtain ⟨q1, q2, q3⟩ := I.pin p hp
    exact ⟨q1, by rw [upd_ne (nP p hp)]; exact q2, q3⟩
  hok := fun b u q => by
    by_cases e : b = a
    · subst e; rw [upd_same] at q; cases q; exact new
    · rw [upd_ne e] at q
      exact (I.hok b u q).stay (fun _ _ _ z => z) (fun c z => by rw [upd_ne (ne_of_none z hn)]; exact z) fun c xs z => by rw [upd_ne (ne_of_none z hn)]; exact z
  len := I.len
theorem excIs_ok {P : Program} {w : World} {h : Heap} {a : Addr} {cls : Value} {oe : Obj} {vs : Array Value} (e : h.get? a = some oe) (z : Zc cls none oe) (d : oe.data = .fields vs) : ObjOk P w H h a (.ext (excIs a cls)) :=
  ⟨⟨oe, vs, e, z.1, z.2, d⟩, ⟨oe, e⟩, fun h1 h2 ⟨o, us, q1, q2⟩ k => ⟨o, us, k o q1, q2⟩⟩
end
/-- what the clause 'except x as n' wishes, the error kept -/
def wKeep (K : PySem.W.Frag) (c : Value) (i : Nat) (ts : Addr → Value → Option Addr → TS) (Wout : WX) (D : Ends) : WX := fun cls d σ H =>
  ∃ b, PySem.W.exmOne K cls c = some b ∧ (b = true → d = none ∧ ∀ a, H a = none → ts a cls d { nx := fun τ G => G a = none → D.nx (τ.set i none) (upd G a (.ext (excIs a cls))), rt := fun _ _ => False, bk := fun _ _ => False, ct := fun _ _ => False } (σ.set i (some (.ref a))) H) ∧
    (b = false → Wout cls d σ H)
section
variable {X : Cx} {x n : Str} {c : Value} {i : Nat} {body suite : List Stmt} {b₀ : Stmt} {np pos pos' : Pos} {tb : WX → TS} {ts : Addr → Value → Option Addr → TS} {Wout : WX}
theorem ps_tryK (hex : X.ex = []) (hs : X.stack = X.env :: X.outer) (hf : X.env.frame = some X.env.locals) (nodup : X.N.Nodup) (hi : X.N[i]? = some n) (hkind : X.env.kindOf n = some .local) (hc : Names X x c) (tk : Takes X Wout)
    (hBody : ∀ (W : WX) (pn : List (Addr × Obj)) (xe : Value → Shared → Prop), Takes (X.tr pn xe) W → PassesOwn (model X.prog X.w) X.A X.env xe → PSs (X.tr pn xe) body (tb W))
    (hSuite : ∀ (a : Addr) (oe : Obj) (cls : Value) (d : Option Addr) (pn : List (Addr × Obj)), Zc cls d oe → (∃ vs, oe.data = .fields vs) → PSs (X.suite a ((a, oe) :: pn)) (b₀ :: suite) (ts a cls d)) :
    PS X (.Try body [.ExceptHandler (some (.Name x np)) (some n) (b₀ :: suite) pos'] [] [] pos) (fun D σ H => tb (wKeep X.K c i ts Wout D) D σ H) := by
  refine ⟨fun pins s σ H D I wish => ?_⟩
  have okX := I.ok
  have frX : X.A.frames = some (X.env :: X.outer) := by rw [okX.frames, hs]
  refine wpAny_Try_except (wpAny_mono ((hBody (wKeep X.K c i ts Wout D) (X.pn ++ pins) (fun e₀ s₀ => wpAny (model X.prog X.w) X.A (noteFrame e₀ X.env) (fun _ t₁ => wpAny (model X.prog X.w) X.A (setFlight e₀ none) (fun _ t₂ =>
    wpAny (model X.prog X.w) X.A (handleBy e₀ X.env [.ExceptHandler (some (.Name x np)) (some n) (b₀ :: suite) pos']) (SP X pins D) X.xe t₂) X.xe t₁) X.xe s₀) (fun u₀ t₀ air => ?_) PassesOwn.looking).run [] s σ H D (I.toTry _) wish) (fun fl t₀ came => ?_) (fun _ _ z => z))
  · obtain ⟨a, B, sA, _, τ, G, cls, d, rfl, IA', nb, up, sky, na, os, ag, b, hb1, hyes, hno⟩ := air
    have IA : Inv X pins τ G sA := IA'.ofTry okX
    have sky' : Sky B (X.env :: X.outer) a (Zc cls d) X.env.locals t₀.heap := by rw [← hs]; exact sky
    show wpAny (model X.prog X.w) X.A (noteFrame (.ref a) X.env) _ _ _
    refine Sky.land Zc.steady frX hf sky' fun k₁ air₁ up₁ => ?_
    have I₁ : Inv X pins τ G { t₀ with heap := k₁ } := IA.landed nb air₁.1 (up.trans up₁) os ag
    obtain ⟨o₁, f₁, g₁, z₁, d₁⟩ := air₁.there
    have outFr : a ∉ frs (X.env :: X.outer) := fun hm => by
      obtain ⟨_, o', e', hnf⟩ := air₁.2.2.1.mem hm
      rw [g₁] at e'; cases e'
      exact hnf _ d₁
    have aL : a ≠ X.env.locals := fun z => outFr (List.mem_filterMap.mpr ⟨X.env, List.mem_cons_self, by rw [hf, z]⟩)
    have aF : a ∉ X.fs := fun hm => by
      obtain ⟨ev, hev, q⟩ := List.mem_filterMap.mp hm
      exact outFr (List.mem_filterMap.mpr ⟨ev, List.mem_cons_of_mem _ hev, q⟩)
    -- the error is younger than the entry
    have notA : sA.heap.get? a = none := by
      cases e : sA.heap.get? a with
      | none => rfl
      | some ob =>
        have := nb a ob e (by rw [hs]; exact outFr)
        rw [air₁.2.1] at this; cases this
    have not0 : X.s_0.heap.get? a = none := by
      cases e : X.s_0.heap.get? a with
      | none => rfl
      | some ob =>
        obtain ⟨o', q⟩ := IA.base.there a ob e (by rw [hex]; simp)
        rw [notA] at q; cases q
    have nPins : ∀ p ∈ X.pn ++ pins, p.1 ≠ a := fun p hp z => by
      have := (IA.pin p hp).1
      rw [z, notA] at this; cases this
    have S₁ := I₁.suite g₁ d₁ na aL aF
    refine wpAny_handleBy_cons (codeAny_handlers_test ?_) (by intro q; cases q)
    have looksT : PySem.W.Looks (model X.prog X.w) k₁ (typeOf (.ref a)) cls := fun _ _ _ _ k q => wpAny_typeOf_ref (k _ _ g₁) (by rw [z₁.1]; exact q)
    have looksM := PySem.W.exm_one (M := model X.prog X.w) (I₁.kIn) looksT hb1
    have named : ∀ {Q E : Value → Shared → Prop}, Q c { t₀ with heap := k₁ } → wpAny (model X.prog X.w) (X.A.mark (some (.ref a))) (eval (.Name x np) X.env) Q E { t₀ with heap := k₁ } := fun {Q E} q => by
      obtain ⟨hg, hdbg, hm | ⟨hm, hv, hnn⟩⟩ := hc
      · exact ld_glob (X := X.suite a ((a, o₁) :: (X.pn ++ pins))) S₁ hg hm q hdbg
      · exact ld_blt (X := X.suite a ((a, o₁) :: (X.pn ++ pins))) S₁ hg hm hv q hnn hdbg
    refine named (looksM.here ?_)
    cases b with
    | true =>
      obtain ⟨dn0, hyes⟩ := hyes rfl
      subst dn0
      refine codeAny_handlers_suite_as (HandSPX.lands_againZ air₁ fun k₂ air₂ up₂ => ?_)
      have I₂ : Inv X pins τ G { t₀ with heap := k₂ } := IA.landed nb air₂.1 ((up.trans up₁).trans up₂) os ag
      obtain ⟨o₂, f₂, g₂, z₂, d₂⟩ := air₂.there
      refine store_ok (X := X.suite a ((a, o₂) :: (X.pn ++ pins))) (v := .ref a) (I₂.suite g₂ d₂ na aL aF) nodup hi (.inl hkind) rfl (fun t₃ S₃ => ?_) (.inr hkind)
      refine wpAny_mono ((hSuite a o₂ cls none (X.pn ++ pins) z₂ ⟨_, d₂⟩).run [] t₃ _ G _ S₃ (hyes a na)) (fun fl t₄ ended => ?_) (fun _ _ z => False.elim z)
      cases fl with
      | next =>
        obtain ⟨τ₄, G₄, S₄, q₄⟩ := ended
        obtain ⟨pg, pn, _⟩ := S₄.pin (a, o₂) (by simp)
        have I₄ := S₄.unsuite okX
        have nCell : ∀ y c, X.env.cells.lookup y = some c → c ≠ a := fun y c e z => by
          obtain ⟨v, ob, ho, hcell⟩ := I₄.cell y c e
          rw [z, pg] at ho; cases ho
          rw [d₂] at hcell; cases hcell
        have I₅ : Inv X pins τ₄ (upd G₄ a (.ext (excIs a cls))) t₄ := track I₄ not0 pn aL nCell nPins (excIs_ok pg z₂ d₂)
        exact gone_ok I₅ nodup hi hkind fun t₅ I₆ => ⟨_, _, I₆, q₄ pn⟩
      | brk => obtain ⟨_, _, _, z⟩ := ended; exact z.elim
      | cont => obtain ⟨_, _, _, z⟩ := ended; exact z.elim
      | ret u => obtain ⟨_, _, _, _, _, z⟩ := ended; exact z.elim
    | false =>
      show wpAny _ X.A (handleBy (.ref a) X.env []) _ _ _
      refine wpAny_handleBy_nil ?_
      obtain ⟨_, _, _, o₃, f₃, T, oT, us, g₃, _, d₃, h1, _⟩ := id air₁
      unfold PySem.passOn
      refine wpAny_bind (wpAny_field g₃ d₃ h1 ?_)
      rw [if_neg (show ¬ ((Value.ref T == Value.none) = true) from by simp)]
      have away : wpAny (model X.prog X.w) X.A (setFlight (.ref a) X.env.frame) (fun _ t₅ => wpAny (model X.prog X.w) X.A (throw (.ref a) : Sem Flow) (SP X pins D) X.xe t₅) X.xe { t₀ with heap := k₁ } := by
        rw [hf]
        exact HandSPX.setFlight_upZ air₁ fun k₃ air₃ up₃ => wpAny_throw (tk _ _ ⟨a, B, sA, pins, τ, G, cls, d, rfl, IA, nb, (up.trans up₁).trans up₃, .inr (.inr (by rw [hs]; exact air₃)), na, os, ag, hno rfl⟩)
      first
        | exact wpAny_bind (wpAny_pure (wpAny_bind away))
        | exact wpAny_bind away
  · cases fl with
    | next =>
      obtain ⟨τ, G, I₁, q⟩ := came
      exact wpAny_execs_nil ⟨τ, G, I₁.ofTry okX, q⟩
    | brk => obtain ⟨τ, G, I₁, q⟩ := came; exact ⟨τ, G, I₁.ofTry okX, q⟩
    | cont => obtain ⟨τ, G, I₁, q⟩ := came; exact ⟨τ, G, I₁.ofTry okX, q⟩
    | ret u => obtain ⟨v, τ, G, I₁, r, q⟩ := came; exact ⟨v, τ, G, I₁.ofTry okX, r, q⟩
end
end L2.Lh

/-! try .. except X as n over plain data; isinstance of a kept error -/
namespace L2.Lh
open PySem PySem.Spec PyProof.Rows
/-- what is known of classes: is an instance of the first one of the second? -/
abbrev CT := List (Value × Value × Bool)
inductive CtOk (K : PySem.W.Frag) : CT → Prop
  | nil : CtOk K []
  | own {C : Addr} {u : Value} {b : Bool} {r : CT} : ExcC K C → PySem.W.kitOne K (.ref C) u = some b → CtOk K r → CtOk K ((.ref C, u, b) :: r)
  | ty {n : String} {u : Value} {b : Bool} {r : CT} : PySem.W.kitOne K (.type n) u = some b → CtOk K r → CtOk K ((.type n, u, b) :: r)
theorem CtOk.kit {K : PySem.W.Frag} {t u : Value} {b : Bool} : ∀ {tb : CT}, CtOk K tb → (t, u, b) ∈ tb → PySem.W.kitOne K t u = some b
  | _, .nil, h => by cases h
  | _, .own _ k r, h => by
    cases h with
    | head => exact k
    | tail _ h => exact r.kit h
  | _, .ty k r, h => by
    cases h with
    | head => exact k
    | tail _ h => exact r.kit h
theorem CtOk.exc {K : PySem.W.Frag} {C : Addr} {u : Value} {b : Bool} : ∀ {tb : CT}, CtOk K tb → (Value.ref C, u, b) ∈ tb → ExcC K C
  | _, .nil, h => by cases h
  | _, .own e k r, h => by
    cases h with
    | head => exact e
    | tail _ h => exact r.exc h
  | _, .ty k r, h => by
    cases h with
    | tail _ h => exact r.exc h
def clsD (m : Mem) (d : D) : Option Value := match tyS m d with
  | some n => some (.type n)
  | none => match d with
    | .ref a => match m a with
      | some (.exc (.ref C)) => some (.ref C)
      | _ => none
    | _ => none
def clsA : D → Option Value
  | .ref C => some (.ref C)
  | .ty n => some (.type n)
  | _ => none
def isiE (tb : CT) : DRC
  | [d, c], m, q => match clsD m d, clsA c with
    | some t, some u => ∃ b, (t, u, b) ∈ tb ∧ q (.bl b) m
    | _, _ => False
  | _, _, _ => False
section
variable {X : Cx} {B : Bs}
theorem clsA_ok {K : PySem.W.Frag} {H : Hp} {d : D} {v : V} {u : Value} (r : Rep K H d v) (e : clsA d = some u) : ClsV v u := by
  cases r with
  | ty n => cases e; exact .ty n
  | ref a => cases e; exact .own a
  | _ => cases e
theorem c_isiE {tb : CT} (ok : CtOk X.K tb) : CallD X (.builtin "isinstance") (isiE tb) := by
  intro pins s σ H xs us Q I r ⟨ds, m, q, rs, sim, h, post⟩
  unfold isiE at h
  split at h
  · rename_i d c
    split at h
    · rename_i t u ht hu
      obtain ⟨b, hm, h⟩ := h
      obtain ⟨v, w, rfl, rv, rw'⟩ := reps2 rs
      have k := ok.kit hm
      have kc := clsA_ok rw' hu
      unfold clsD at ht
      split at ht
      · rename_i n en
        cases ht
        exact call_isi pins s σ H _ us Q I r ⟨v, _, _, _, b, rfl, kc, tyS_ok sim rv en, k, post.here h (.bl _) sim⟩
      · split at ht
        · rename_i a hy
          split at ht
          · rename_i C ea
            cases ht
            cases rv
            have hx : H a = some (.ext (excIs a (.ref C))) := sim a _ ea
            obtain ⟨⟨oe, vs, g, e1, e2, e3⟩, _⟩ := I.hok a _ hx
            cases r with
            | cons rx rr =>
              cases rr with
              | cons rt rr =>
                cases rr
                cases rx
                have ec := kc.eq rt
                subst ec
                obtain ⟨oc, od, oda, osl⟩ := oe
                dsimp only at e1 e2 e3
                subst e1 e2 e3
                have E := ok.exc hm
                have J : PySem.W.InstAt s.heap a ⟨.ref C, none, .fields vs, osl⟩ C none := ⟨g, rfl, rfl, trivial⟩
                exact PySem.W.kia_one (PySem.W.handS_kitx_exc E.hg E.hk E.hs E.hd E.ha E.hn E.ht E.hm) I.kIn J k (fun z => nomatch z) fun tk => ⟨.bl b, H, I.kept (t' := tk) fun _ _ z => z, rfl, post.here h (.bl b) sim⟩
          · cases ht
        · cases ht
    · exact h.elim
  · exact h.elim
/-- what an except clause takes -/
def ExOk (K : PySem.W.Frag) (xt : CT) : Prop := ∀ t ∈ xt, PySem.W.exmOne K t.1 t.2.1 = some t.2.2
theorem exOk_nil {K : PySem.W.Frag} : ExOk K [] := fun _ h => by cases h
theorem exOk_cons {K : PySem.W.Frag} {t u : Value} {b : Bool} {r : CT} (h : PySem.W.exmOne K t u = some b) (k : ExOk K r) : ExOk K ((t, u, b) :: r) := fun x hx => by
  cases hx with
  | head => exact h
  | tail _ hx => exact k x hx
def dTryK (tb : DWX → DTS) (xt : CT) (c : Value) (i : Nat) (ts : DTS) (we : DWX) : DTS := fun E ρ m =>
  tb (fun cls ρ1 m1 => ∃ b, (cls, c, b) ∈ xt ∧ (b = true → ∀ a, m1 a = none → ts { nx := fun ρ2 m2 => E.nx (ρ2.set i none) (m2.set a (.exc cls)), rt := fun _ _ => False } (ρ1.set i (some (.ref a))) m1) ∧ (b = false → we cls ρ1 m1)) E ρ m
theorem ds_tryK {x n : Str} {c : Value} {i : Nat} {body suite : List Stmt} {b₀ : Stmt} {np pos pos' : Pos} {tb : DWX → DTS} {ts : DTS} {we : DWX} {xt : CT}
    (hex : X.ex = []) (hs : X.stack = X.env :: X.outer) (hf : X.env.frame = some X.env.locals) (nodup : X.N.Nodup) (xo : ExOk X.K xt) (tk : Takes X (upW X.K B we))
    (hBody : ∀ (B' : Bs) (we' : DWX) (pn : List (Addr × Obj)) (xe : Value → Shared → Prop), Takes (X.tr pn xe) (upW X.K B' we') → PassesOwn (model X.prog X.w) X.A X.env xe → DSs B' (X.tr pn xe) body (tb we'))
    (hSuite : ∀ (B' : Bs) (a : Addr) (pn : List (Addr × Obj)), DSs B' (X.suite a pn) (b₀ :: suite) ts)
    (hc : Names X x c) (hi : X.N[i]? = some n := by rfl) (hkind : X.env.kindOf n = some .local := by rfl) :
    DS B X (.Try body [.ExceptHandler (some (.Name x np)) (some n) (b₀ :: suite) pos'] [] [] pos) (dTryK tb xt c i ts we) := by
  refine ps_imp (ps_tryK (tb := fun W F σ H => ∃ ρ m E we', Pre X.K ⟨H, m⟩ ρ m σ H ∧ (∀ cls d σ' H', upW X.K ⟨H, m⟩ we' cls d σ' H' → W cls d σ' H') ∧ tb we' E ρ m ∧ EndsOk X.K H m E F)
    (ts := fun _ _ _ F σ H => ∃ B', upS X.K B' ts F σ H) hex hs hf nodup hi hkind hc tk ?_ ?_) ?_
  · intro W pn xe tk' po'
    refine ⟨fun pins s σ H F I ⟨ρ, m, E, we', p, hw, ht, eo⟩ => ?_⟩
    exact (hBody ⟨H, m⟩ we' pn xe (tk'.imp fun cls d σ' H' z => hw cls d σ' H' z) po').run pins s σ H F I ⟨ρ, m, E, p, ht, eo⟩
  · intro a oe cls d pn hz hd
    exact ⟨fun pins s σ H F I ⟨B', h⟩ => (hSuite B' a _).run pins s σ H F I h⟩
  · rintro F σ H ⟨ρ, m, E, p, h, eo⟩
    refine ⟨ρ, m, E, _, ⟨p.env, p.sim, Step.refl _ _⟩, ?_, h, eo⟩
    rintro cls d σ' H' ⟨dn, ρ1, m1, p1, b, hb, hyes, hno⟩
    refine ⟨b, xo _ hb, fun e => ⟨dn, fun a ha => ?_⟩, fun e => ⟨dn, ρ1, m1, ⟨p1.env, p1.sim, p.st.trans p1.st⟩, hno e⟩⟩
    have hm : m1 a = none := p1.sim.free ha
    refine ⟨⟨H', m1⟩, ρ1.set i (some (.ref a)), m1, _, ⟨p1.env.set (.ref a) i, p1.sim, Step.refl _ _⟩, hyes e a hm, ?_, ?_, ?_, ?_⟩
    · intro ρ2 m2 σ2 H2 q2 env2 sim2 st2 g2
      refine eo.nx _ _ _ _ q2 ((env2.mono (upd_new g2)).setNone i) (sim2.allocM g2 upd_same) (p1.st.trans (st2.trans (Step.allocM g2)))
    · intro _ _ _ _ z; exact z.elim
    · intro _ _ _ _ z; exact z.elim
    · intro _ _ _ _ z; exact z.elim
end
end L2.Lh

/-! list methods, max, sum, t[::-1], o[i] as a target -/
namespace L2.Lh
open PySem PySem.Spec PyProof.Rows
section
variable {X : Cx}
/-- a.extend(b) -/
def extendD : DRM
  | .ref a, [.ref b], m, q => ∃ xs ys, m a = some (.lst xs) ∧ m b = some (.lst ys) ∧ xs.length + ys.length ≤ sizeLine ∧ q .non (m.set a (.lst (xs ++ ys)))
  | _, _, _, _ => False
theorem m_extend : MtR X "list.extend" (upM X.K extendD) := by
  intro pins s σ H x xs v us Q I rx rv ⟨d, ds, m, q, r1, r2, sim, h, post⟩
  unfold extendD at h
  split at h
  · rename_i a b
    obtain ⟨xs1, ys, ha, hb, hz, hq⟩ := h
    cases r1
    obtain ⟨vs, hv, rs⟩ := sim a _ ha
    obtain ⟨ws, hw, rw'⟩ := sim b _ hb
    cases r2 with
    | cons q1 q2 =>
      cases q2
      cases q1
      exact mt_extend pins s σ H _ _ v us Q I rx rv ⟨a, b, vs, ws, rfl, rfl, hv, hw, by rw [← rs.length, ← rw'.length]; exact hz, post.wrt ha hq (rs.append rw') .non sim⟩
  · exact h.elim
/-- a.insert(i, d), i not below 0 -/
def insertD : DRM
  | .ref a, [.int i, d], m, q => ∃ xs, m a = some (.lst xs) ∧ xs.length < sizeLine ∧ 0 ≤ i ∧ i < 2 ^ 63 ∧ q .non (m.set a (.lst (xs.take i.toNat ++ [d] ++ xs.drop i.toNat)))
  | _, _, _, _ => False
theorem m_insert : MtR X "list.insert" (upM X.K insertD) := by
  intro pins s σ H x xs v us Q I rx rv ⟨d, ds, m, q, r1, r2, sim, h, post⟩
  unfold insertD at h
  split at h
  · rename_i a i e
    obtain ⟨xs1, ha, hz, h0, h1, hq⟩ := h
    cases r1
    obtain ⟨vs, hv, rs⟩ := sim a _ ha
    cases r2 with
    | cons q1 q2 =>
      cases q2 with
      | cons q2 q3 =>
        cases q3
        cases q1
        exact mt_insert pins s σ H _ _ v us Q I rx rv ⟨a, vs, i, _, rfl, rfl, hv, by rw [← rs.length]; exact hz, h0, h1, post.wrt ha hq (((rs.take i.toNat).append (.cons q2 .nil)).append (rs.drop i.toNat)) .non sim⟩
  · exact h.elim
def reverseD : DRM
  | .ref a, [], m, q => ∃ xs, m a = some (.lst xs) ∧ q .non (m.set a (.lst xs.reverse))
  | _, _, _, _ => False
theorem m_reverse : MtR X "list.reverse" (upM X.K reverseD) := by
  intro pins s σ H x xs v us Q I rx rv ⟨d, ds, m, q, r1, r2, sim, h, post⟩
  unfold reverseD at h
  split at h
  · rename_i a
    obtain ⟨xs1, ha, hq⟩ := h
    cases r1
    obtain ⟨vs, hv, rs⟩ := sim a _ ha
    cases r2
    exact mt_reverse pins s σ H _ _ v us Q I rx rv ⟨a, vs, rfl, rfl, hv, post.wrt ha hq rs.reverse .non sim⟩
  · exact h.elim
def clearD : DRM
  | .ref a, [], m, q => ∃ xs, m a = some (.lst xs) ∧ q .non (m.set a (.lst []))
  | _, _, _, _ => False
theorem m_clear : MtR X "list.clear" (upM X.K clearD) := by
  intro pins s σ H x xs v us Q I rx rv ⟨d, ds, m, q, r1, r2, sim, h, post⟩
  unfold clearD at h
  split at h
  · rename_i a
    obtain ⟨xs1, ha, hq⟩ := h
    cases r1
    obtain ⟨vs, hv, rs⟩ := sim a _ ha
    cases r2
    exact mt_clear pins s σ H _ _ v us Q I rx rv ⟨a, vs, rfl, rfl, hv, post.wrt ha hq .nil .non sim⟩
  · exact h.elim
/-- max, sum of a list of ints -/
def maxD : DRC
  | [d], m, q => match itemsL m d with
    | some xs => match intsOf xs with
      | some ns => 0 < ns.length ∧ ∀ k, k ∈ ns → (∀ y ∈ ns, y ≤ k) → q (.int k) m
      | none => False
    | none => False
  | _, _, _ => False
theorem c_max (hc : X.calm = true) : CallD X (.builtin "max") maxD := by
  intro pins s σ H xs us Q I r ⟨ds, m, q, rs, sim, h, post⟩
  unfold maxD at h
  split at h
  · split at h
    · rename_i xs' ex
      split at h
      · rename_i ns en
        obtain ⟨v, rfl, rv⟩ := reps1 rs
        obtain ⟨a, vs, rfl, hsq, rvs⟩ := sim.sq rv ex
        have e1 := intsOf_ok en
        subst e1
        have e2 := reps_ints rvs
        subst e2
        exact cr_max hc pins s σ H _ us Q I r ⟨a, ns, rfl, hsq, h.1, fun k hk hm => post.here (h.2 k hk hm) (.int _) sim⟩
      · exact h.elim
    · exact h.elim
  · exact h.elim
def sumD : DRC
  | [d], m, q => match itemsL m d with
    | some xs => match intsOf xs with
      | some ns => q (.int ns.sum) m
      | none => False
    | none => False
  | _, _, _ => False
theorem c_sum (hc : X.calm = true) : CallD X (.builtin "sum") sumD := by
  intro pins s σ H xs us Q I r ⟨ds, m, q, rs, sim, h, post⟩
  unfold sumD at h
  split at h
  · split at h
    · rename_i xs' ex
      split at h
      · rename_i ns en
        obtain ⟨v, rfl, rv⟩ := reps1 rs
        obtain ⟨a, vs, rfl, hsq, rvs⟩ := sim.sq rv ex
        have e1 := intsOf_ok en
        subst e1
        have e2 := reps_ints rvs
        subst e2
        exact cr_sum hc pins s σ H _ us Q I r ⟨a, ns, rfl, hsq, post.here h (.int _) sim⟩
      · exact h.elim
    · exact h.elim
  · exact h.elim
end
/-! ### o[i] as a target -/
def gSx (to ti : DTE) : DTG := fun d ρ m q => to ρ m fun o m1 => ti ρ m1 fun i m2 => setG o i d m2 fun m3 => q ρ m3
section
variable {X : Cx} {B : Bs}
theorem dg_sub {o i : Expr} {to ti : DTE} {pos : Pos} {vs : List Nat} (hu : X.A.units + 64 < cLine) (ho : DE B X o to) (hi : DE B X i ti)
    (ha : ∀ v, assign (.Subscript o i pos) X.env v = (do
      let ov ← holding [v] (eval o X.env)
      let iv ← holding [v, ov] (eval i X.env)
      standAt pos
      holding [v, ov, iv] (setItem ov iv v)
      release [v, ov, iv] []) := by intro _; rfl) : DG B X vs (.Subscript o i pos) (gSx to ti) :=
  pg_imp (pg_sub (t := rSetG X.K) ho hi (set_G hu) ha) fun v σ H Q ⟨d, ρ, m, q, rd, p, h, post⟩ =>
    ⟨ρ, m, _, p, h, fun o m1 vo H1 h1 r1 s1 t1 => ⟨ρ, m1, _, p.next s1 t1, h1, fun i m2 vi H2 h2 r2 s2 t2 =>
      ⟨o, i, d, m2, _, r1.mono t2.ext, r2, (rd.mono t1.ext).mono t2.ext, s2, h2, fun m3 H3 h3 s3 t3 => post _ m3 _ H3 h3 (p.env.mono ((t1.trans t2).trans t3).ext) rfl s3 ((t1.trans t2).trans t3)⟩⟩⟩
end
/-! ### a comprehension to a cell -/
theorem sw_cell {elt : Expr} {gs : List Comprehension} {scope : Scope} {pos py : Pos} {y : Str} {l : Nat} {env : Env} (hy : env.scope.names.lookup y = some .cell) : swapsWith (.ListComp elt gs scope pos) (some (.Name y py)) l env = pure false := by
  have ky : env.kindOf y = some .cell := hy
  unfold swapsWith
  simp only [ky]
  have : (some NameKind.cell == some NameKind.local) = false := by decide
  simp [this]
end L2.Lh
namespace HT2
open PySem PySem.Spec PyProof.Rows HT
section
variable {prog : Program} {w : World} {A : Around} {E : Value → Shared → Prop} {s : Shared}
theorem adjust_rev (n : Nat) : Builtin.Slice.sliceAdjust none none (-1) (n : Int) = ((n : Int) - 1, -1) := rfl
theorem places_rev (n : Nat) : Builtin.Slice.slicePlaces ((n : Int) - 1) (-1) (-1) = n := by
  unfold Builtin.Slice.slicePlaces
  have h1 : ¬ ((-1 : Int) > 0) := by omega
  rw [if_neg h1, show (-(-1) : Int) = 1 by decide, Int.ediv_one]
  split <;> omega
theorem sliceApplied_rev {sl : Addr} {vs : Value} {n : Nat} {Q : Int × Int × Nat → Shared → Prop} (hs : s.heap.IsSliceOf sl .none .none vs) (ps : IsPart vs (some (-1)))
    (h : Q ((n : Int) - 1, -1, n) s) : wpAny (model prog w) A (Builtin.Slice.sliceApplied (.ref sl) (pure (n : Int))) Q E s := by
  obtain ⟨os, hos, hcs, hds⟩ := id hs
  unfold Builtin.Slice.sliceApplied Builtin.Slice.sliceFields
  refine wpAny_bind (wpAny_bind (wpAny_field hos hds (x := .none) rfl (wpAny_bind (wpAny_field hos hds (x := .none) rfl (wpAny_bind (wpAny_field hos hds (x := vs) rfl (wpAny_pure ?_)))))))
  refine wpAny_bind (slicePart_ ps ?_)
  show wpAny _ _ (if ((-1 : Int) == 0) = true then _ else _) _ _ s
  rw [if_neg (by decide)]
  refine wpAny_bind (slicePart_none (wpAny_bind (slicePart_none (wpAny_bind (wpAny_pure ?_)))))
  show wpAny _ _ (match Builtin.Slice.sliceAdjust none none (-1) (n : Int) with | (lo, hi) => pure (lo, (-1 : Int), Builtin.Slice.slicePlaces lo hi (-1))) _ _ s
  rw [adjust_rev]
  show wpAny _ _ (pure ((n : Int) - 1, (-1 : Int), Builtin.Slice.slicePlaces ((n : Int) - 1) (-1) (-1))) _ _ s
  rw [places_rev]
  exact wpAny_pure h
theorem pick_rev (xs : List Value) : ((List.range xs.toArray.size).filterMap fun (k : Nat) => xs.toArray[(((xs.toArray.size : Nat) : Int) - 1 + (k : Int) * (-1)).toNat]?) = xs.reverse := by
  rw [List.size_toArray]
  have e : ∀ k ∈ List.range xs.length, xs.toArray[(((xs.length : Nat) : Int) - 1 + (k : Int) * (-1)).toNat]? = xs.reverse[k]? := fun k hk => by
    have hk := List.mem_range.mp hk
    rw [List.getElem?_toArray, List.getElem?_reverse hk]
    congr 1
    omega
  have e2 : (List.range xs.length).filterMap (fun (k : Nat) => xs.toArray[(((xs.length : Nat) : Int) - 1 + (k : Int) * (-1)).toNat]?) = (List.range xs.length).filterMap (fun k => xs.reverse[k]?) := by
    have : ∀ (l : List Nat) (f g : Nat → Option Value), (∀ k ∈ l, f k = g k) → l.filterMap f = l.filterMap g := fun l f g h => by
      induction l with
      | nil => rfl
      | cons a l ih => rw [List.filterMap_cons, List.filterMap_cons, h a List.mem_cons_self, ih fun k hk => h k (List.mem_cons_of_mem _ hk)]
    exact this _ _ _ e
  rw [e2]
  have : ∀ (ys : List Value), (List.range ys.length).filterMap (fun k => ys[k]?) = ys := fun ys => by
    apply List.ext_getElem?
    intro i
    induction ys generalizing i with
    | nil => simp
    | cons y ys ih =>
      rw [List.length_cons, List.range_succ_eq_map, List.filterMap_cons]
      simp only [List.getElem?_cons_zero]
      rw [List.filterMap_map]
      cases i with
      | zero => rfl
      | succ i =>
        rw [List.getElem?_cons_succ, List.getElem?_cons_succ]
        exact ih i
  have l : xs.length = xs.reverse.length := by rw [List.length_reverse]
  conv => lhs; rw [l]
  exact this xs.reverse
theorem getItem_tuple_rev {t sl : Addr} {its : List Value} {vs : Value} {Q : Value → Shared → Prop} (ht : IsTup s.heap t its.toArray) (hs : s.heap.IsSliceOf sl .none .none vs) (ps : IsPart vs (some (-1)))
    (h : Q (.ref s.heap.objs.size) { s with heap := s.heap.push { cls := .type "tuple", data := .seq its.reverse.toArray } })
    (hsz : its.length ≤ sizeLine) : wpAny (model prog w) A (getItem (.ref t) (.ref sl)) Q E s := by
  have htake : sizeOk (.seq its.reverse.toArray) := by
    show its.reverse.toArray.size ≤ sizeLine
    rw [List.size_toArray, List.length_reverse]
    exact hsz
  obtain ⟨os, hos, hcs, hds⟩ := id hs
  have hTs : s.TypeIs (.ref sl) "slice" := ⟨os, hos, hcs⟩
  unfold getItem
  try with_reducible refine wpAny_holding ?_
  first | refine wpAny_bind (wpAny_pure ?_) | skip
  refine wpAny_bind (wpAny_sequenceKey ht.typeIs (by decide) ?_)
  refine wpAny_bind (wpAny_callSpecial?_slot (name := Str.ofString "__getitem__") ht.typeIs PyProof.Rows.slot_tuple_getitem
    (wpAny_call_entry PyProof.Rows.slot_tuple_getitem ht.typeIs entry_tuple_getitem ?_ (args_tuple_getitem _ _)))
  show wpAny _ _ (Builtin.Tuple.tupleItemsOf (.ref t) >>= _) _ _ s
  refine wpAny_bind (tupleItemsOf_ ht ?_)
  refine wpAny_bind (wpAny_typeOf hTs ?_)
  rw [if_pos (by decide)]
  refine wpAny_bind (sliceApplied_rev hs ps ?_)
  have hno : ¬ ((((its.toArray.size : Nat) : Int) - 1 == 0 && (-1 : Int) == 1 && its.toArray.size == its.toArray.size) = true) := by simp
  show wpAny _ _ (if ((((its.toArray.size : Nat) : Int) - 1 == 0 && (-1 : Int) == 1 && its.toArray.size == its.toArray.size) = true) then _ else _) _ _ s
  rw [if_neg hno, pick_rev]
  first
    | exact wpAny_bind (m := Builtin.Tuple.tupleExact _) (wpAny_newObj_type (wpAny_pure ⟨_, rfl, wpAny_pure h⟩) htake)
    | exact wpAny_bind (m := Builtin.Tuple.tupleExact _) (wpAny_newObj_type (wpAny_bind (wpAny_pure (wpAny_pure ⟨_, rfl, wpAny_pure h⟩))) htake)
    | exact wpAny_bind (wpAny_bind (m := Builtin.Tuple.tupleExact _) (wpAny_newObj_type (wpAny_pure (wpAny_pure ⟨_, rfl, wpAny_pure h⟩)) htake))
    | exact wpAny_bind (wpAny_bind (m := Builtin.Tuple.tupleExact _) (wpAny_newObj_type (wpAny_pure ⟨_, rfl, wpAny_pure h⟩) htake))
end
end HT2
namespace L2.Lh
open PySem PySem.Spec PyProof.Rows
section
variable {X : Cx} {B : Bs}
def tRevT (K : PySem.W.Frag) (te : TE) : TE := fun σ H Q => te σ H fun x H1 => ∃ a xs, x = .ref a ∧ SqT K H1 a xs ∧ ∀ p, H1 p = none → Q (.ref p) (upd H1 p (.tup xs.reverse))
theorem pe_revT {e : Expr} {te : TE} {k : Nat} {p1 p2 p3 pos : Pos} (he : PE X e te) : PE X (.Subscript e (.Slice none none (some (.UnaryOp .USub (.Constant (.int 1) k p1) p2)) p3) pos) (tRevT X.K te) := by
  refine ⟨fun pins s σ H Q I h => ?_⟩
  refine Subscript_ (thn (he.run pins s σ H _ I h) fun v s1 ⟨x, H1, I1, r1, q1⟩ => ?_)
  obtain ⟨a, xs, ex, hx, q⟩ := q1
  subst ex
  cases r1
  have hst : PO X (some (.UnaryOp .USub (.Constant (.int 1) k p1) p2)) (tPart (tUn (rU fun i => .int (-i)) (tC (.int 1)))) := po_some (pe_un un_neg pe_int)
  refine wpAny_Slice (thn (po_none.run pins s1 σ H1 (fun o H2 => o = none ∧ H2 = H1) I1 ⟨rfl, rfl⟩) fun vl s2 ⟨l, H2, I2, pl, el, e2⟩ => ?_)
  subst el e2
  refine thn (po_none.run pins s2 σ H2 (fun o H3 => o = none ∧ H3 = H2) I2 ⟨rfl, rfl⟩) fun vu s3 ⟨u, H3, I3, pu, eu, e3⟩ => ?_
  subst eu e3
  refine thn (hst.run pins s3 σ H3 (fun o H4 => o = some (-1) ∧ H4 = H3) I3 ⟨1, rfl, -1, rfl, rfl, rfl⟩) fun vs s4 ⟨o, H4, I4, ps, eo, e4⟩ => ?_
  subst eo e4
  have I5 : Inv X pins σ H4 { s4 with heap := s4.heap.push { cls := .type "slice", data := .fields #[vl, vu, vs] } } := I4.kept (t' := s4.toks) fun b ob q => Heap.get?_push_of_some _ q
  cases pl
  cases pu
  obtain ⟨its, r, ht, hz⟩ := I5.tuple hx
  have hlen := r.length
  show wpAny (model X.prog X.w) X.A (subscriptTail e (.Slice none none (some (.UnaryOp .USub (.Constant (.int 1) k p1) p2)) p3) (.ref a) (.ref s4.heap.objs.size)) (EP X pins σ Q) X.xe { s4 with heap := s4.heap.push { cls := .type "slice", data := .fields #[.none, .none, vs] } }
  refine tail_any (ops := [.ref a, .ref s4.heap.objs.size]) ht.typeIs (PyProof.Rows.slot_tuple_getitem.lookup) ?_ (by with_unfolding_all rfl)
  refine HT2.getItem_tuple_rev ht (Heap.IsSliceOf.new _ _ _ vs) ps ?_ (by omega)
  refine ⟨.ref _, _, I5.laid (t' := s4.toks) (o := .tup xs.reverse) (fun b ob q => Heap.get?_push_of_some _ q) (Nat.le_refl _) ?_, rfl, q _ (I5.hok.fresh (Nat.le_refl _))⟩
  exact ⟨by rw [List.length_reverse]; omega, _, r.reverse, IsTup.new _ _⟩
def revTD (d : D) (m : Mem) (q : DQ) : Prop := match d with
  | .tup xs => q (.tup xs.reverse) m
  | .ftup xs => q (.tup xs.reverse) m
  | _ => False
def dRevT (te : DTE) : DTE := fun ρ m q => te ρ m fun d m1 => revTD d m1 q
theorem de_revT {e : Expr} {te : DTE} {k : Nat} {p1 p2 p3 pos : Pos} (he : DE B X e te) : DE B X (.Subscript e (.Slice none none (some (.UnaryOp .USub (.Constant (.int 1) k p1) p2)) p3) pos) (dRevT te) :=
  pe_imp (pe_revT he) fun σ H Q ⟨ρ, m, q, p, h, post⟩ => ⟨ρ, m, _, p, h, fun d m1 v H1 h1 r1 s1 t1 => by
    have post1 : PostE X.K H1 m1 q Q := fun d2 m2 v2 H2 h2 r2 s2 t2 => post d2 m2 v2 H2 h2 r2 s2 (t1.trans t2)
    cases r1 with
    | tup hx rs => exact ⟨_, _, rfl, SqT.of hx, fun p hp => post1.tup h1 hp rs.reverse s1⟩
    | ftup hx _ rs => exact ⟨_, _, rfl, .inl (.inr ⟨_, hx⟩), fun p hp => post1.tup h1 hp rs.reverse s1⟩
    | _ => exact (show False from h1).elim⟩
end
end L2.Lh

namespace L2.Lh
open PySem PySem.Spec PyProof.Rows
section
variable {X : Cx} {B : Bs}
/-! ### a, b = x, y of plain local names -/
def dPar2 (i j : Nat) (ta : DTA) : DTS := fun E ρ m => ta ρ m fun ds m1 => match ds with
  | [u, v] => E.nx ((ρ.set i (some u)).set j (some v)) m1
  | _ => False
def dPar3 (i j l : Nat) (ta : DTA) : DTS := fun E ρ m => ta ρ m fun ds m1 => match ds with
  | [u, v, w] => E.nx (((ρ.set i (some u)).set j (some v)).set l (some w)) m1
  | _ => False
theorem ds_par2 {i j : Nat} {x y : Str} {a b : Expr} {ta : DTA} {px py pt pos : Pos} {kt k2 pt2} (hc : X.calm = true) (hN : X.N.Nodup) (ha : DA B X [a, b] ta)
    (hw : swappedStores [.Tuple [.Name x px, .Name y py] kt pt] (.Tuple [a, b] k2 pt2) X.env = pure (some [x, y]))
    (hi : X.N[i]? = some x := by rfl) (hj : X.N[j]? = some y := by rfl) (hij : i ≠ j := by decide) (hx : X.env.scope.names.lookup x = some .local := by rfl) (hy : X.env.scope.names.lookup y = some .local := by rfl)
    (hs : swapsWithSole [.Tuple [.Name x px, .Name y py] kt pt] (.Tuple [a, b] k2 pt2) pos.line X.env = pure false := by rfl) :
    DS B X (.Assign [.Tuple [.Name x px, .Name y py] kt pt] (.Tuple [a, b] k2 pt2) pos) (dPar2 i j ta) :=
  ps_imp (ps_par hc hN hi hj hij hx hy ha hw hs) fun F σ H ⟨ρ, m, E, p, h, o⟩ => ⟨ρ, m, _, p, h, fun ds m1 vs H1 h1 r1 s1 t1 => by
    split at h1
    · rename_i u v
      obtain ⟨v1, v2, rfl, q1, q2⟩ := reps2 r1
      exact ⟨v1, v2, rfl, o.nx _ m1 _ H1 h1 (((p.env.mono t1.ext).set q1 i).set q2 j) s1 t1⟩
    · exact h1.elim⟩
theorem reps3 {K : PySem.W.Frag} {H : Hp} {a b c : D} {vs : List V} (r : Reps K H [a, b, c] vs) : ∃ u v w, vs = [u, v, w] ∧ Rep K H a u ∧ Rep K H b v ∧ Rep K H c w := by
  cases r with
  | cons p q =>
    obtain ⟨v, w, rfl, q1, q2⟩ := reps2 q
    exact ⟨_, _, _, rfl, p, q1, q2⟩
theorem ds_par3 {i j l : Nat} {x y z : Str} {a b c : Expr} {ta : DTA} {px py pz pt pos : Pos} {kt k2 pt2} (hc : X.calm = true) (hN : X.N.Nodup) (ha : DA B X [a, b, c] ta)
    (hw : swappedStores [.Tuple [.Name x px, .Name y py, .Name z pz] kt pt] (.Tuple [a, b, c] k2 pt2) X.env = pure (some [x, y, z]))
    (hi : X.N[i]? = some x := by rfl) (hj : X.N[j]? = some y := by rfl) (hl : X.N[l]? = some z := by rfl) (hij : i ≠ j := by decide) (hil : i ≠ l := by decide) (hjl : j ≠ l := by decide)
    (hx : X.env.scope.names.lookup x = some .local := by rfl) (hy : X.env.scope.names.lookup y = some .local := by rfl) (hz : X.env.scope.names.lookup z = some .local := by rfl)
    (hs : swapsWithSole [.Tuple [.Name x px, .Name y py, .Name z pz] kt pt] (.Tuple [a, b, c] k2 pt2) pos.line X.env = pure false := by rfl) :
    DS B X (.Assign [.Tuple [.Name x px, .Name y py, .Name z pz] kt pt] (.Tuple [a, b, c] k2 pt2) pos) (dPar3 i j l ta) :=
  ps_imp (ps_par3 hc hN hi hj hl hij hil hjl hx hy hz ha hw hs) fun F σ H ⟨ρ, m, E, p, h, o⟩ => ⟨ρ, m, _, p, h, fun ds m1 vs H1 h1 r1 s1 t1 => by
    split at h1
    · rename_i u v w
      obtain ⟨v1, v2, v3, rfl, q1, q2, q3⟩ := reps3 r1
      exact ⟨v1, v2, v3, rfl, o.nx _ m1 _ H1 h1 ((((p.env.mono t1.ext).set q1 i).set q2 j).set q3 l) s1 t1⟩
    · exact h1.elim⟩
/-! ### xs += ys -/
def extI : DR2
  | .ref a, .ref b, m, q => ∃ xs ys, m a = some (.lst xs) ∧ m b = some (.lst ys) ∧ xs.length + ys.length ≤ sizeLine ∧ q (.ref a) (m.set a (.lst (xs ++ ys)))
  | _, _, _, _ => False
theorem di_extI : OpD X (inplaceOp .Add) extI := by
  intro pins s σ H x y v u Q I rx ry ⟨dx, dy, m, q, r1, r2, sim, h, post⟩
  unfold extI at h
  split at h
  · rename_i a b
    obtain ⟨xs1, ys, ha, hb, hz, hq⟩ := h
    cases r1
    cases r2
    obtain ⟨vs, hv, rs⟩ := sim a _ ha
    obtain ⟨ws, hw, rw'⟩ := sim b _ hb
    exact iop_ext pins s σ H _ _ v u Q I rx ry ⟨a, b, vs, ws, rfl, rfl, hv, hw, by rw [← rs.length, ← rw'.length]; exact hz, post.wrt ha hq (rs.append rw') (.ref a) sim⟩
  · exact h.elim
end
end L2.Lh
namespace L2.Lh
open PySem PySem.Spec PyProof.Rows
section
variable {X : Cx} {B : Bs}
theorem room65 {k : Nat} {A : Around} (r : Room k A) : A.units + 65 < cLine := by have := r.un; omega
/-- x in y, data of any depth -/
def inA (neg : Bool) : DR2 := fun x y m q => match pyD m x, pyD m y with
  | some a, some (.list ps) => SeqAt.shaped a = true ∧ SeqAt.shaped (.list ps) = true ∧ q (.bl (if neg then !(ps.any fun z => PyData.eqv z a) else ps.any fun z => PyData.eqv z a)) m
  | some a, some (.tuple ps) => SeqAt.shaped a = true ∧ SeqAt.shaped (.tuple ps) = true ∧ q (.bl (if neg then !(ps.any fun z => PyData.eqv z a) else ps.any fun z => PyData.eqv z a)) m
  | _, _ => False
theorem d_inA (hu : X.A.units + 65 < cLine) : OpD X (compareOp .In) (inA false) := by
  intro pins s σ H x y v u Q I rx ry ⟨dx, dy, m, q, r1, r2, sim, h, post⟩
  unfold inA at h
  split at h
  · rename_i a ps e1 e2
    obtain ⟨as, p1⟩ := Dp.reads I a x v (pyW_ok (pyA_ok sim 3) r1 e1) rx
    obtain ⟨bs, p2⟩ := Dp.reads I (.list ps) y u (pyW_ok (pyA_ok sim 3) r2 e2) ry
    exact SeqAt.in_list_reads p2 p1 (SeqAt.canLay_of_shaped h.2.1) (SeqAt.canLay_of_shaped h.1) (room_in_shaped h.1 hu) ⟨.bl _, H, I, rfl, post.here h.2.2 (.bl _) sim⟩
  · rename_i a ps e1 e2
    obtain ⟨as, p1⟩ := Dp.reads I a x v (pyW_ok (pyA_ok sim 3) r1 e1) rx
    obtain ⟨bs, p2⟩ := Dp.reads I (.tuple ps) y u (pyW_ok (pyA_ok sim 3) r2 e2) ry
    exact SeqAt.in_tuple_reads p2 p1 (SeqAt.canLay_of_shaped h.2.1) (SeqAt.canLay_of_shaped h.1) (room_in_shaped h.1 hu) ⟨.bl _, H, I, rfl, post.here h.2.2 (.bl _) sim⟩
  · exact h.elim
theorem d_notInA (hu : X.A.units + 65 < cLine) : OpD X (compareOp .NotIn) (inA true) := by
  intro pins s σ H x y v u Q I rx ry ⟨dx, dy, m, q, r1, r2, sim, h, post⟩
  unfold inA at h
  split at h
  · rename_i a ps e1 e2
    obtain ⟨as, p1⟩ := Dp.reads I a x v (pyW_ok (pyA_ok sim 3) r1 e1) rx
    obtain ⟨bs, p2⟩ := Dp.reads I (.list ps) y u (pyW_ok (pyA_ok sim 3) r2 e2) ry
    exact SeqAt.notIn_list_reads p2 p1 (SeqAt.canLay_of_shaped h.2.1) (SeqAt.canLay_of_shaped h.1) (room_in_shaped h.1 hu) ⟨.bl _, H, I, rfl, post.here h.2.2 (.bl _) sim⟩
  · rename_i a ps e1 e2
    obtain ⟨as, p1⟩ := Dp.reads I a x v (pyW_ok (pyA_ok sim 3) r1 e1) rx
    obtain ⟨bs, p2⟩ := Dp.reads I (.tuple ps) y u (pyW_ok (pyA_ok sim 3) r2 e2) ry
    exact SeqAt.notIn_tuple_reads p2 p1 (SeqAt.canLay_of_shaped h.2.1) (SeqAt.canLay_of_shaped h.1) (room_in_shaped h.1 hu) ⟨.bl _, H, I, rfl, post.here h.2.2 (.bl _) sim⟩
  · exact h.elim
end
end L2.Lh
namespace L2.Lh
open PySem PySem.Spec PyProof.Rows
/-- what is known of an own class of errors under ValueError -/
structure ExcF (K : PySem.W.Frag) (mg : Str → Option Value) (x : Str) (C : Addr) : Prop where
  q : PySem.W.excIn K C [.type "ValueError", .type "Exception", .type "BaseException", .type "object"] "ValueError.__new__" = true
  g : mg x = some (.ref C)
  k : PySem.W.keepIn K (.ref C) = true
  b : PySem.W.subIn K (.ref C) (.type "BaseException") = some true
  t : PySem.W.typeIn K (.ref C) = some (.type "type")
end L2.Lh

/-! lambdas handed to a def of the law, over plain data -/
namespace L2.Lh
open PySem PySem.Spec PyProof.Rows LamX
abbrev lamN (X : Cx) : Str := X.env.qual ++ "<lambda>"
abbrev lamO (X : Cx) (params : Arguments) (body : Expr) (scope : Scope) (pm : Value) (c' : Addr) (ctv : Value) : Obj := PySem.W.kla_obj "<lambda>" (lamN X) params body scope (cloFrom X.env.cells scope.names []) pm c' ctv
/-- how the heap moves where a lambda is made -/
inductive Made (P c' : Addr) (nm : Str) (H : Hp) : Hp → Prop
  | old : Made P c' nm H H
  | new {ps more : Array Value} : H P = some (.tbl ps) → H c' = none → Made P c' nm H (upd (upd H P (.tbl (ps ++ more))) c' (CodeO c' nm))
section
variable {X : Cx} {pins : List (Addr × Obj)} {σ : L2.St} {H : Hp} {s : Shared}
theorem lam_make3 {c P : Addr} {params : Arguments} {body : Expr} {scope : Scope} {pos : Pos} {E : Value → Shared → Prop} {Q : Value → Shared → Prop} (I : Inv X pins σ H s) (TB : TabB X.base X.mg c P) (hcode : X.env.code = .ref c)
    (hT : TabS H P (lamN X)) (hdef : defaultsOf params X.env = ([], [])) (hfree : ∀ y ∈ scope.names, y.2 = .free → ∃ c, X.env.cells.lookup y.1 = some c)
    (h : ∀ (f c' : Addr) (pm ctv : Value) (H1 : Hp) (s' : Shared), Inv X pins σ H1 s' → Made P c' (lamN X) H H1 → TabS H1 P (lamN X) → s'.heap.get? f = some (lamO X params body scope pm c' ctv) → H1 f = none → f ∉ frs X.stack → H1 c' = some (CodeO c' (lamN X)) → Q (.ref f) s') :
    wpAny (model X.prog X.w) X.A (eval (.Lambda params body scope pos) X.env) Q E s := by
  obtain ⟨ps, tabP, tri, among⟩ := hT
  have objP : s.heap.get? P = some { cls := .none, data := .fields ps } := I.hok P _ tabP
  have blt : s.heap.BuiltinsAt X.mg P := TB.bm.keeps I.bk
  have codeC := TB.code.keeps I.bk
  have globs := I.mod.glob.keeps I.bk
  have outside : ∀ f, s.heap.objs.size ≤ f → f ∉ frs X.stack := fun f hf inn => by
    cases List.mem_cons.mp (I.stkSub _ inn) with
    | inl e => have lt := I.lt; rw [← e] at lt; exact absurd (Nat.lt_of_lt_of_le lt hf) (Nat.lt_irrefl _)
    | inr e => exact I.nofs hf e
  refine PySem.W.kla_eval hdef ?_
  cases look : codeAmong pos ps.toList with
  | some cv =>
    obtain ⟨c', rfl, isCode⟩ := among pos cv look
    refine PySem.W.kla_makeFunctionHit (ps := ps) (mg := X.mg) (P := P) (c := c) (closure_ok hfree) I.ok.glob globs hcode codeC objP tri look blt fun ctv h' tk ext size => ?_
    have I1 : Inv X pins σ H { s with heap := h'.push (lamO X params body scope ((X.mg "__name__").getD .none) c' ctv), toks := tk } := I.kept fun b o e => Heap.get?_push_of_some _ (ext b o e)
    exact h _ c' _ ctv H _ I1 .old ⟨ps, tabP, tri, among⟩ (Heap.get?_push_size _ rfl) (I.hok.fresh size) (outside _ size) isCode
  | none =>
    refine PySem.W.kla_makeFunction (ps := ps) (mg := X.mg) (P := P) (c := c) (closure_ok hfree) I.ok.glob globs hcode codeC objP tri look TB.gP blt fun c' ctv h' tk ext ge lt isRec tab' => ?_
    obtain ⟨c2, oc, vs, t, e2, hoc, hd, hv⟩ := isRec
    cases e2
    have size : s.heap.objs.size ≤ h'.objs.size := by omega
    have free : H c' = none := I.hok.fresh ge
    have I1 := inv_table (t' := tk) (h' := h'.push (lamO X params body scope ((X.mg "__name__").getD .none) c' ctv)) (more := #[rawInt pos.line, rawInt pos.col, .ref c']) I tabP
      (fun b o hb e => Heap.get?_push_of_some _ (ext b o hb e)) (Heap.get?_push_of_some _ tab') ge ⟨oc, vs, t, Heap.get?_push_of_some _ hoc, hd, hv⟩
    have listE : (ps ++ #[rawInt pos.line, rawInt pos.col, .ref c']).toList = ps.toList ++ [rawInt pos.line, rawInt pos.col, .ref c'] := by simp
    have pc : P ≠ c' := ne_of_none tabP free
    refine h _ c' _ ctv _ _ I1 (.new tabP free) ⟨_, by rw [upd_ne pc, upd_same], by rw [listE]; exact PySem.TriplesOk_snoc _ _ _ _ tri, fun p' cv hcv => ?_⟩ (Heap.get?_push_size _ rfl) ?_ (outside _ size) upd_same
    · rw [listE] at hcv
      cases among_app _ tri hcv with
      | inr z => exact ⟨c', z, upd_same⟩
      | inl z =>
        obtain ⟨c0, e1, e2⟩ := among p' cv z
        refine ⟨c0, e1, ?_⟩
        rw [upd_ne (ne_of_none e2 free), upd_ne (fun z => by rw [z, tabP] at e2; exact codeO_ne ps (Option.some.inj e2).symm)]
        exact e2
    · have n1 : h'.objs.size ≠ c' := by omega
      have n2 : h'.objs.size ≠ P := Nat.ne_of_gt (Nat.lt_of_lt_of_le (Heap.lt_size objP) size)
      rw [upd_ne n1, upd_ne n2]
      exact I.hok.fresh size
end
theorem Made.sim {K : PySem.W.Frag} {P c' : Addr} {nm : Str} {H H1 : Hp} {m : Mem} (d : Made P c' nm H H1) (s : Sim K H m) (hP : m P = some (.tbl nm)) (t : TabS H1 P nm) : Sim K H1 m ∧ Step H m H1 m := by
  cases d with
  | old => exact ⟨s, Step.refl _ _⟩
  | @new ps more e f =>
    have pc : P ≠ c' := ne_of_none e f
    have other : ∀ b o, H b = some o → b ≠ P → upd (upd H P (.tbl (ps ++ more))) c' (CodeO c' nm) b = some o := fun b o h n => by
      rw [upd_ne (ne_of_none h f), upd_ne n]; exact h
    have ex : Ext H (upd (upd H P (.tbl (ps ++ more))) c' (CodeO c' nm)) := ⟨fun b xs h => other b _ h (fun z => by subst z; rw [e] at h; cases h),
      fun b ob x h => other b _ h (fun z => by subst z; rw [e] at h; cases h), fun b q h => other b _ h (fun z => by subst z; rw [e] at h; exact codeO_ne ps (Option.some.inj h).symm)⟩
    refine ⟨fun a o ha => ?_, ⟨ex, fun b h => ?_, fun b o hn h => other b o h (fun z => by subst z; rw [hP] at hn; cases hn), fun _ _ h _ => h⟩⟩
    · by_cases z : a = P
      · subst z; rw [hP] at ha; cases ha; exact t
      · exact (s a o ha).mono ex fun u hu => other a u hu z
    · by_cases z : b = c'
      · subst z; exact f
      · by_cases z2 : b = P
        · subst z2; rw [upd_ne z, upd_same] at h; cases h
        · rw [upd_ne z, upd_ne z2] at h; exact h
/-- work(), in the def that got the lambda -/
theorem act3 {X : Cx} {pins : List (Addr × Obj)} {σ : L2.St} {H : Hp} {s : Shared} {CXg : CXT} {Eg : XK} {Ng : List Str} {qg : Str} {sg : Scope} {g f c' : Addr} {cdg pm ctv : Value} {params : Arguments} {body : Expr} {scope : Scope} {k i : Nat} {a : Str} {pn : List (Addr × Obj)} {xe : Value → Shared → Prop} {E : XK} {tb : TE} {p1 p2 : Pos}
    {pinsZ : List (Addr × Obj)} {σZ : L2.St} {HZ : Hp} {sZ : Shared} {Q : VK}
    (I : Inv X pins σ H s) (L : LamS X.env.scope scope) (hf : s.heap.get? f = some (lamO X params body scope pm c' ctv)) (hfn : H f = none) (hfr : f ∉ frs X.stack)
    (hbind : bindArgs (PySem.W.kla_fn "<lambda>" (lamN X) params body scope (cloFrom X.env.cells scope.names []) pm (.ref c') ctv) ⟨[], []⟩ = pure [])
    (hr : Room (k + 1) (X.A.deeper (envOfC qg sg s.heap.objs.size g cdg)))
    (hbody : ∀ (A : Around) (outer : List Env) (s : Shared) (H : Hp), Room k (A.deeper (lamEnv X scope s.heap.objs.size f c')) → PE (lamCx X A outer s H E scope f c') body tb)
    (hN : Ng[i]? = some a) (hv : Vis sg a) (hd : (a == ("__debug__" : Str)) = false) (hcd : (a == ("__classdict__" : Str)) = false)
    (IZ : Inv ((cxOf CXg X.prog X.w X.K X.mg X.base Ng qg sg g cdg X.A X.stack s H Eg).tr pn xe) pinsZ σZ HZ sZ)
    (hx : PassesAt (L2.CX X.prog X.w) ((cxOf CXg X.prog X.w X.K X.mg X.base Ng qg sg g cdg X.A X.stack s H Eg).tr pn xe) σZ E)
    (hs : σZ[i]? = some (some (.ref f))) (hc : HZ c' = some (CodeO c' (lamN X))) (ht : tb σ HZ Q) :
    wpAny (model X.prog X.w) ((cxOf CXg X.prog X.w X.K X.mg X.base Ng qg sg g cdg X.A X.stack s H Eg).tr pn xe).A (eval (.Call (.Name a p1) [] [] p2) ((cxOf CXg X.prog X.w X.K X.mg X.base Ng qg sg g cdg X.A X.stack s H Eg).tr pn xe).env)
      (EP ((cxOf CXg X.prog X.w X.K X.mg X.base Ng qg sg g cdg X.A X.stack s H Eg).tr pn xe) pinsZ σZ Q) xe sZ := by
  have name := (pe_var (X := (cxOf CXg X.prog X.w X.K X.mg X.base Ng qg sg g cdg X.A X.stack s H Eg).tr pn xe) (pos := p1) (i := i) hN hv hd hcd).run pinsZ sZ σZ HZ (fun v G => v = .ref f ∧ G = HZ) IZ ⟨.ref f, hs, rfl, rfl⟩
  refine wpAny_Call_Name_kw (thn name fun u s1 hu => ?_)
  obtain ⟨v, G, I1, rel, rfl, rfl⟩ := hu
  cases (show u = Value.ref f from rel)
  have objF : s1.heap.get? f = some (lamO X params body scope pm c' ctv) := I1.base.keep f _ hf hfn hfr (fun z => nomatch (show f ∈ ([] : List Addr) from z))
  obtain ⟨⟨oc, vs, t, hoc, hdc, hvc⟩, _, _⟩ := I1.hok c' _ hc
  have runs : codeAny (model X.prog X.w) (X.A.deeper (envOfC qg sg s.heap.objs.size g cdg)) (.call (.ref f) ⟨[], []⟩) (CR (L2.CX X.prog X.w) (envOfC qg sg s.heap.objs.size g cdg :: X.stack) X.prog X.w G s1 Q E) s1 := by
    refine PySem.W.kla_callFunE hr.depth objF rfl L.co L.gen rfl ⟨c', oc, vs, t, rfl, hoc, hdc, hvc⟩ ?_
    rw [hbind]
    refine wpAny_pure (wpAny_newFunctionEnv (fun y hy => (L.own y hy).2) (fun y hy => absurd hy (by simp)) (fun h₁ ns bt => ⟨I1.nolimit.fresh _ bt, ?_⟩) L.kind)
    have old : ∀ b o, s1.heap.get? b = some o → h₁.get? b = some o := fun b o e => bt.extBut b o (Nat.ne_of_lt (Heap.lt_size e)) (Heap.get?_push_of_some _ e)
    have J := lam_start2 (E := E) (f := f) (c' := c') (tk := s1.toks + ([] : List (Str × Value)).length) I L I1.env0 hr.hd (show Un (frs X.stack) [] H G s.heap s1.heap from I1.base) ns old
    show codeAny _ _ (.expr body (lamEnv X scope s1.heap.objs.size f c')) _ _
    refine PySem.W.kla_codeExpr (wpAny_mono ((hbody _ _ s1 G (hr.deeper _)).run [] _ _ G Q J ht) (fun v s' got => ?_) fun e s' got => got)
    obtain ⟨w', H', J', rv, q⟩ := got
    exact ⟨w', H', J'.os, J'.bare, J'.base, J'.hok, rv, q⟩
  refine PySem.W.callWith_F0 ⟨_, _, _, _, objF⟩ (wpAny_call (codeAny_mono runs fun r s' got => ?_))
  match r, got with
  | .error e, got => exact hx pinsZ G s1 e s' I1 got
  | .ok (.ret u), got => exact I1.after got
/-! ### over plain data -/
abbrev DLm := Mem → DQ → (Value → Mem → Prop) → Prop
/-- what a def makes of the lambda that it gets; it lets no error out -/
abbrev DSpL := DLm → Mem → DQ → Prop
def dAct (f : Addr) (dl : DLm) (we : DWX) : DTE := fun ρ m q => ρ[0]? = some (some (.ref f)) ∧ dl m q fun cls m' => we cls ρ m'
def dLam (sp : DSpL) (P : Addr) (nm : Str) (tb : DWX → DTE) : DTE := fun ρ m q => m P = some (.tbl nm) ∧ sp (fun m' k ke => tb (fun cls _ m2 => ke cls m2) ρ m' k) m q
abbrev ZX (X : Cx) (Ng : List Str) (x : Str) (sg : Scope) (g : Addr) (cdg : Value) (s : Shared) (H : Hp) : Cx := cxOf C8.CX0 X.prog X.w X.K X.mg X.base Ng x sg g cdg X.A X.stack s H C8.E0
/-- the promise of a def that gets a lambda -/
def GivesD (X : Cx) (k : Nat) (Ng : List Str) (x : Str) (sg : Scope) (g : Addr) (cdg : Value) (bg : List Stmt) (a : Str) (sp : DSpL) : Prop :=
  ∀ (f : Addr) (s : Shared) (H : Hp) (dl : DLm) (m : Mem) (q : DQ), Room k (ZX X Ng x sg g cdg s H).A →
    (∀ (B' : Bs) (we : DWX) (pn : List (Addr × Obj)) (xe : Value → Shared → Prop) (p1 p2 : Pos), Step H m B'.H B'.m → Takes ((ZX X Ng x sg g cdg s H).tr pn xe) (upW X.K B' we) → DE B' ((ZX X Ng x sg g cdg s H).tr pn xe) (.Call (.Name a p1) [] [] p2) (dAct f dl we)) →
    sp dl m q → ∃ t : DTS, DSs ⟨H, m⟩ (ZX X Ng x sg g cdg s H).nox bg t ∧ t (defEnds q) (startD Ng [.ref f]) m
theorem de_lam {X : Cx} {B : Bs} {x a : Str} {g c P : Addr} {k : Nat} {pg : Arguments} {bg : List Stmt} {sg : Scope} {dV kV doc pm cdv ct oc : Value} {an od : Option Addr} {osl : Array (Option Value)} {Ng : List Str} {sp : DSpL}
    {params : Arguments} {body : Expr} {scope : Scope} {tb : DWX → DTE} {p lpos pos : Pos} (hg : Gl X x) (hm : X.mg x = some (.ref g)) (hk : PySem.W.keepIn X.K (.ref g) = true)
    (lk : X.K.lookup g = some ⟨oc, od, .func (PySem.W.fnOf x x pg bg sg dV kV doc pm an cdv ct), osl⟩) (hcg : PySem.W.codeIn X.K cdv x = true) (hb : L2.Binds X.K (PySem.W.fnOf x x pg bg sg dV kV doc pm an cdv ct) [a] []) (Sg : FnScope Ng [a] sg) (hNg : Ng[0]? = some a) (hva : Vis sg a)
    (hG : GivesD X (k + 1) Ng x sg g cdv bg a sp) (TB : TabB X.base X.mg c P) (hcode : X.env.code = .ref c) (hr : Room (k + 2) X.A) (L : LamS X.env.scope scope) (hdef : defaultsOf params X.env = ([], []))
    (hbind : ∀ (q : Str) (cl : List (Str × Addr)) (pm cv ctv : Value), bindArgs (PySem.W.kla_fn "<lambda>" q params body scope cl pm cv ctv) ⟨[], []⟩ = pure [])
    (hbody : ∀ (A : Around) (outer : List Env) (s : Shared) (H : Hp) (E : XK) (f c' : Addr) (B' : Bs) (ke : Value → Mem → Prop), Room k (A.deeper (lamEnv X scope s.heap.objs.size f c')) → Takes (lamCx X A outer s H E scope f c') (upW X.K B' fun cls _ m => ke cls m) → DE B' (lamCx X A outer s H E scope f c') body (tb fun cls _ m => ke cls m))
    (hdb : (x == ("__debug__" : Str)) = false := by decide) (hd : (a == ("__debug__" : Str)) = false := by decide) (hcd : (a == ("__classdict__" : Str)) = false := by decide) :
    DE B X (.Call (.Name x p) [.Lambda params body scope lpos] [] pos) (dLam sp P (lamN X) tb) := by
  refine ⟨fun pins s σ H Q I ⟨ρ, m, q, pre, ⟨hP, hsp⟩, post⟩ => ?_⟩
  refine wpAny_Call_Name_kw (ld_glob I hg hm ?_ hdb)
  refine PySem.W.callWith_K (h₀ := X.base) I.ok.mod.kin hk ?_ (by rfl) (by rfl)
  show wpAny _ _ (spliced ((false, eval (.Lambda params body scope lpos) X.env) :: backTo pos (starEach [] X.env))) _ _ s
  refine Calls.spliced_cons (lam_make3 I TB hcode (pre.sim P _ hP) hdef (L.has I.ok) fun f c' pm' ctv H1 s' I1 made tab objF nf nfr codeC => Calls.spliced_nil ⟨I1.kIn, ?_⟩)
  obtain ⟨sim1, st1⟩ := made.sim pre.sim hP tab
  have runs : codeAny (model X.prog X.w) X.A (.call (.ref g) ⟨[.ref f], []⟩) (CR C8.CX0 X.stack X.prog X.w H1 s' Q C8.E0) s' := by
    refine run_ofS (N := Ng) (ps := [a]) (us := [.ref f]) (vs := [.ref f]) lk hcg Sg hr I1.env0 (hb s' [.ref f] I1.kIn rfl) (.cons rfl .nil) rfl fun hr' => ?_
    have act : ∀ (B' : Bs) (we : DWX) (pn : List (Addr × Obj)) (xe : Value → Shared → Prop) (p1 p2 : Pos), Step H1 m B'.H B'.m → Takes ((ZX X Ng x sg g cdv s' H1).tr pn xe) (upW X.K B' we) →
        DE B' ((ZX X Ng x sg g cdv s' H1).tr pn xe) (.Call (.Name a p1) [] [] p2) (dAct f (fun m' k ke => tb (fun cls _ m2 => ke cls m2) ρ m' k) we) := fun B' we pn xe p1 p2 stB tk => by
      refine ⟨fun pinsZ sZ σZ HZ QZ IZ ⟨ρZ, mZ, qZ, pZ, ⟨h0, hdl⟩, postZ⟩ => ?_⟩
      have far : Step H m HZ mZ := st1.trans (stB.trans pZ.st)
      obtain ⟨v0, e0, r0⟩ := pZ.env.get h0
      cases r0
      refine act3 (k := k) (i := 0) (E := WE (upW X.K B' we) σZ) (tb := fun σ' H' Q' => ∃ B2, upE X.K B2 (tb fun cls _ m2 => we cls ρZ m2) σ' H' Q' ∧ B2 = ⟨HZ, mZ⟩) I1 L objF nf nfr (hbind _ _ _ _ _) hr' (fun A outer s2 H2 room => ?_) hNg hva hd hcd IZ (passAt tk σZ) e0 ((stB.ext.trans pZ.st.ext).cod c' _ codeC) ⟨_, ⟨ρ, mZ, qZ, ⟨pre.env.mono far.ext, pZ.sim, Step.refl _ _⟩, hdl, postZ⟩, rfl⟩
      refine ⟨fun pins2 s3 σ2 H3 Q2 I2 ⟨B2, h2, e2⟩ => ?_⟩
      subst e2
      refine (hbody A outer s2 H2 _ f c' ⟨HZ, mZ⟩ (fun cls m2 => we cls ρZ m2) room ((takes_of rfl rfl rfl rfl).imp fun cls d σ' H' ⟨e, ρ', m', p', w'⟩ => ?_)).run pins2 s3 σ2 H3 Q2 I2 h2
      exact ⟨e, ρZ, m', ⟨pZ.env.mono p'.st.ext, p'.sim, pZ.st.trans p'.st⟩, w'⟩
    obtain ⟨t, ht, hq⟩ := hG f s' H1 _ m q hr' act hsp
    refine ⟨upS X.K ⟨H1, m⟩ t, PSs.nox ht, startD Ng [.ref f], m, defEnds q, ⟨start_ok (.cons (.ref f) .nil), sim1, Step.refl _ _⟩, hq, ?_⟩
    have done : ∀ d m' v H', (∃ m2 : Mem, m2.le m' ∧ q d m2) → Rep X.K H' d v → Sim X.K H' m' → Step H1 m H' m' → Q v H' := fun d m' v H' ⟨m2, le, h2⟩ rd s2 st => post d m2 v H' h2 rd (s2.forget le) (st1.trans (st.forget le))
    exact ⟨fun ρ' m' σ' H' h2 _ s2 st => done .non m' .non H' h2 .non s2 st, fun d m' v H' h2 rd s2 st => done d m' v H' h2 rd s2 st, fun _ _ _ _ z => z.elim, fun _ _ _ _ z => z.elim⟩
  refine wpAny_call (codeAny_mono runs fun r s2 got => ?_)
  match r, got with
  | .error e, got => exact (show False from got).elim
  | .ok (.ret u), got => exact I1.after got
end L2.Lh

/-! try over plain data, the body knowing where the def stands -/
namespace L2.Lh
open PySem PySem.Spec PyProof.Rows LamX
section
variable {X : Cx} {B : Bs}
theorem ds_tryKS {x n : Str} {c : Value} {i : Nat} {body suite : List Stmt} {b₀ : Stmt} {np pos pos' : Pos} {tb : DWX → DTS} {ts : DTS} {we : DWX} {xt : CT}
    (hex : X.ex = []) (hs : X.stack = X.env :: X.outer) (hf : X.env.frame = some X.env.locals) (nodup : X.N.Nodup) (xo : ExOk X.K xt) (tk : Takes X (upW X.K B we))
    (hBody : ∀ (B' : Bs) (we' : DWX) (pn : List (Addr × Obj)) (xe : Value → Shared → Prop), Step B.H B.m B'.H B'.m → Takes (X.tr pn xe) (upW X.K B' we') → PassesOwn (model X.prog X.w) X.A X.env xe → DSs B' (X.tr pn xe) body (tb we'))
    (hSuite : ∀ (B' : Bs) (a : Addr) (pn : List (Addr × Obj)), DSs B' (X.suite a pn) (b₀ :: suite) ts)
    (hc : Names X x c) (hi : X.N[i]? = some n := by rfl) (hkind : X.env.kindOf n = some .local := by rfl) :
    DS B X (.Try body [.ExceptHandler (some (.Name x np)) (some n) (b₀ :: suite) pos'] [] [] pos) (dTryK tb xt c i ts we) := by
  refine ps_imp (ps_tryK (tb := fun W F σ H => ∃ ρ m E we', Step B.H B.m H m ∧ Pre X.K ⟨H, m⟩ ρ m σ H ∧ (∀ cls d σ' H', upW X.K ⟨H, m⟩ we' cls d σ' H' → W cls d σ' H') ∧ tb we' E ρ m ∧ EndsOk X.K H m E F)
    (ts := fun _ _ _ F σ H => ∃ B', upS X.K B' ts F σ H) hex hs hf nodup hi hkind hc tk ?_ ?_) ?_
  · intro W pn xe tk' po'
    refine ⟨fun pins s σ H F I ⟨ρ, m, E, we', stB, p, hw, ht, eo⟩ => ?_⟩
    exact (hBody ⟨H, m⟩ we' pn xe stB (tk'.imp fun cls d σ' H' z => hw cls d σ' H' z) po').run pins s σ H F I ⟨ρ, m, E, p, ht, eo⟩
  · intro a oe cls d pn hz hd
    exact ⟨fun pins s σ H F I ⟨B', h⟩ => (hSuite B' a _).run pins s σ H F I h⟩
  · rintro F σ H ⟨ρ, m, E, p, h, eo⟩
    refine ⟨ρ, m, E, _, p.st, ⟨p.env, p.sim, Step.refl _ _⟩, ?_, h, eo⟩
    rintro cls d σ' H' ⟨dn, ρ1, m1, p1, b, hb, hyes, hno⟩
    refine ⟨b, xo _ hb, fun e => ⟨dn, fun a ha => ?_⟩, fun e => ⟨dn, ρ1, m1, ⟨p1.env, p1.sim, p.st.trans p1.st⟩, hno e⟩⟩
    have hm : m1 a = none := p1.sim.free ha
    refine ⟨⟨H', m1⟩, ρ1.set i (some (.ref a)), m1, _, ⟨p1.env.set (.ref a) i, p1.sim, Step.refl _ _⟩, hyes e a hm, ?_, ?_, ?_, ?_⟩
    · intro ρ2 m2 σ2 H2 q2 env2 sim2 st2 g2
      refine eo.nx _ _ _ _ q2 ((env2.mono (upd_new g2)).setNone i) (sim2.allocM g2 upd_same) (p1.st.trans (st2.trans (Step.allocM g2)))
    · intro _ _ _ _ z; exact z.elim
    · intro _ _ _ _ z; exact z.elim
    · intro _ _ _ _ z; exact z.elim
/-- except X: without a name -/
def dTryO (tb : DWX → DTS) (xt : CT) (c : Value) (ts : DTS) (we : DWX) : DTS := fun E ρ m =>
  tb (fun cls ρ1 m1 => ∃ b, (cls, c, b) ∈ xt ∧ (b = true → ts E ρ1 m1) ∧ (b = false → we cls ρ1 m1)) E ρ m
theorem ds_tryO {x : Str} {c : Value} {body suite : List Stmt} {b₀ : Stmt} {np pos pos' : Pos} {tb : DWX → DTS} {ts : DTS} {we : DWX} {xt : CT}
    (hs : X.stack = X.env :: X.outer) (hf : X.env.frame = some X.env.locals) (xo : ExOk X.K xt) (tk : Takes X (upW X.K B we))
    (hBody : ∀ (B' : Bs) (we' : DWX) (pn : List (Addr × Obj)) (xe : Value → Shared → Prop), Step B.H B.m B'.H B'.m → Takes (X.tr pn xe) (upW X.K B' we') → PassesOwn (model X.prog X.w) X.A X.env xe → DSs B' (X.tr pn xe) body (tb we'))
    (hSuite : ∀ (B' : Bs) (a : Addr) (pn : List (Addr × Obj)), DSs B' (X.suite a pn) (b₀ :: suite) ts) (hc : Names X x c) :
    DS B X (.Try body [.ExceptHandler (some (.Name x np)) none (b₀ :: suite) pos'] [] [] pos) (dTryO tb xt c ts we) := by
  refine ps_imp (ps_try_only (tb := fun W F σ H => ∃ ρ m E we', Step B.H B.m H m ∧ Pre X.K ⟨H, m⟩ ρ m σ H ∧ (∀ cls d σ' H', upW X.K ⟨H, m⟩ we' cls d σ' H' → W cls d σ' H') ∧ tb we' E ρ m ∧ EndsOk X.K H m E F)
    (ts := fun _ _ _ F σ H => ∃ B', upS X.K B' ts F σ H) hs hf hc tk ?_ ?_) ?_
  · intro W pn xe tk' po'
    refine ⟨fun pins s σ H F I ⟨ρ, m, E, we', stB, p, hw, ht, eo⟩ => ?_⟩
    exact (hBody ⟨H, m⟩ we' pn xe stB (tk'.imp fun cls d σ' H' z => hw cls d σ' H' z) po').run pins s σ H F I ⟨ρ, m, E, p, ht, eo⟩
  · intro a oe cls d pn hz hd
    exact ⟨fun pins s σ H F I ⟨B', h⟩ => (hSuite B' a _).run pins s σ H F I h⟩
  · rintro F σ H ⟨ρ, m, E, p, h, eo⟩
    refine ⟨ρ, m, E, _, p.st, ⟨p.env, p.sim, Step.refl _ _⟩, ?_, h, eo⟩
    rintro cls d σ' H' ⟨dn, ρ1, m1, p1, b, hb, hyes, hno⟩
    exact ⟨b, xo _ hb, fun e a ha => ⟨⟨H', m1⟩, ρ1, m1, E, ⟨p1.env, p1.sim, Step.refl _ _⟩, hyes e, eo.next p1.st⟩, fun e => ⟨dn, ρ1, m1, ⟨p1.env, p1.sim, p.st.trans p1.st⟩, hno e⟩⟩
/-- within a def that gets a lambda nothing is let out -/
theorem takes0D {we : DWX} (h : ∀ cls ρ m, ¬ we cls ρ m) : Takes X (upW X.K B we) := takes0.imp fun cls d σ H ⟨_, ρ, m, _, w⟩ => (h cls ρ m w).elim
end
end L2.Lh

/-! the end of a law that makes lambdas: the tables of code objects stand in the memory -/
namespace L2.Lh
open PySem PySem.Spec PyProof.Rows LamX
/-- code object, table, the lambdas' name -/
abbrev Tb := Addr × Addr × Str
def spLawT (n : Nat) (T : List Tb) : DSp := sp1 fun d m q qe => ∃ ns : List Int, d = .rol (ns.map D.int) ∧ ns.length ≤ n ∧ (∀ t ∈ T, m t.2.1 = some (.tbl t.2.2)) ∧ ∀ m, q (.bl true) m
def tabM (T : List Tb) : Mem := fun b => (T.find? fun t => t.2.1 == b).map fun t => .tbl t.2.2
theorem tabM_at {T : List Tb} (nd : (T.map (·.2.1)).Nodup) : ∀ t ∈ T, tabM T t.2.1 = some (.tbl t.2.2) := by
  induction T with
  | nil => intro t h; cases h
  | cons u T ih =>
    intro t h
    rw [List.map_cons, List.nodup_cons] at nd
    unfold tabM
    rw [List.find?_cons]
    by_cases e : u.2.1 = t.2.1
    · rw [show (u.2.1 == t.2.1) = true by simp [e]]
      rcases List.mem_cons.mp h with rfl | h
      · rfl
      · exact absurd (List.mem_map.mpr ⟨t, h, e.symm⟩) nd.1
    · rw [show (u.2.1 == t.2.1) = false by simp [e]]
      rcases List.mem_cons.mp h with rfl | h
      · exact absurd rfl e
      · exact ih nd.2 t h
theorem tabM_of {T : List Tb} {b : Addr} {o : MO} (h : tabM T b = some o) : ∃ t ∈ T, t.2.1 = b ∧ o = .tbl t.2.2 := by
  unfold tabM at h
  rw [Option.map_eq_some_iff] at h
  obtain ⟨t, h1, h2⟩ := h
  exact ⟨t, List.mem_of_find?_eq_some h1, by simpa using List.find?_some h1, h2.symm⟩
def emptyTab : Obj := { cls := .none, data := .fields #[] }
theorem lawGT {P : Program} {w : World} {K : PySem.W.Frag} {mg mb : Str → Option Value} {k n : Nat} {fa a : Addr} {fd : FuncData} {x : Str} {T : List Tb} {s₁ : Shared} {vs : List Value} {ns : List Int}
    (KX : K.In s₁.heap) (gN : s₁.heap.Ns mainGlobals mg) (bN : s₁.heap.Ns builtinsNs mb) (bB : ∀ x : Str, x ≠ "__name__" → mb x = bootBuiltins x) (lim : s₁.heap.NoLimit) (gens : s₁.gens = #[])
    (nd : (T.map (·.2.1)).Nodup) (empty : ∀ t ∈ T, s₁.heap.get? t.2.1 = some emptyTab) (notK : ∀ t ∈ T, K.lookup t.2.1 = none) (codes : ∀ t ∈ T, PySem.W.CodeHd s₁.heap t.1 t.2.1)
    (bmod : ∃ (bm : Addr) (ob : Obj), mg "__builtins__" = some (.ref bm) ∧ bm ≠ builtinsNs ∧ s₁.heap.get? bm = some ob ∧ ob.cls = .type "module" ∧ ob.dict = some builtinsNs ∧ ob.data = .plain)
    (scr : s₁.heap.get? a = some { cls := .type "list", data := .seq vs.toArray }) (hI : IntsAre vs ns) (hn : ns.length ≤ n) (hl : n ≤ sizeLine) (hr : Room k callerA)
    (F : ∀ base : Heap, K.In base → base.Ns mainGlobals mg → (∀ t ∈ T, TabB base mg t.1 t.2.1) → FnDG P w K mg base k fa fd [x] (spLawT n T)) (binds : ∀ (s : Shared) (u : Value), BindsTo s fd ⟨[u], []⟩ [(x, u)]) :
    codeAny (model P w) callerA (.call (.ref fa) ⟨[.ref a], []⟩) (fun r s' => r = .ok (.ret (.bool true)) ∧ OldK s₁.heap s'.heap ∧ s'.os = s₁.os ∧ AllBare s'.gens) s₁ := by
  obtain ⟨ob, hob⟩ : ∃ ob : Obj, ob = { cls := .type "list", data := .seq vs.toArray } := ⟨_, rfl⟩
  have aT : ∀ t ∈ T, t.2.1 ≠ a := fun t ht z => by
    have e := empty t ht
    rw [z, scr] at e
    have e2 : Data.seq vs.toArray _ = Data.fields #[] := congrArg Obj.data (Option.some.inj e)
    cases e2
  -- the abstract heap: the script, if it isn't of the kept part, and the tables
  obtain ⟨S, sK, sS, sH⟩ : ∃ S : Option HO, (∀ u, S = some u → K.lookup a = none) ∧ (∀ H : Hp, H a = S → Rep K H (.rol (ns.map D.int)) (.ref a)) ∧ (∀ u, S = some u → u = .frz ob (.lst (ns.map V.int))) := by
    by_cases hk : K.lookup a = none
    · exact ⟨some (.frz ob (.lst (ns.map V.int))), fun _ _ => hk, fun H e => .rol (.inl ⟨ob, e⟩) (Reps.ints ns), fun _ e => (Option.some.inj e).symm⟩
    · obtain ⟨o, ho⟩ := Option.ne_none_iff_exists'.mp hk
      have eo : o = { cls := .type "list", data := .seq vs.toArray } := Option.some.inj ((KX a o ho).symm.trans scr)
      subst eo
      exact ⟨none, (fun _ e => nomatch e), fun H _ => .rol (.inr ⟨_, vs.toArray, _, ho, rfl, rfl, rfl, by rw [List.size_toArray, hI.length]; omega, by simpa using vals_ints hI⟩) (Reps.ints ns), (fun _ e => nomatch e)⟩
  obtain ⟨H, Ha, Ht, Hn⟩ : ∃ H : Hp, H a = S ∧ (∀ t ∈ T, H t.2.1 = some (.tbl #[])) ∧ (∀ b u, H b = some u → (b = a ∧ S = some u) ∨ ((∃ t ∈ T, t.2.1 = b) ∧ u = .tbl #[])) := by
    refine ⟨fun b => if b = a then S else if b ∈ T.map (·.2.1) then some (.tbl #[]) else none, if_pos rfl, fun t ht => ?_, fun b u h => ?_⟩
    · show (if t.2.1 = a then _ else _) = _
      rw [if_neg (aT t ht), if_pos (List.mem_map.mpr ⟨t, ht, rfl⟩)]
    · have h : (if b = a then S else if b ∈ T.map (·.2.1) then some (HO.tbl #[]) else none) = some u := h
      by_cases e : b = a
      · rw [if_pos e] at h; exact .inl ⟨e, h⟩
      · rw [if_neg e] at h
        by_cases e2 : b ∈ T.map (·.2.1)
        · rw [if_pos e2] at h
          obtain ⟨t, ht, et⟩ := List.mem_map.mp e2
          exact .inr ⟨⟨t, ht, et⟩, (Option.some.inj h).symm⟩
        · rw [if_neg e2] at h; cases h
  have hok : HOk P w H s₁.heap := fun b u h => by
    rcases Hn b u h with ⟨e1, e2⟩ | ⟨⟨t, ht, e1⟩, e2⟩
    · have := sH u e2
      subst this e1
      rw [hob]
      exact ⟨scr, by rw [List.length_map]; omega, vs, _, vals_ints hI, scr⟩
    · subst e1 e2
      exact empty t ht
  have free : ∀ {b : Addr} {o : Obj}, s₁.heap.get? b = some o → (K.lookup b = some o ∨ ((∀ xs c, o.data ≠ .seq xs c) ∧ o.data ≠ .fields #[])) → H b = none := fun {b o} e d => by
    cases q : H b with
    | none => rfl
    | some u =>
      rcases Hn b u q with ⟨e1, e2⟩ | ⟨⟨t, ht, e1⟩, e2⟩
      · subst e1
        rcases d with d | d
        · rw [sK u e2] at d; cases d
        · rw [scr] at e; cases e; exact (d.1 _ _ rfl).elim
      · subst e1
        rcases d with d | d
        · rw [notK t ht] at d; cases d
        · rw [empty t ht] at e; cases e; exact (d.2 rfl).elim
  have base : ∀ {b : Addr} {o : Obj}, s₁.heap.get? b = some o → (K.lookup b = some o ∨ ((∀ xs c, o.data ≠ .seq xs c) ∧ o.data ≠ .fields #[])) → (hidT s₁.heap H).get? b = some o := fun e d => hidT_get e (free e d)
  have ns' : ∀ {b : Addr} {m : Str → Option Value}, s₁.heap.Ns b m → (hidT s₁.heap H).Ns b m := fun {b m} ⟨o, es, ep, e, d, r⟩ =>
    ⟨o, es, ep, base e (.inr ⟨fun xs c z => (by rw [d] at z; cases z), fun z => (by rw [d] at z; cases z)⟩), d, r⟩
  have kIn : K.In (hidT s₁.heap H) := fun b o e => base (KX b o e) (.inl e)
  have tabs : ∀ t ∈ T, TabB (hidT s₁.heap H) mg t.1 t.2.1 := fun t ht => by
    constructor
    · obtain ⟨o, us, file, tf, flags, tg, inF, text, tt, e1, r⟩ := codes t ht
      have r2 := r.2.1
      have r3 := r.2.2.1
      refine ⟨o, us, file, tf, flags, tg, inF, text, tt, base e1 (.inr ⟨fun xs c z => ?_, fun z => ?_⟩), r⟩
      · rw [r2] at z; cases z
      · rw [r2] at z; cases z; simp at r3
    · obtain ⟨bm, o, b1, b2, b3, b4, b5, b6⟩ := bmod
      refine ⟨bm, o, b1, b2, fun z => ?_, fun z => ?_, base b3 (.inr ⟨fun xs c z => ?_, fun z => ?_⟩), b4, b5, b6⟩
      · obtain ⟨o2, es, ep, e, hd, _⟩ := gN
        rw [z, e] at b3; cases b3; rw [hd] at b6; cases b6
      · rw [z, empty t ht] at b3; cases b3; cases b6
      · rw [b6] at z; cases z
      · rw [b6] at z; cases z
    · intro z
      obtain ⟨o, es, ep, e, hd, _⟩ := gN
      rw [z, empty t ht] at e; cases e; cases hd
  obtain ⟨mc, l1, l2⟩ := lim
  have e0 : Env0 P w K mg (hidT s₁.heap H) callerA [] s₁ H := { frames := rfl, mod := ⟨kIn, ns' gN, ⟨mb, ns' bN, bB⟩, ⟨mc, ns' l1, l2⟩⟩, bs := fun b o e => of_hidT e, bsz := Nat.le_of_eq (hidT_size _ _), funs := trivial, frf := (fun _ z => nomatch z), hok := hok, bare := .of_eq gens }
  have sim : Sim K H (tabM T) := fun b o h => by
    obtain ⟨t, ht, rfl, rfl⟩ := tabM_of h
    exact TabS.nil (Ht t ht)
  have rep : Rep K H (.rol (ns.map D.int)) (.ref a) := sS H Ha
  refine codeAny_mono ((F _ kIn (ns' gN) tabs).run callerA [] s₁ H ⟨[.ref a], []⟩ [.ref a] [.ref a] (fun v _ => v = .bl true) (fun _ _ _ => False) rfl hr e0 (binds s₁ (.ref a)) (.cons rfl .nil)
    ⟨[.rol (ns.map D.int)], tabM T, fun d _ => d = .bl true, fun _ _ => False, .cons rep .nil, sim, ⟨ns, rfl, hn, tabM_at nd, fun _ => rfl⟩, fun d m v H' hd r _ _ => by subst hd; cases r; rfl, fun _ _ _ z _ _ => z.elim⟩) fun r s' h => ?_
  match r, h with
  | .error e, h => exact (law_cx h).elim
  | .ok .next, h => exact False.elim h
  | .ok .brk, h => exact False.elim h
  | .ok .cont, h => exact False.elim h
  | .ok (.ret u), ⟨v, H', os, bare, un, hok', r', q⟩ =>
    have q' : v = .bl true := q
    subst q'
    have eu : u = Value.bool true := r'
    subst eu
    have kept : ∀ b o, (∀ t ∈ T, t.2.1 ≠ b) → s₁.heap.get? b = some o → s'.heap.get? b = some o := fun b o nb e => by
      cases z : H b with
      | none => exact un.keep b o e z (fun y => nomatch y) (fun y => nomatch y)
      | some u =>
        rcases Hn b u z with ⟨e1, e2⟩ | ⟨⟨t, ht, e1⟩, _⟩
        · have hu := sH u e2
          subst hu
          have f1 := (hok b _ z).1
          have f2 := (hok' b _ (un.frzs b _ _ z)).1
          rw [e] at f1; cases f1
          exact f2
        · exact (nb t ht e1).elim
    have grown : ∀ t ∈ T, ∃ more : Array Value, s'.heap.get? t.2.1 = some { cls := .none, data := .fields more } := fun t ht => by
      obtain ⟨more, z⟩ := un.tbls t.2.1 #[] (Ht t ht)
      exact ⟨_, hok' t.2.1 _ z⟩
    refine ⟨rfl, ⟨fun b o e => ?_, fun b o e => ?_⟩, os, bare⟩
    · by_cases hb : ∃ t ∈ T, t.2.1 = b
      · obtain ⟨t, ht, rfl⟩ := hb
        obtain ⟨more, hm⟩ := grown t ht
        have eo := (empty t ht).symm.trans e
        cases eo
        exact .inr (.inl ⟨((codes t ht).tab (empty t ht)).isCodeTable, rfl, #[], more, rfl, by rw [Array.empty_append]; exact hm⟩)
      · exact .inl (kept b o (fun t ht z => hb ⟨t, ht, z⟩) e)
    · by_cases hb : ∃ t ∈ T, t.2.1 = b
      · obtain ⟨t, ht, rfl⟩ := hb
        obtain ⟨more, hm⟩ := grown t ht
        exact ⟨_, hm⟩
      · exact ⟨o, kept b o (fun t ht z => hb ⟨t, ht, z⟩) e⟩
/-- the table of a def's code object is empty at the head -/
def OwnT (K : PySem.W.Frag) (mg : Str → Option Value) (h : Heap) (nm : Str) : Prop := ∀ (f c P : Addr) (o : Obj) (fd : FuncData) (e : Value) (dd : Option Addr) (vs : Array Value) (sl : Array (Option Value)),
  mg nm = some (.ref f) → K.lookup f = some o → o.data = .func fd → fd.code = .ref c → K.lookup c = some ⟨e, dd, .fields vs, sl⟩ → vs[11]? = some (.ref P) → h.get? P = some emptyTab ∧ PySem.W.CodeHd h c P
theorem walkGT {l : PySem.W.OpenLaw} {n k : Nat} {q : Program} {loose : List Str} {XP : (Str → Option Value) → Heap → Prop} {YP : World → Heap → Prop} {d : DefRec} {K : Params → PySem.W.Frag} {x : Str} (names : List Str)
    (hn : l.most = some n) (hn2 : n ≤ sizeLine) (hdf : d.params.defaults = []) (hr : Room k callerA) (hrec : (names.all fun nm => (recsOf q).any fun e => e.name == nm) = true) (hY : ∀ (w : World) (h : Heap), YP w h → (K w.params).In h)
    (F : ∀ (w : World) (mg : Str → Option Value) (fa : Addr) (h : Heap), (K w.params).In h → h.Ns mainGlobals mg → mg d.name = some (.ref fa) → (∀ nm ∈ names, OwnT (K w.params) mg h nm) →
      ∃ (fd : FuncData) (T : List Tb), (T.map (·.2.1)).Nodup ∧ (∀ t ∈ T, h.get? t.2.1 = some emptyTab) ∧ (∀ t ∈ T, (K w.params).lookup t.2.1 = none) ∧ (∀ t ∈ T, PySem.W.CodeHd h t.1 t.2.1) ∧ (∀ (s : Shared) (u : Value), BindsTo s fd ⟨[u], []⟩ [(x, u)]) ∧
        ∀ base : Heap, (K w.params).In base → base.Ns mainGlobals mg → (∀ t ∈ T, TabB base mg t.1 t.2.1) → FnDG l.prog w (K w.params) mg base k fa fd [x] (spLawT n T)) :
    PySem.W.WalkO q loose XP YP l.row.toRowW d [] (fun f vs => PySem.call f vs) :=
  Att.attach_call hn hdf fun w s₀ s₁ mg mb fa o pm cd doc a vs ns G Y ho hd hcd hmg hobj hI hlen hg => by
    have KX := hY w _ Y
    have own : ∀ nm ∈ names, OwnT (K w.params) mg s₁.heap nm := fun nm hnm f c P o1 fd1 e dd vs1 sl k0 k1 k2 k3 k4 k5 => by
      obtain ⟨dL, hm, hn1⟩ := List.any_eq_true.mp (List.all_eq_true.mp hrec nm hnm)
      obtain ⟨a', o', fd', c', P', h1, h2, h3, h4, h5, h6⟩ := G.T.tab dL hm
      rw [beq_iff_eq.mp hn1, k0] at h1
      cases h1
      have g1 := (KX _ _ k1).symm.trans h2
      cases g1
      cases k2.symm.trans h3
      cases k3.symm.trans h4
      obtain ⟨⟨oc, vc, e1, e2, e3, e4⟩, hP⟩ := id h6
      have g2 := (KX _ _ k4).symm.trans e1
      cases g2
      cases e3
      cases k5.symm.trans e4
      exact ⟨hP, PySem.W.CodeHd.of h5 h6⟩
    obtain ⟨fd, T, nd, hT, nT, C, hb, hF⟩ := F w mg fa _ KX G.T.g hmg own
    exact lawGT KX G.T.g G.T.b G.T.builtins G.T.nolimit hg nd hT nT C G.T.bmain hobj hI hlen hn2 hr hF hb
/-- a def that needs no word about repr -/
theorem FnDG.of {P : Program} {w : World} {K : PySem.W.Frag} {mg : Str → Option Value} {base : Heap} {k : Nat} {f : Addr} {fd : FuncData} {ps : List Str} {sp : DSp} (F : FnD P w K mg base k f fd ps sp) : FnDG P w K mg base k f fd ps sp :=
  ⟨F.len, fun A outer s H args us vs Q E _ hr e0 hb r h => F.run A outer s H args us vs Q E hr e0 hb r h⟩
end L2.Lh

/-! defs that make lambdas -/
namespace L2.Lh
open PySem PySem.Spec PyProof.Rows LamX
section
variable {P : Program} {w : World} {K : PySem.W.Frag} {mg : Str → Option Value} {base : Heap}
theorem fnG_bodyC {x qual : Str} {st : Stmt} {f : Addr} {fd : FuncData} {N ps : List Str} {k : Nat} {sp : Sp} (F : Fun K x qual st f fd) (S : FnScope N ps (defScope st)) (len : ∀ vs H Q E, sp vs H Q E → vs.length = ps.length)
    (body : ∀ (cdv : Value) (A : Around) (outer : List Env) (s : Shared) (H : Hp) (vs : List V) (Q : VK) (E : XK), fd.code = cdv → A.guards = some [] → Room k (A.deeper (envOfC qual (defScope st) s.heap.objs.size f cdv)) → sp vs H Q E →
      ∃ t, PSs (cxOf (L2.CX P w) P w K mg base N qual (defScope st) f cdv A outer s H E) (defBody st) t ∧ t { nx := fun _ H' => Q .non H', rt := Q } (start N vs) H) : FnG P w K mg base (k + 1) f fd ps sp := by
  obtain ⟨oc, od, kV, doc, pm, an, cdv, ct, osl, rfl, lk, hcd⟩ := F.ex
  have F' : Fun K x qual st f (PySem.W.fnOf x qual (defArgs st) (defBody st) (defScope st) .none kV doc pm an cdv ct) := F
  refine ⟨len, fun A outer s H args us vs Q E hgd hr e0 hb r hsp => ?_⟩
  have KX : K.In s.heap := e0.mod.kin.keeps fun b o e => (e0.bs b o e).1
  have lim : s.heap.NoLimit := e0.mod.nolimit.keeps fun b o e => (e0.bs b o e).1
  refine codeAny_call_function hr.depth (KX _ _ lk) rfl S.co S.gen rfl (PySem.W.codeRec_of KX hcd) (hb _ _ _ _ ?_)
  have kinds : ∀ y ∈ ps.zip us, (defScope st).names.lookup y.1 = some .local ∨ ((defScope st).names.lookup y.1 = some .cell ∧ ((cellsFrom (s.heap.objs.size + 1) (defScope st).names []).lookup y.1).isSome = true) := by
    intro y hy
    cases S.par y.1 (List.of_mem_zip hy).1 with
    | inl q => exact .inl q
    | inr q => exact .inr ⟨q, PySem.W.cellsFrom_some _ _ _ (.inl q)⟩
  refine wpAny_newFunctionEnv_cells S.kind kinds fun env he s1 inc => ?_
  cases he
  obtain ⟨t, ht, hq⟩ := body cdv A outer s H vs Q E rfl hgd (hr.deeper _) hsp
  have I := inv_start (CX := L2.CX P w) (E := E) (N := N) S hr.hd e0 (len _ _ _ _ hsp) r inc
  refine ⟨lim.keeps inc.toInCall.keep, codeAny_func (wpAny_mono (ht.run [] s1 (start N vs) H _ I hq) (fun fl s' hs => ?_) fun _ _ z => z)⟩
  match fl, hs with
  | .ret u, ⟨v, σ', H', J, rv, q⟩ => exact ⟨v, H', J.os, J.bare, J.base, J.hok, rv, q⟩
  | .next, ⟨σ', H', J, q⟩ => exact ⟨.non, H', J.os, J.bare, J.base, J.hok, rfl, q⟩
  | .brk, ⟨_, _, _, q⟩ => exact q.elim
  | .cont, ⟨_, _, _, q⟩ => exact q.elim
theorem fnDG_ofC {x qual : Str} {st : Stmt} {f : Addr} {fd : FuncData} {N ps : List Str} {k : Nat} {sp : DSp} (F : Fun K x qual st f fd) (S : FnScope N ps (defScope st)) (len : ∀ {ds m q qe}, sp ds m q qe → ds.length = ps.length)
    (body : ∀ (cdv : Value) (A : Around) (outer : List Env) (s : Shared) (H : Hp) (E : XK) (B : Bs) (qe : Value → Mem → Prop), fd.code = cdv →
      Room k (A.deeper (envOfC qual (defScope st) s.heap.objs.size f cdv)) → (cxOf (L2.CX P w) P w K mg base N qual (defScope st) f cdv A outer s H E).A.guards = some [] →
      Takes (cxOf (L2.CX P w) P w K mg base N qual (defScope st) f cdv A outer s H E) (upW K B fun cls _ m => qe cls m) →
      PassesOwn (model P w) (cxOf (L2.CX P w) P w K mg base N qual (defScope st) f cdv A outer s H E).A (cxOf (L2.CX P w) P w K mg base N qual (defScope st) f cdv A outer s H E).env (cxOf (L2.CX P w) P w K mg base N qual (defScope st) f cdv A outer s H E).xe →
      ∃ t, DSs B (cxOf (L2.CX P w) P w K mg base N qual (defScope st) f cdv A outer s H E) (defBody st) t ∧ ∀ ds m q, sp ds m q qe → t (defEnds q) (startD N ds) m) : FnDG P w K mg base (k + 1) f fd ps sp := by
  refine fnG_bodyC F S (fun vs H Q E h => ?_) (fun cdv A outer s H vs Q E hc hgd hr h => ?_)
  · obtain ⟨ds, m, q, qe, r, _, h, _⟩ := h
    rw [← r.length]
    exact len h
  · obtain ⟨ds, m, q, qe, r, sim, h, post, hE⟩ := h
    have tk : Takes (cxOf (L2.CX P w) P w K mg base N qual (defScope st) f cdv A outer s H E) (upW K ⟨H, m⟩ fun cls _ m => qe cls m) :=
      (takes_of (E := E) rfl rfl rfl rfl).imp fun cls d σ H' ⟨e, ρ, m', p, q'⟩ => by
        subst e
        exact hE cls m' H' q' p.sim p.st
    obtain ⟨t, ht, hq⟩ := body cdv A outer s H E ⟨H, m⟩ qe hc hr hgd tk (passes_of (K := fun e s'' => L2.CX P w outer H s E e s'') rfl)
    refine ⟨_, ht, startD N ds, m, defEnds q, ⟨start_ok r, sim, Step.refl _ _⟩, hq ds m q h, ?_⟩
    exact ⟨fun ρ' m' σ' H' ⟨m2, hle, hq⟩ env s2 st => post .non m2 .non H' hq .non (s2.forget hle) (st.forget hle), fun d m' v H' ⟨m2, hle, hq⟩ rd s2 st => post d m2 v H' hq rd (s2.forget hle) (st.forget hle),
      fun _ _ _ _ z => False.elim z, fun _ _ _ _ z => False.elim z⟩
end
theorem de_lamF {X : Cx} {B : Bs} {x a nm : Str} {g c T : Addr} {k : Nat} {st : Stmt} {fdg : FuncData} {Ng : List Str} {sp : DSpL} {params : Arguments} {body : Expr} {scope : Scope} {tb : DWX → DTE} {p lpos pos : Pos}
    (Fg : Fun X.K x x st g fdg) (hm : X.mg x = some (.ref g)) (Sg : FnScope Ng [a] (defScope st)) (hb : L2.Binds X.K fdg [a] []) (hG : ∀ cdv, GivesD X (k + 1) Ng x (defScope st) g cdv (defBody st) a sp)
    (TB : TabB X.base X.mg c T) (hcode : X.env.code = .ref c) (hr : Room (k + 2) X.A) (L : LamS X.env.scope scope)
    (hbody : ∀ (A : Around) (outer : List Env) (s : Shared) (H : Hp) (E : XK) (f c' : Addr) (B' : Bs) (ke : Value → Mem → Prop), Room k (A.deeper (lamEnv X scope s.heap.objs.size f c')) → Takes (lamCx X A outer s H E scope f c') (upW X.K B' fun cls _ m => ke cls m) → DE B' (lamCx X A outer s H E scope f c') body (tb fun cls _ m => ke cls m))
    (hg : Gl X x := by rfl) (hNg : Ng[0]? = some a := by rfl) (hva : Vis (defScope st) a := by first | exact .inl rfl | exact .inr (.inl rfl) | exact .inr (.inr rfl)) (hdef : defaultsOf params X.env = ([], []) := by rfl)
    (hbind : ∀ (q : Str) (cl : List (Str × Addr)) (pm cv ctv : Value), bindArgs (PySem.W.kla_fn "<lambda>" q params body scope cl pm cv ctv) ⟨[], []⟩ = pure [] := by intro _ _ _ _ _; rfl)
    (hnm : lamN X = nm := by rfl) (hdb : (x == ("__debug__" : Str)) = false := by decide) (hd : (a == ("__debug__" : Str)) = false := by decide) (hcd : (a == ("__classdict__" : Str)) = false := by decide) :
    DE B X (.Call (.Name x p) [.Lambda params body scope lpos] [] pos) (dLam sp T nm tb) := by
  subst hnm
  have kp := Fg.kp
  obtain ⟨oc, od, kV, doc, pm, an, cdv, ct, osl, rfl, lk, hcg⟩ := Fg.ex
  exact de_lam hg hm kp lk hcg hb Sg hNg hva (hG cdv) TB hcode hr L hdef hbind hbody hdb hd hcd
end L2.Lh
namespace L2.Lh
open PySem PySem.Spec PyProof.Rows
/-! ### sep.join(texts) -/
def strsOf : List D → Option (List Str)
  | [] => some []
  | .str b :: r => match strsOf r with
    | some bs => some (b :: bs)
    | none => none
  | _ => none
theorem strsOf_ok : ∀ {xs : List D} {ns : List Str}, strsOf xs = some ns → xs = ns.map D.str
  | [], ns, e => by cases e; rfl
  | d :: xs, ns, e => by
    cases d with
    | str b =>
      unfold strsOf at e
      split at e
      · rename_i bs q; cases e; rw [strsOf_ok q]; rfl
      · cases e
    | _ => cases e
def joinD (x y : D) (m : Mem) (q : DQ) : Prop := match x with
  | .str a => match itemsOf m y with
    | some xs => match strsOf xs with
      | some ys => (ys.map (·.length)).sum + ys.length * a.length ≤ 16777216 ∧ q (.str (Txt.join a ys)) m
      | none => False
    | none => False
  | _ => False
def dJoin (to te : DTE) : DTE := fun ρ m q => to ρ m fun x m1 => (∃ a, x = .str a) ∧ te ρ m1 fun y m2 => joinD x y m2 q
theorem de_join {X : Cx} {B : Bs} {o e : Expr} {to te : DTE} {apos pos : Pos} (ho : DE B X o to) (he : DE B X e te) (hs : starEach [e] X.env = [(false, eval e X.env)] := by rfl) (hbase : attributeBase o "join" X.env (eval o X.env) = eval o X.env := by rfl) (hline : (apos.endLine == pos.line) = true := by rfl) :
    DE B X (.Call (.Attribute o "join" apos) [e] [] pos) (dJoin to te) :=
  pe_imp (pe_join ho he hs hbase hline) fun σ H Q ⟨ρ, m, q, p, h, post⟩ => ⟨ρ, m, _, p, h, fun d m1 v H1 ⟨⟨a, ha⟩, h1⟩ r1 s1 t1 => by
    subst ha
    cases r1
    refine ⟨⟨a, rfl⟩, ρ, m1, _, p.next s1 t1, h1, fun y m2 vy H2 h2 r2 s2 t2 => ?_⟩
    unfold joinD at h2
    dsimp only at h2
    split at h2
    · rename_i xs ex
      split at h2
      · rename_i ys ey
        obtain ⟨b, vs, rfl, hsq, rvs⟩ := s2.seq r2 ex
        have e1 := strsOf_ok ey
        subst e1
        rw [Reps.ofStrs rvs] at hsq
        exact ⟨a, b, ys, rfl, rfl, hsq, h2.1, post _ m2 _ H2 h2.2 (.str _) s2 (t1.trans t2)⟩
      · exact h2.elim
    · exact h2.elim⟩
end L2.Lh
namespace L2.Lh
open PySem
/-- the name of a def's lambdas -/
def lamQ (q : Str) : Str := q ++ ".<locals>." ++ "<lambda>"
end L2.Lh
namespace L2.Lh
theorem all_cons {α : Type} {p : α → Prop} {a : α} {l : List α} (h : p a) (r : ∀ x ∈ l, p x) : ∀ x ∈ a :: l, p x := fun x hx => by
  cases hx with
  | head => exact h
  | tail _ hx => exact r x hx
end L2.Lh

/-! t * k for every small k -/
namespace L2
open PySem PySem.Spec PyProof.Rows
open AutoSeq1 (wpAny_loadPart')
/-- nothing to repeat, or once: the very object -/
theorem tup_once (l : Addr) (xs : Array Value) (n : Nat) (dd : Option Addr) (sl : Array (Option Value)) (k : Int) (u : Tok) (d0 : (decide (k < -(2 ^ 63)) || decide (k ≥ 2 ^ 63)) = false) (d1 : (xs.isEmpty || k == 1) = true) :
    Meets (Builtin.«tuple.__mul__» ⟨[.ref l, .int k u], []⟩) (fun _ R s => s.heap.get? l = some { cls := .type "tuple", dict := dd, data := .seq xs n, slots := sl } ∧ R (.ok (.ret (Value.ref l))) s) :=
  .of_wp fun prog w A R s h => by
    obtain ⟨hp, g, d, tk, os⟩ := s
    obtain ⟨hl, h⟩ := h
    have ix := AutoSeq1.idx_int
    wp_walk using wpAny_loadPart' hl
    repeat (first
      | (refine wpAny_ite_false (decide_eq_false (by rw [d0]; exact Bool.false_ne_true)) ?_; wp_walk using wpAny_loadPart' hl)
      | (refine wpAny_ite_true (decide_eq_true d1) ?_; wp_walk using wpAny_loadPart' hl))
    exact ⟨_, rfl, h⟩
/-- not at all: an empty one -/
theorem tup_never (l : Addr) (xs : Array Value) (n : Nat) (dd : Option Addr) (sl : Array (Option Value)) (k : Int) (u : Tok) (d0 : (decide (k < -(2 ^ 63)) || decide (k ≥ 2 ^ 63)) = false) (d1 : (xs.isEmpty || k == 1) = false) (d2 : (decide (k ≤ 0) || xs.isEmpty) = true) :
    Meets (Builtin.«tuple.__mul__» ⟨[.ref l, .int k u], []⟩) (fun _ R s => s.heap.get? l = some { cls := .type "tuple", dict := dd, data := .seq xs n, slots := sl } ∧
      R (.ok (.ret (Value.ref s.heap.objs.size))) { s with heap := s.heap.push { cls := Value.type "tuple", data := Data.seq #[] }, toks := s.toks }) :=
  .of_wp fun prog w A R s h => by
    obtain ⟨hp, g, d, tk, os⟩ := s
    obtain ⟨hl, h⟩ := h
    have ix := AutoSeq1.idx_int
    wp_walk using wpAny_loadPart' hl
    repeat (first
      | (refine wpAny_ite_false (decide_eq_false (by rw [d0]; exact Bool.false_ne_true)) ?_; wp_walk using wpAny_loadPart' hl)
      | (refine wpAny_ite_false (decide_eq_false (by rw [d1]; exact Bool.false_ne_true)) ?_; wp_walk using wpAny_loadPart' hl)
      | (refine wpAny_ite_true (decide_eq_true d2) ?_; wp_walk using wpAny_loadPart' hl))
    exact ⟨_, rfl, h⟩
end L2
namespace L2.Lh
open PySem PySem.Spec PyProof.Rows
section
variable {X : Cx}
def rRepA (K : PySem.W.Frag) : R2 := fun x y H Q => ∃ l k xs, x = .ref l ∧ y = .int k ∧ SqT K H l xs ∧ 0 ≤ k ∧ k ≤ 1000 ∧ xs.length ≤ 1000 ∧ (xs = [] ∨ k = 1 → Q (.ref l) H) ∧ (xs ≠ [] → k ≠ 1 → ∀ p, H p = none → Q (.ref p) (upd H p (.tup (List.replicate k.toNat xs).flatten)))
theorem op_repA : OpR X (binaryOp .Mult) (rRepA X.K) := by
  intro pins s σ H x y v u Q I rx ry h
  obtain ⟨l, k, xs, rfl, rfl, hT, k0, k1, hz, q1, q2⟩ := h
  by_cases big : xs ≠ [] ∧ 2 ≤ k
  · exact op_repT pins s σ H _ _ v u Q I rx ry ⟨l, k, xs, rfl, rfl, hT, big.1, big.2, k1, hz, q2 big.1 (by omega)⟩
  cases rx
  obtain ⟨t, rfl⟩ := ry
  obtain ⟨its, r, ⟨⟨cls, dd, data, sl⟩, ho, hc, n, hd⟩, hs⟩ := I.tuple hT
  simp only at hc hd
  subst hc hd
  have same : its.length = xs.length := r.length.symm
  have d0 : (decide (k < -(2 ^ 63)) || decide (k ≥ 2 ^ 63)) = false := by
    rw [decide_eq_false (by omega), decide_eq_false (by omega)] <;> rfl
  have empt : its.toArray.isEmpty = xs.isEmpty := by
    cases its with
    | nil => cases xs with | nil => rfl | cons _ _ => cases same
    | cons _ _ => cases xs with | nil => cases same | cons _ _ => rfl
  by_cases once : xs = [] ∨ k = 1
  · have d1 : (its.toArray.isEmpty || k == 1) = true := by
      rw [empt]
      rcases once with e | e
      · rw [e]; rfl
      · rw [e]; simp
    exact wpAny_binaryOp_repeat_ref (T := "tuple") (U := "int") (by decide) ⟨_, ho, rfl⟩ (fun s' => typeIs_int s' k t) noFill_tuple_mul F.fills_int_mul F.slot_int_rmul repeat_tuple F.slot_int_index.lookup
      (call_meets F.slot_int_rmul (typeIs_int s k t) F.entry_int_rmul (F.args_int_rmul_2 _ _) (int_rmul_tuple k t l its.toArray n dd sl)
        ⟨ho, rfl, ⟨_, ho, rfl⟩, call_meets F.slot_tuple_mul ⟨_, ho, rfl⟩ F.entry_tuple_mul (F.args_tuple_mul_2 _ _) (tup_once l its.toArray n dd sl k t d0 d1) ⟨ho, ⟨.ref l, H, I, rfl, q1 once⟩⟩⟩)
  · have ne : xs ≠ [] := fun e => once (.inl e)
    have kz : k = 0 := by
      have : ¬ 2 ≤ k := fun z => big ⟨ne, z⟩
      have : k ≠ 1 := fun z => once (.inr z)
      omega
    have xe : xs.isEmpty = false := by cases xs with | nil => exact absurd rfl ne | cons _ _ => rfl
    have d1 : (its.toArray.isEmpty || k == 1) = false := by rw [empt, xe, kz]; rfl
    have d2 : (decide (k ≤ 0) || its.toArray.isEmpty) = true := by rw [kz]; rfl
    refine wpAny_binaryOp_repeat_ref (T := "tuple") (U := "int") (by decide) ⟨_, ho, rfl⟩ (fun s' => typeIs_int s' k t) noFill_tuple_mul F.fills_int_mul F.slot_int_rmul repeat_tuple F.slot_int_index.lookup
      (call_meets F.slot_int_rmul (typeIs_int s k t) F.entry_int_rmul (F.args_int_rmul_2 _ _) (int_rmul_tuple k t l its.toArray n dd sl)
        ⟨ho, rfl, ⟨_, ho, rfl⟩, call_meets F.slot_tuple_mul ⟨_, ho, rfl⟩ F.entry_tuple_mul (F.args_tuple_mul_2 _ _) (tup_never l its.toArray n dd sl k t d0 d1 d2) ⟨ho, ?_⟩⟩)
    refine ⟨.ref s.heap.objs.size, _, I.laid (t' := s.toks) (o := .tup (List.replicate k.toNat xs).flatten) (fun b ob q => Heap.get?_push_of_some _ q) (Nat.le_refl _) ?_, rfl, q2 ne (fun z => once (.inr z)) _ (I.hok.fresh (Nat.le_refl _))⟩
    subst kz
    exact ⟨Nat.zero_le _, [], .nil, IsTup.new _ _⟩
def mulG : DR2 := fun x y m q => match x, y with
  | .tup xs, .int k => 0 ≤ k ∧ k ≤ 1000 ∧ xs.length ≤ 1000 ∧ q (.tup (List.replicate k.toNat xs).flatten) m
  | x, y => mulD x y m q
theorem mulG_t {xs : List D} {k : Int} {m : Mem} {q : DQ} : mulG (.tup xs) (.int k) m q = (0 ≤ k ∧ k ≤ 1000 ∧ xs.length ≤ 1000 ∧ q (.tup (List.replicate k.toNat xs).flatten) m) := rfl
theorem mulG_i {i j : Int} {m : Mem} {q : DQ} : mulG (.int i) (.int j) m q = (CMul i j ∧ q (.int (i * j)) m) := rfl
theorem d_mulG : OpD X (binaryOp .Mult) mulG := by
  intro pins s σ H x y v u Q I rx ry ⟨dx, dy, m, q, r1, r2, sim, h, post⟩
  unfold mulG at h
  split at h
  · rename_i xs k
    obtain ⟨k0, k1, hz, hq⟩ := h
    cases r2
    cases r1 with
    | tup hx rs =>
      refine op_repA pins s σ H _ _ v u Q I rx ry ⟨_, k, _, rfl, rfl, SqT.of hx, k0, k1, by rw [← rs.length]; exact hz, fun e => ?_, fun _ _ p hp => post.tup hq hp (rs.rep k.toNat) sim⟩
      have e2 : (List.replicate k.toNat xs).flatten = xs := by
        rcases e with e | e
        · have : xs = [] := List.eq_nil_of_length_eq_zero (by rw [rs.length, e]; rfl)
          rw [this]
          simp
        · rw [e]; simp
      rw [e2] at hq
      exact post.here hq (.tup hx rs) sim
  · exact d_mul pins s σ H x y v u Q I rx ry ⟨_, _, m, q, r1, r2, sim, h, post⟩
end
end L2.Lh

/-! a tuple display whose very object is known -/
namespace L2.Lh
open PySem PySem.Spec PyProof.Rows
def dTupF (t : DTA) : DTE := fun ρ m q => t ρ m fun ds m1 => ds.length ≤ sizeLine ∧ q (.ftup ds) m1
theorem de_tupF {X : Cx} {B : Bs} {es : List Expr} {t : DTA} {pos : Pos} {x1} (h : DA B X es t) : DE B X (.Tuple es x1 pos) (dTupF t) := by
  refine ⟨fun pins s σ H Q I ⟨ρ, m, q, p, hq, post⟩ => ?_⟩
  refine wpAny_Tuple_spliced (thn (h.run pos pins s σ H (fun xs G => xs.length ≤ sizeLine ∧ ∃ ds m1, Reps X.K G ds xs ∧ Sim X.K G m1 ∧ Step H m G m1 ∧ q (.ftup ds) m1) I ⟨ρ, m, _, p, hq, fun ds m1 vs H1 ⟨z, h1⟩ r1 s1 t1 => ⟨by rw [← r1.length]; exact z, ds, m1, r1, s1, t1, h1⟩⟩) fun us s1 got => ?_)
  obtain ⟨xs, G, I1, rel, z, ds, m1, r1, sim1, st1, h1⟩ := got
  refine ⟨by rw [← rel.length]; exact z, ?_⟩
  have nw : G s1.heap.objs.size = none := I1.hok.fresh (Nat.le_refl _)
  have I2 : Inv X pins σ (upd G s1.heap.objs.size (.frz { cls := .type "tuple", data := .seq us.toArray } (.tup xs))) { s1 with heap := s1.heap.push { cls := .type "tuple", data := .seq us.toArray } } :=
    I1.laid (t' := s1.toks) (fun b o e => Heap.get?_push_of_some _ e) (Nat.le_refl _) (show ObjOk X.prog X.w _ _ _ (.frz _ (.tup xs)) from ⟨Heap.get?_push_size _ rfl, z, us, rel, IsTup.new _ _⟩)
  exact ⟨.ref _, _, I2, rfl, post (.ftup ds) m1 _ _ h1 (.ftup upd_same rfl (r1.mono (upd_new nw))) (sim1.alloc nw) (st1.trans (Step.alloc nw))⟩
end L2.Lh

/-! an error of an own class, made with no argument -/
namespace L2.Lh
open PySem PySem.Spec PyProof.Rows
theorem pmk_own0 {X : Cx} {C : Addr} {bmB : List Value} {B newId initId : String} {n : Str} {p pos : Pos} (F : ExcBaseFacts B newId initId bmB) (cls : PySem.W.excIn X.K C bmB newId = true) (gl : X.mg n = some (.ref C)) (kept : PySem.W.keepIn X.K (.ref C) = true) (rs : Raises X (.ref C)) (is : Gl X n)
    (nd : (n == ("__debug__" : Str)) = false := by decide) : PMk X (.Call (.Name n p) [] [] pos) (fun _ H Q => Q (.ref C) none H) := fun pins s σ H Q inv post => by
  refine wpAny_Call_Name_kw (ld_glob inv is gl (PySem.W.callWith_K0 inv.kIn kept ?_) nd)
  show wpAny _ _ (call (.ref C) []) _ _ s
  obtain ⟨_, _, _, _, _, _, _, _, _, _, _, _, _, _, _, _, _, o1, o2, o3, tl⟩ := exc_obj inv.kIn cls
  exact wpAny_call_exc_subT F tl o1 o2 o3 (fun h' e made => mk_of inv made rs post (inv.hok.gone made.new)) (by decide)
end L2.Lh

/-! for k in d, d a dict whose keys are tuples: the memory keeps the dict's rows while they are walked (dR) -/
namespace L2.Lh
open PySem PySem.Spec PyProof.Rows
theorem getO_R {m : Mem} {a : Addr} {kvs : List (NestedKey × D)} {es : Array DictEntry} {ep : Nat} {ds : List D} {y : D} {k : NestedKey} (h : m a = some (.dR kvs es ep ds)) (e : keyT y = some k) : getO m (.ref a) y = some (valG kvs k) := by
  unfold getO; dsimp only; rw [h]; dsimp only; rw [e]; rfl
theorem inG_R {neg : Bool} {m : Mem} {q : DQ} {a : Addr} {kvs : List (NestedKey × D)} {es : Array DictEntry} {ep : Nat} {ds : List D} {y : D} {k : NestedKey} (h : m a = some (.dR kvs es ep ds)) (e : keyT y = some k) :
    inG neg y (.ref a) m q = q (.bl (if neg then !(valG kvs k).isSome else (valG kvs k).isSome)) m := by
  unfold inG; rw [getO_R h e]
/-- the walk over the rows of a dict that stands still -/
def ItRaw (d : Addr) (es : Array DictEntry) (ep : Nat) : It :=
  ⟨fun i H => H d = some (.ext (rawIs d es ep)) ∧ ∃ en b, es[i]? = some en ∧ en.key = Value.ref b, fun i H x H' => H' = H ∧ ∃ en b, es[i]? = some en ∧ en.key = Value.ref b ∧ x = .ref b, fun i H => H d = some (.ext (rawIs d es ep)) ∧ es.size ≤ i⟩
theorem turn_raw {P : Program} {w : World} {K : PySem.W.Frag} {tg : Expr} {d : Addr} {es : Array DictEntry} {ep : Nat} (it : Addr) : Turn P w K tg (ItRaw d es ep) [it] it (fun i h => h.IsKeyIter it d i es.size ep) where
  mem := List.mem_singleton.mpr rfl
  obj := fun i h st b hb => by
    rw [List.mem_singleton.mp hb]
    obtain ⟨o, h1, h2, h3⟩ := st
    exact ⟨o, h1, fun v z => by rw [h3] at z; cases z⟩
  keep := fun i h h' st k => st.at fun o e => k it (List.mem_singleton.mpr rfl) o e
  item := by
    intro X eP ew eK hc i pins s σ H E inv fp st ⟨hd, en, b, he, hb⟩
    subst eP ew eK
    obtain ⟨p0, p1, _, p3, p4, p5⟩ := fp it (List.mem_singleton.mpr rfl)
    obtain ⟨⟨o, o1, _, o3⟩, _, _⟩ := inv.hok d _ hd
    refine next_key_item st o1 o3 rfl he fun h' st' same => ?_
    obtain ⟨oi, i1, i2, i3⟩ := id st'
    exact ⟨_, rfl, go_of (s := { s with heap := h' }) i1 i2 i3 (by decide) ⟨.ref b, H, inv.turned (t' := s.toks) (fun c oc hc e => (same.2 c hc).trans e) p0 p1 p3 p4 p5, hb, ⟨rfl, en, b, he, hb, rfl⟩, st', fun c hc => (fp c hc).1⟩⟩
  done := by
    intro X eP ew eK hc i pins s σ H E inv fp st ⟨hd, hi⟩
    subst eP ew eK
    obtain ⟨p0, p1, _, p3, p4, p5⟩ := fp it (List.mem_singleton.mpr rfl)
    obtain ⟨⟨o, o1, _, o3⟩, _, _⟩ := inv.hok d _ hd
    exact next_key_end (inv.ok.hd hc) st o1 o3 rfl hi fun h' same => ⟨rfl, inv.turned (t' := s.toks) (fun c oc hc e => same c oc hc e) p0 p1 p3 p4 p5⟩
  self := fun A i s Q E st h => wpAny_pyIter_keyiter st h
def iKeysN (t : DTE) : DTI := fun ρ m q => t ρ m fun d m1 => ∃ a kvs, d = .ref a ∧ m1 a = some (.dN kvs) ∧ ∀ es ep ds, ds.map keyN = kvs.map (fun p => some p.1) → q ⟨ds, fun m' => m' a = some (.dR kvs es ep ds)⟩ (m1.set a (.dR kvs es ep ds))
theorem repN_forms {K : PySem.W.Frag} {H : Hp} : ∀ {kvs : List (NestedKey × D)} {xs : List (NestedKey × Addr × Value)}, RepN K H kvs xs → ∃ ds, Reps K H ds (xs.map fun x => V.ref x.2.1) ∧ ds.map keyN = kvs.map fun p => some p.1
  | _, _, .nil => ⟨[], .nil, rfl⟩
  | _, _, .cons q r => by
    obtain ⟨ds, h1, h2⟩ := repN_forms r
    obtain ⟨e, ⟨d, hd, hk, _⟩, _⟩ := q
    exact ⟨d :: ds, .cons hd h1, by rw [List.map_cons, List.map_cons, h2, hk, e]⟩
theorem ItOk.raw {K : PySem.W.Frag} {a : Addr} {kvs : List (NestedKey × D)} {es : Array DictEntry} {ep : Nat} {ds : List D} {H0 : Hp} {m0 : Mem} (P : Program) (w : World) : ItOk K ⟨ds, fun m' => m' a = some (.dR kvs es ep ds)⟩ (ItRaw a es ep) H0 m0 where
  go := fun i d m H e s _ c => by
    obtain ⟨h1, xs, rw', rs⟩ := s a _ c
    obtain ⟨v, g1, g2⟩ := rs.get e
    rw [List.getElem?_map] at g1
    cases hx : xs[i]? with
    | none => rw [hx] at g1; cases g1
    | some x =>
      rw [hx] at g1
      cases g1
      have he : es[i]? = some (entryOfKey (nestedKind P w) x) := by
        rw [← Array.getElem?_toList, rw'.ent P w, List.getElem?_map, hx]; rfl
      refine ⟨⟨h1, _, x.2.1, he, rfl⟩, fun y H' ⟨e1, en, b, e2, e3, e4⟩ => ?_⟩
      subst e1
      rw [he] at e2
      cases e2
      cases (show Value.ref x.2.1 = Value.ref b from e3)
      subst e4
      exact ⟨g2, s, Step.refl _ _⟩
  stop := fun m H s _ c => by
    obtain ⟨h1, xs, rw', rs⟩ := s a _ c
    refine ⟨h1, Nat.le_of_eq ?_⟩
    have e1 := congrArg List.length (rw'.ent P w)
    have e2 := rs.length
    rw [List.length_map] at e1 e2
    rw [← Array.length_toList, e1, e2]
theorem sim_dR {K : PySem.W.Frag} {H : Hp} {m : Mem} {a : Addr} {o : MO} (s : Sim K H m) (h : RepO K H a o) : Sim K H (m.set a o) := fun b u e => by
  by_cases z : b = a
  · subst z; rw [Mem.set_same] at e; cases e; exact h
  · rw [Mem.set_ne z] at e; exact s b u e
theorem step_dR {H : Hp} {m : Mem} {a : Addr} {o u : MO} (h : m a = some u) : Step H m H (m.set a o) :=
  ⟨Ext.refl H, fun _ h => h, fun _ _ _ h => h, fun b ob n _ => by
    by_cases z : b = a
    · subst z; rw [h] at n; cases n
    · rw [Mem.set_ne z]; exact n⟩
theorem di_keysN {X : Cx} {B : Bs} {tg e : Expr} {te : DTE} (h : DE B X e te) : DI B X tg e (iKeysN te) := by
  refine ⟨fun pins s σ H R inv ⟨ρ, m, q, p, hq, post⟩ => ?_⟩
  refine thn (h.run pins s σ H (fun v H1 => ∃ a kvs m1, v = .ref a ∧ Sim X.K H1 m1 ∧ Step H m H1 m1 ∧ m1 a = some (.dN kvs) ∧ ∀ es ep ds, ds.map keyN = kvs.map (fun p => some p.1) → q ⟨ds, fun m' => m' a = some (.dR kvs es ep ds)⟩ (m1.set a (.dR kvs es ep ds))) inv
    ⟨ρ, m, _, p, hq, fun d m1 v H1 ⟨a, kvs, e1, e2, h1⟩ r1 s1 t1 => by subst e1; cases r1; exact ⟨a, kvs, m1, rfl, s1, t1, e2, h1⟩⟩) fun u s1 ⟨v, H1, I1, rv, a, kvs, m1, ev, sim, st, ea, hk⟩ => ?_
  subst ev
  obtain rfl : u = Value.ref a := rv
  obtain ⟨es, ep, xs, g1, g2⟩ := sim a _ ea
  obtain ⟨ds, f1, f2⟩ := repN_forms g2.rel
  obtain ⟨⟨o, o1, o2, o3⟩, _, _⟩ := I1.hok a _ g1
  exact iter_keys g2.sys o1 o2 o3 (pi_one (tk := s1.toks) I1 _ (turn_raw _) ⟨_, Heap.get?_push_size _ rfl, rfl, rfl⟩
    (post _ _ _ _ (hk es ep ds f2) (ItOk.raw X.prog X.w) (sim_dR sim ⟨g1, xs, g2, f1⟩) (st.trans (step_dR ea))))
end L2.Lh

namespace L2.Lh
open PySem PySem.Spec PyProof.Rows LamX
section
variable {X : Cx}
abbrev fdivW : DR2 := iiD CDivW fun i j => .int (i / j)
theorem d_fdivW : OpD X (binaryOp .FloorDiv) fdivW := d_ii op_fdivW
/-- x is b, x is not b, both truths -/
def isBD (neg : Bool) : DR2
  | .bl a, .bl b, m, q => q (.bl (if neg then !(a == b) else a == b)) m
  | _, _, _, _ => False
theorem isBD_b {neg a b : Bool} {m : Mem} {q : DQ} : isBD neg (.bl a) (.bl b) m q = q (.bl (if neg then !(a == b) else a == b)) m := rfl
theorem d_isB : OpD X (compareOp .Is) (isBD false) := by
  intro pins s σ H x y v u Q I rx ry ⟨dx, dy, m, q, r1, r2, sim, h, post⟩
  cases dx with
  | bl a =>
    cases dy with
    | bl b =>
      cases r1; cases r2
      cases rx; cases ry
      exact wpAny_is_plain (by rfl) ⟨.bl (a == b), H, I, by cases a <;> cases b <;> rfl, post.here h (.bl _) sim⟩
    | _ => exact (show False from h).elim
  | _ => cases dy <;> exact (show False from h).elim
theorem d_isNotB : OpD X (compareOp .IsNot) (isBD true) := by
  intro pins s σ H x y v u Q I rx ry ⟨dx, dy, m, q, r1, r2, sim, h, post⟩
  cases dx with
  | bl a =>
    cases dy with
    | bl b =>
      cases r1; cases r2
      cases rx; cases ry
      exact wpAny_isNot_plain (by rfl) ⟨.bl (!(a == b)), H, I, by cases a <;> cases b <;> rfl, post.here h (.bl _) sim⟩
    | _ => exact (show False from h).elim
  | _ => cases dy <;> exact (show False from h).elim
end
end L2.Lh

/-! zip of two tuples, of two lists -/
namespace L2.Lh
open PySem PySem.Spec PyProof.Rows
/-- the tuples at a and b, their items in new pairs -/
def ItZt (K : PySem.W.Frag) (a b : Addr) : It where
  go := fun i H => ∃ (xs ys : List V) (x y : V), SqT K H a xs ∧ SqT K H b ys ∧ xs[i]? = some x ∧ ys[i]? = some y
  yld := fun i H v H' => ∃ T x y, v = .ref T ∧ H T = none ∧ H' = upd H T (.tup [x, y]) ∧ (∀ xs, SqT K H a xs → xs[i]? = some x) ∧ ∀ ys, SqT K H b ys → ys[i]? = some y
  stop := fun i H => ∃ xs ys : List V, SqT K H a xs ∧ SqT K H b ys ∧ i ≤ xs.length ∧ i ≤ ys.length ∧ (i = xs.length ∨ i = ys.length)
theorem turnZt {P : Program} {w : World} {K : PySem.W.Frag} {elts : List Expr} {kk : Nat} {tpos : Pos} {a b z TI TO i1 i2 : Addr} (S : ZipSep2 z TI TO i1 i2 [i1, a] [i2, b]) (n1 : a ≠ i1) (n2 : b ≠ i2) :
    Turn P w K (.Tuple elts kk tpos) (ItZt K a b) [z, TI, TO, i1, i2] z (fun i h => IsZip h z TI TO .none ∧ IsTupOf2 h TI (.ref i1) (.ref i2) ∧ (∃ x y, IsTupOf2 h TO x y) ∧ h.IsTupleIter i1 a i ∧ h.IsTupleIter i2 b i) where
  mem := by simp
  obj := fun i h st c hc => by
    obtain ⟨hz, hTI, ⟨x, y, hTO⟩, ⟨o1, e1, _, d1⟩, ⟨o2, e2, _, d2⟩⟩ := st
    rcases (show c = z ∨ c = TI ∨ c = TO ∨ c = i1 ∨ c = i2 by simpa using hc) with q | q | q | q | q
    · rw [q]; exact ⟨_, hz, fun v q => nomatch q⟩
    · rw [q]; exact ⟨_, hTI, fun v q => nomatch q⟩
    · rw [q]; exact ⟨_, hTO, fun v q => nomatch q⟩
    · rw [q]; exact ⟨o1, e1, fun v q => by rw [d1] at q; cases q⟩
    · rw [q]; exact ⟨o2, e2, fun v q => by rw [d2] at q; cases q⟩
  keep := fun i h h' st k => by
    obtain ⟨hz, hTI, ⟨x, y, hTO⟩, h1, h2⟩ := st
    exact ⟨k z (by simp) _ hz, k TI (by simp) _ hTI, ⟨x, y, k TO (by simp) _ hTO⟩, h1.at fun o q => k i1 (by simp) o q, h2.at fun o q => k i2 (by simp) o q⟩
  item := by
    intro X hP hw hK hc i pins s σ H E I hf st hg
    subst hP hw hK
    obtain ⟨hz, hTI, ⟨x0, y0, hTO⟩, h1, h2⟩ := st
    obtain ⟨xs, ys, x, y, hqx, hqy, hx, hy⟩ := hg
    obtain ⟨its, rv, p, _⟩ := I.tuple hqx
    obtain ⟨its2, rv2, p2, _⟩ := I.tuple hqy
    obtain ⟨u, hu, ru⟩ := rv.get hx
    obtain ⟨u2, hu2, ru2⟩ := rv2.get hy
    have hzl : z < s.heap.objs.size := Heap.lt_size hz
    have l1 : i < its.toArray.size := by
      have := (List.getElem?_eq_some_iff.mp hu).1
      simpa using this
    have l2 : i < its2.toArray.size := by
      have := (List.getElem?_eq_some_iff.mp hu2).1
      simpa using this
    have D1 := Draws.tuple (prog := X.prog) (w := X.w) (A := X.A.in1) (I.ok.hd hc) i1 a n1 its.toArray
    have D2 := Draws.tuple (prog := X.prog) (w := X.w) (A := X.A.in1) (I.ok.hd hc) i2 b n2 its2.toArray
    refine wpAny_pyNext_zipD2_item S D1 D2 hz hTI hTO ⟨h1, (show s.heap.IsTuple a its.toArray from p)⟩ ⟨h2, (show s.heap.IsTuple b its2.toArray from p2)⟩ l1 l2 fun v1 v2 h' tk e1 e2 z' TO' h1' h2' hT hsz hk => ?_
    have ev1 : v1 = u := by
      have : its.toArray[i]? = some u := by simpa using hu
      rw [this] at e1; cases e1; rfl
    have ev2 : v2 = u2 := by
      have : its2.toArray[i]? = some u2 := by simpa using hu2
      rw [this] at e2; cases e2; rfl
    subst ev1 ev2
    refine ⟨_, rfl, wpAny_letOwnedTupleGo_zip (s := { s with heap := h', toks := tk }) z' fun h'' z'' sb => ?_⟩
    have hT2 : h''.get? s.heap.objs.size = some { cls := .type "tuple", data := .seq #[v1, v2] } := (sb.2 _ (Nat.ne_of_gt hzl)).trans hT
    have new : ObjOk X.prog X.w (upd H s.heap.objs.size (.tup [x, y])) h'' s.heap.objs.size (.tup [x, y]) :=
      ⟨by show 2 ≤ sizeLine; decide, [v1, v2], .cons ru (.cons ru2 .nil), ⟨_, hT2, rfl, _, rfl⟩⟩
    have I1 : Inv X pins σ (upd H s.heap.objs.size (.tup [x, y])) { s with heap := h'', toks := tk } :=
      I.turnedNew (t' := tk) (ch := [z, TI, TO, i1, i2]) (fun c o hb q => (sb.2 c (fun q' => hb (by simp [q']))).trans (hk c o (fun q' => hb (by simp [q'])) (fun q' => hb (by simp [q'])) (fun q' => hb (by simp [q'])) (fun q' => hb (by simp [q'])) q)) hf (Nat.le_refl _) new
    refine ⟨.ref s.heap.objs.size, _, I1, rfl, ⟨_, x, y, rfl, I.hok.fresh (Nat.le_refl _), rfl, fun l hl => by rw [I.tuple_inj hl hqx]; exact hx, fun l hl => by rw [I.tuple_inj hl hqy]; exact hy⟩, ⟨z'', ?_, ⟨v1, v2, ?_⟩, ?_, ?_⟩, fun c hcm => ?_⟩
    · exact (sb.2 _ S.TIz).trans (hk _ _ S.TIz S.TITO S.TIi1 S.TIi2 hTI)
    · exact (sb.2 _ S.TOz).trans TO'
    · exact h1'.1.at fun o q => (sb.2 _ (Ne.symm S.zi1)).trans q
    · exact h2'.1.at fun o q => (sb.2 _ (Ne.symm S.zi2)).trans q
    · have hlt : c < s.heap.objs.size := by
        rcases (show c = z ∨ c = TI ∨ c = TO ∨ c = i1 ∨ c = i2 by simpa using hcm) with q | q | q | q | q
        · rw [q]; exact hzl
        · rw [q]; exact Heap.lt_size hTI
        · rw [q]; exact Heap.lt_size hTO
        · rw [q]; obtain ⟨_, e1, _⟩ := h1; exact Heap.lt_size e1
        · rw [q]; obtain ⟨_, e2, _⟩ := h2; exact Heap.lt_size e2
      rw [upd_ne (Nat.ne_of_lt hlt)]
      exact (hf c hcm).1
  done := by
    intro X hP hw hK hc i pins s σ H E I hf st hg
    subst hP hw hK
    obtain ⟨hz, hTI, ⟨x0, y0, hTO⟩, h1, h2⟩ := st
    obtain ⟨xs, ys, hqx, hqy, g1, g2, hend⟩ := hg
    obtain ⟨its, rv, p, _⟩ := I.tuple hqx
    obtain ⟨its2, rv2, p2, _⟩ := I.tuple hqy
    have l1 := rv.length
    have l2 := rv2.length
    have D1 := Draws.tuple (prog := X.prog) (w := X.w) (A := X.A.in1) (I.ok.hd hc) i1 a n1 its.toArray
    have D2 := Draws.tuple (prog := X.prog) (w := X.w) (A := X.A.in1) (I.ok.hd hc) i2 b n2 its2.toArray
    exact wpAny_pyNext_zipD2_end S D1 D2 hz hTI hTO ⟨h1, (show s.heap.IsTuple a its.toArray from p)⟩ ⟨h2, (show s.heap.IsTuple b its2.toArray from p2)⟩ (by simp; omega) (by simp; omega) (by simp; omega) fun h' tk hk => ⟨rfl, I.turnedL (t' := tk) (ch := [z, TI, TO, i1, i2]) (fun c o hb q =>
      hk c o (fun q' => hb (by simp [q'])) (fun q' => hb (by simp [q'])) (fun q' => hb (by simp [q'])) (fun q' => hb (by simp [q'])) q) hf⟩
  self := fun A i s Q E st h => wpAny_pyIter_zip st.1 h
theorem sep_new (n a b : Nat) (la : a < n) (lb : b < n) : ZipSep2 (n + 4) (n + 2) (n + 3) n (n + 1) [n, a] [n + 1, b] := by
  have h1 : n ≠ a := Nat.ne_of_gt la
  have h2 : n ≠ b := Nat.ne_of_gt lb
  have h3 : n + 1 ≠ a := Nat.ne_of_gt (Nat.lt_succ_of_lt la)
  have h4 : n + 4 ≠ a := Nat.ne_of_gt (by omega)
  have h5 : n + 4 ≠ b := Nat.ne_of_gt (by omega)
  have h6 : n + 3 ≠ a := Nat.ne_of_gt (by omega)
  have h7 : n + 3 ≠ b := Nat.ne_of_gt (by omega)
  constructor <;> simp [h1, h2, h3, h4, h5, h6, h7]
theorem pi_zipG {X : Cx} {e e2 : Expr} {ta : TA} {p pos tpos : Pos} {elts : List Expr} {kk : Nat} (hg : Gl X "zip") (hm : X.mg "zip" = none) (ha : PA X [e, e2] ta)
    (hs : starEach [e, e2] X.env = (false, eval e X.env) :: starEach [e2] X.env := by rfl) (hpl : (backTo pos (starEach [e2] X.env)).any (·.1) = false := by rfl) :
    PI X (.Tuple elts kk tpos) (.Call (.Name "zip" p) [e, e2] [] pos) (fun σ H R => ta σ H fun vs H1 => ∃ a b xs ys, vs = [.ref a, .ref b] ∧ ((SqT X.K H1 a xs ∧ SqT X.K H1 b ys ∧ R (ItZt X.K a b) H1) ∨ (SqL X.K H1 a xs ∧ SqL X.K H1 b ys ∧ R (Itz X.K a b) H1))) := by
  refine ⟨fun pins s σ H R I h => ?_⟩
  refine Call_ (ld_blt I hg hm PyProof.Rows.boot_zip (PyProof.Rows.callWith_type1 (thn (ha.run pos pins s σ H _ I h) fun us s1 ⟨vs, H1, I1, r1, q1⟩ => ?_) hs hpl))
  obtain ⟨a, b, xs, ys, ex, q1⟩ := q1
  subst ex
  cases r1 with
  | cons r rr =>
    cases rr with
    | cons r' rr =>
      cases rr
      cases r
      cases r'
      have fresh : ∀ c ∈ [s1.heap.objs.size + 4, s1.heap.objs.size + 2, s1.heap.objs.size + 3, s1.heap.objs.size, s1.heap.objs.size + 1], FpOk X pins H1 c := fun c hcm => by
        have hle : s1.heap.objs.size ≤ c := by
          rcases (show c = s1.heap.objs.size + 4 ∨ c = s1.heap.objs.size + 2 ∨ c = s1.heap.objs.size + 3 ∨ c = s1.heap.objs.size ∨ c = s1.heap.objs.size + 1 by simpa using hcm) with z | z | z | z | z
          · rw [z]; exact Nat.le_add_right _ _
          · rw [z]; exact Nat.le_add_right _ _
          · rw [z]; exact Nat.le_add_right _ _
          · rw [z]; exact Nat.le_refl _
          · rw [z]; exact Nat.le_add_right _ _
        exact I1.fpOk hle (I1.hok.fresh hle)
      rcases q1 with ⟨hqx, hqy, q⟩ | ⟨hqx, hqy, q⟩
      · obtain ⟨its, rv, p1, _⟩ := I1.tuple hqx
        obtain ⟨its2, rv2, p2, _⟩ := I1.tuple hqy
        have pT1 : s1.heap.IsTuple a its.toArray := p1
        have pT2 : s1.heap.IsTuple b its2.toArray := p2
        have la : a < s1.heap.objs.size := by obtain ⟨o, e, _⟩ := pT1; exact Heap.lt_size e
        have lb : b < s1.heap.objs.size := by obtain ⟨o, e, _⟩ := pT2; exact Heap.lt_size e
        refine zip_begins2 (begins_tuple a its.toArray) (begins_tuple b its2.toArray) pT1 pT2 fun h' hz hTI hTO g1 g2 hsz hk => wpAny_pyIter_zip hz ?_
        exact ⟨s1.heap.objs.size + 4, [s1.heap.objs.size + 4, s1.heap.objs.size + 2, s1.heap.objs.size + 3, s1.heap.objs.size, s1.heap.objs.size + 1], _, _, H1, rfl, I1.kept (t' := s1.toks) hk, turnZt (sep_new s1.heap.objs.size a b la lb) (Nat.ne_of_lt la) (Nat.ne_of_lt (Nat.lt_succ_of_lt lb)), ⟨hz, hTI, ⟨_, _, hTO⟩, ⟨_, g1, rfl, rfl⟩, ⟨_, g2, rfl, rfl⟩⟩, fresh, q⟩
      · obtain ⟨its, rv, p1, _⟩ := I1.list hqx
        obtain ⟨its2, rv2, p2, _⟩ := I1.list hqy
        have la : a < s1.heap.objs.size := p1.lt
        have lb : b < s1.heap.objs.size := p2.lt
        refine call_zip_2 p1.isList p2.isList fun h' hz hTI hTO h1 h2 hsz hk => wpAny_pyIter_zip hz ?_
        exact ⟨s1.heap.objs.size + 4, [s1.heap.objs.size + 4, s1.heap.objs.size + 2, s1.heap.objs.size + 3, s1.heap.objs.size, s1.heap.objs.size + 1], _, _, H1, rfl, I1.kept (t' := s1.toks) hk, turn_zip (PySem.W.ktu_apart s1.heap.objs.size a b la lb), ⟨hz, hTI, ⟨_, _, hTO⟩, h1, h2⟩, fresh, q⟩
section
variable {X : Cx} {B : Bs}
def zipP : List D → List D → List D
  | x :: xs, y :: ys => .tup [x, y] :: zipP xs ys
  | _, _ => []
theorem zipP_get : ∀ (xs ys : List D) (i : Nat) (d : D), (zipP xs ys)[i]? = some d → ∃ x y, xs[i]? = some x ∧ ys[i]? = some y ∧ d = .tup [x, y]
  | [], _, _, _, h => by simp [zipP] at h
  | _ :: _, [], _, _, h => by simp [zipP] at h
  | x :: xs, y :: ys, 0, d, h => by
    simp only [zipP, List.getElem?_cons_zero, Option.some.injEq] at h
    exact ⟨x, y, rfl, rfl, h.symm⟩
  | x :: xs, y :: ys, i + 1, d, h => by
    simp only [zipP, List.getElem?_cons_succ] at h
    obtain ⟨a, b, h1, h2, h3⟩ := zipP_get xs ys i d h
    exact ⟨a, b, by simpa using h1, by simpa using h2, h3⟩
theorem zipP_length : ∀ (xs ys : List D), (zipP xs ys).length = min xs.length ys.length
  | [], _ => by simp [zipP]
  | _ :: _, [] => by simp [zipP]
  | _ :: xs, _ :: ys => by rw [zipP, List.length_cons, List.length_cons, List.length_cons, zipP_length xs ys]; omega
def tupO : D → Option (List D)
  | .tup xs => some xs
  | .ftup xs => some xs
  | _ => none
/-- zip of two tuples; of two lists -/
def iZip (ta tb : DTE) : DTI := fun ρ m q => ta ρ m fun d m1 => tb ρ m1 fun e m2 => match tupO d, tupO e with
  | some xs, some ys => q ⟨zipP xs ys, fun _ => True⟩ m2
  | _, _ => match d, e with
    | .ref a, .ref b => match m2 a, m2 b with
      | some (.lst xs), some (.lst ys) => q ⟨zipP xs ys, fun m' => m' a = some (.lst xs) ∧ m' b = some (.lst ys)⟩ m2
      | _, _ => False
    | _, _ => False
theorem tupO_rep {K : PySem.W.Frag} {H : Hp} {d : D} {v : V} {xs : List D} (h : tupO d = some xs) (r : Rep K H d v) : ∃ a vs, v = .ref a ∧ Reps K H xs vs ∧ ∀ H', Ext H H' → SqT K H' a vs := by
  cases r with
  | tup g rs => cases h; exact ⟨_, _, rfl, rs, fun H' x => SqT.of (x.tup _ _ g)⟩
  | ftup g n rs => cases h; exact ⟨_, _, rfl, rs, fun H' x => .inl (.inr ⟨_, x.frz _ _ _ g⟩)⟩
  | _ => cases h
theorem ItOk.zipT {K : PySem.W.Frag} {a b : Addr} {vs us : List V} {xs ys : List D} {H0 : Hp} {m0 : Mem} (h : ∀ H', Ext H0 H' → SqT K H' a vs) (g : ∀ H', Ext H0 H' → SqT K H' b us) (r : Reps K H0 xs vs) (t : Reps K H0 ys us) : ItOk K ⟨zipP xs ys, fun _ => True⟩ (ItZt K a b) H0 m0 where
  go := fun i d m H e s st c => by
    obtain ⟨x0, y0, h1, h2, hd⟩ := zipP_get xs ys i d e
    obtain ⟨v, v1, v2⟩ := (r.mono st.ext).get h1
    obtain ⟨u, u1, u2⟩ := (t.mono st.ext).get h2
    refine ⟨⟨vs, us, v, u, h _ st.ext, g _ st.ext, v1, u1⟩, fun x H' ⟨T, z, z', e1, e2, e3, e4, e5⟩ => ?_⟩
    subst e1 e3
    have q1 := e4 vs (h _ st.ext)
    rw [v1] at q1; cases q1
    have q2 := e5 us (g _ st.ext)
    rw [u1] at q2; cases q2
    rw [hd]
    exact ⟨.tup upd_same (.cons (v2.mono (upd_new e2)) (.cons (u2.mono (upd_new e2)) .nil)), s.alloc e2, Step.alloc e2⟩
  stop := fun m H s st c => by
    have l1 := r.length
    have l2 := t.length
    refine ⟨vs, us, h _ st.ext, g _ st.ext, ?_, ?_, ?_⟩ <;> show _ <;> simp only [zipP_length] <;> omega
theorem ItOk.zipL {K : PySem.W.Frag} {a b : Addr} {xs ys : List D} {H0 : Hp} {m0 : Mem} : ItOk K ⟨zipP xs ys, fun m' => m' a = some (.lst xs) ∧ m' b = some (.lst ys)⟩ (Itz K a b) H0 m0 where
  go := fun i d m H e s st c => by
    obtain ⟨vs, hv, r⟩ := s a _ c.1
    obtain ⟨us, hu, t⟩ := s b _ c.2
    obtain ⟨x0, y0, h1, h2, hd⟩ := zipP_get xs ys i d e
    obtain ⟨v, v1, v2⟩ := r.get h1
    obtain ⟨u, u1, u2⟩ := t.get h2
    refine ⟨⟨vs, us, v, u, SqL.of hv, SqL.of hu, v1, u1⟩, fun x H' ⟨T, z, z', e1, e2, e3, e4, e5⟩ => ?_⟩
    subst e1 e3
    have q1 := e4 vs (SqL.of hv)
    rw [v1] at q1; cases q1
    have q2 := e5 us (SqL.of hu)
    rw [u1] at q2; cases q2
    rw [hd]
    exact ⟨.tup upd_same (.cons (v2.mono (upd_new e2)) (.cons (u2.mono (upd_new e2)) .nil)), s.alloc e2, Step.alloc e2⟩
  stop := fun m H s st c => by
    obtain ⟨vs, hv, r⟩ := s a _ c.1
    obtain ⟨us, hu, t⟩ := s b _ c.2
    have l1 := r.length
    have l2 := t.length
    refine ⟨vs, us, SqL.of hv, SqL.of hu, ?_⟩
    show _ ∨ _
    simp only [zipP_length]
    omega
theorem di_zip {e e2 : Expr} {te te2 : DTE} {p pos tpos : Pos} {elts : List Expr} {kk : Nat} (hg : Gl X "zip") (hm : X.mg "zip" = none) (he : DE B X e te) (he2 : DE B X e2 te2)
    (hs : starEach [e, e2] X.env = (false, eval e X.env) :: starEach [e2] X.env := by rfl) (hs2 : starEach [e2] X.env = [(false, eval e2 X.env)] := by rfl) (hpl : (backTo pos (starEach [e2] X.env)).any (·.1) = false := by rfl) :
    DI B X (.Tuple elts kk tpos) (.Call (.Name "zip" p) [e, e2] [] pos) (iZip te te2) :=
  pi_imp (pi_zipG hg hm (pa_cons he (pa_cons he2 pa_nil hs2) hs) hs hpl) fun σ H R ⟨ρ, m, q, p, h, post⟩ => ⟨ρ, m, _, p, h, fun d m1 v H1 h1 r1 s1 t1 => ⟨ρ, m1, _, p.next s1 t1, h1, fun d2 m2 v2 H2 h2 r2 s2 t2 => by
    split at h2
    · rename_i xs ys e1 e3
      obtain ⟨a, vs, rfl, rx, qa⟩ := tupO_rep e1 (r1.mono t2.ext)
      obtain ⟨b, us, rfl, ry, qb⟩ := tupO_rep e3 r2
      exact ⟨a, b, vs, us, rfl, .inl ⟨qa _ (Ext.refl _), qb _ (Ext.refl _), post _ m2 _ H2 h2 (ItOk.zipT qa qb rx ry) s2 (t1.trans t2)⟩⟩
    · split at h2
      · rename_i dd ee a b hno
        split at h2
        · rename_i xs ys ea eb
          cases r1; cases r2
          obtain ⟨vs, hv, _⟩ := s2 a _ ea
          obtain ⟨us, hu, _⟩ := s2 b _ eb
          exact ⟨a, b, vs, us, rfl, .inr ⟨SqL.of hv, SqL.of hu, post _ m2 _ H2 h2 ItOk.zipL s2 (t1.trans t2)⟩⟩
        · exact h2.elim
      · exact h2.elim⟩⟩
theorem iZip_tt {xs ys : List D} {m : Mem} {q : Itd → Mem → Prop} : (match tupO (.tup xs), tupO (.tup ys) with
  | some xs, some ys => q ⟨zipP xs ys, fun _ => True⟩ m
  | _, _ => False) = q ⟨zipP xs ys, fun _ => True⟩ m := rfl
end
end L2.Lh

/-! a.extend(t), t a tuple -/
namespace L2.Lh
open PySem PySem.Spec PyProof.Rows
open AutoSeq1 (wpAny_loadPart')
theorem extTup (l : Addr) (its : Array Value) (n : Nat) (b : Addr) (ob : Obj) (its2 : Array Value) (n2 : Nat) (hc : ob.cls = .type "tuple") (hd : ob.data = .seq its2 n2) (h0 : ¬(!its.isEmpty && Builtin.List.listTooLong (its.size + its2.size)) = true) (h1 : its.size ≤ sizeLine) (h2 : its.size + its2.size ≤ sizeLine + 1) :
    Meets (Builtin.«list.extend» ⟨[.ref l, .ref b], []⟩) (fun _ R s => s.heap.get? l = some { cls := .type "list", dict := none, data := .seq its n, slots := #[] } ∧ s.heap.get? b = some ob ∧ R (.ok (.ret Value.none)) { s with heap := s.heap.update l (Obj.mapSeq fun x => x ++ its2), toks := s.toks }) :=
  .of_wp fun prog w A R s h => by
    obtain ⟨hp, gg, dd, tk, os⟩ := s
    obtain ⟨hl, hb, h⟩ := h
    obtain ⟨oc, od, odt, osl⟩ := ob
    cases hc
    cases hd
    have f1 := AutoSeq1.idx_int
    have f2 := AutoSeq1.sub_tuple_tuple
    have f3 := AutoSeq1.sub_list_list
    have f4 := AutoSeq1.sub_tuple_list
    have f5 := AutoSeq1.sub_list_tuple
    have hz' : (its ++ its2).size ≤ sizeLine + 1 := by rw [Array.size_append]; exact h2
    wp_walk using (wpAny_updateSeq hl rfl (hz := h1) (_hz' := hz')), wpAny_loadPart' hl, wpAny_loadPart' hb
    exact ⟨_, rfl, h⟩
section
variable {X : Cx}
def rExtT (K : PySem.W.Frag) : V → List V → Hp → VK → Prop := fun x vs H Q => ∃ l b xs zs, x = .ref l ∧ vs = [.ref b] ∧ H l = some (.lst xs) ∧ SqT K H b zs ∧ xs.length + zs.length ≤ sizeLine ∧ Q .non (upd H l (.lst (xs ++ zs)))
theorem mt_extT : MtM X "list.extend" (rExtT X.K) := by
  intro pins s σ H x vs v us Q I rx rv h
  obtain ⟨l, b, xs, zs, rfl, rfl, hH, hB, hz, q⟩ := h
  cases rx
  obtain ⟨u, rfl, ru⟩ := rv.one
  cases ru
  obtain ⟨z, its, n, r, hl, e⟩ := I.lstM hH
  obtain ⟨its2, r2, p, hl2⟩ := I.tuple hB
  obtain ⟨ob, e2, hc, n2, hd⟩ := (show s.heap.IsTuple b its2.toArray from p)
  have le2 := r2.length
  have le1 := r.length
  have hsz : its.toArray.size + its2.toArray.size ≤ sizeLine := by rw [List.size_toArray, List.size_toArray]; omega
  have hlong : ¬ (!its.toArray.isEmpty && Builtin.List.listTooLong (its.toArray.size + its2.toArray.size)) = true := by
    rw [notLongL hsz, Bool.and_false]
    exact Bool.false_ne_true
  refine call_meets F.slot_list_extend ⟨_, e, rfl⟩ F.entry_list_extend (F.args_list_extend_2 _ _)
    (extTup l its.toArray n b ob its2.toArray n2 hc hd hlong (by rw [List.size_toArray]; omega) (by omega)) ⟨e, e2, ?_⟩
  refine ⟨.non, _, I.lset (its' := its ++ its2) hH e (by simp) (r.append r2) ?_, rfl, q⟩
  rw [List.length_append]
  omega
def extendT : DRM := fun x ds m q => match x, ds with
  | .ref a, [d] => match tupO d with
    | some ys => ∃ xs, m a = some (.lst xs) ∧ xs.length + ys.length ≤ sizeLine ∧ q .non (m.set a (.lst (xs ++ ys)))
    | none => False
  | _, _ => False
theorem m_extendT : MtR X "list.extend" (upM X.K extendT) := by
  intro pins s σ H x xs v us Q I rx rv ⟨d, ds, m, q, r1, r2, sim, h, post⟩
  unfold extendT at h
  split at h
  · rename_i a e
    split at h
    · rename_i ys ey
      obtain ⟨xs1, ha, hz, hq⟩ := h
      cases r1
      obtain ⟨vs, hv, rs⟩ := sim a _ ha
      cases r2 with
      | cons q1 q2 =>
        cases q2
        obtain ⟨b, ws, rfl, rw', sq⟩ := tupO_rep ey q1
        exact mt_extT pins s σ H _ _ v us Q I rx rv ⟨a, b, vs, ws, rfl, rfl, hv, sq _ (Ext.refl _), by rw [← rs.length, ← rw'.length]; exact hz, post.wrt ha hq (rs.append rw') .non sim⟩
    · exact h.elim
  · exact h.elim
theorem extendT_t {a : Addr} {ys : List D} {m : Mem} {q : DQ} {xs : List D} (h : m a = some (.lst xs)) : extendT (.ref a) [.tup ys] m q = (xs.length + ys.length ≤ sizeLine ∧ q .non (m.set a (.lst (xs ++ ys)))) := by
  show (∃ xs', m a = some (.lst xs') ∧ _) = _
  rw [h]
  simp
end
end L2.Lh

/-! len(set(xs)) of ints; xs.index(y) of data -/
namespace L2.Lh
open PySem PySem.Spec PyProof.Rows
theorem firstMet_nd (val : Nat → Int) : ∀ i, (PyProof.Rows.firstMet val i).Nodup
  | 0 => by rw [PyProof.Rows.firstMet_zero]; exact List.nodup_nil
  | i + 1 => by
    rw [PyProof.Rows.firstMet_succ]
    have ih := firstMet_nd val i
    show (if (PyProof.Rows.firstMet val i).any (· == val i) then PyProof.Rows.firstMet val i else PyProof.Rows.firstMet val i ++ [val i]).Nodup
    split
    · exact ih
    · rename_i h
      rw [List.nodup_append]
      refine ⟨ih, by simp, fun x hx y hy => ?_⟩
      rw [List.mem_singleton] at hy
      subst hy
      intro z
      subst z
      exact h (List.any_eq_true.mpr ⟨_, hx, beq_self_eq_true _⟩)
theorem firstMet_mem (ns : List Int) (x : Int) : x ∈ PyProof.Rows.firstMet (fun i => ns.getD i 0) ns.length ↔ x ∈ ns := by
  have h := PyProof.Rows.firstMet_any (fun i => ns.getD i 0) ns.length x
  have e : (List.range ns.length).map (fun i => ns.getD i 0) = ns := by
    refine List.ext_getElem? fun i => ?_
    by_cases hi : i < ns.length
    · rw [List.getElem?_map, List.getElem?_range hi, List.getElem?_eq_getElem hi]
      show some (ns.getD i 0) = _
      rw [List.getD_eq_getElem?_getD, List.getElem?_eq_getElem hi]; rfl
    · rw [List.getElem?_eq_none (by rw [List.length_map, List.length_range]; omega), List.getElem?_eq_none (by omega)]
  rw [e] at h
  have g : ∀ l : List Int, (l.any (· == x)) = true ↔ x ∈ l := fun l => by
    rw [List.any_eq_true]
    constructor
    · rintro ⟨y, hy, e⟩; rw [← eq_of_beq e]; exact hy
    · intro hx; exact ⟨x, hx, beq_self_eq_true _⟩
  rw [← g, h, g]
def tLenSetA (K : PySem.W.Frag) (ta : TE) : TE := fun σ H Q => ta σ H fun x H1 => ∃ (l : Addr) (ns : List Int), x = .ref l ∧ SqL K H1 l (ns.map V.int) ∧ ns.length ≤ 1000 ∧ ∀ us : List Int, us.Nodup → (∀ x, x ∈ us ↔ x ∈ ns) → Q (.int (us.length : Nat)) H1
theorem pe_lenSetA {X : Cx} {a : Expr} {ta : TE} {p p2 q pos : Pos} (hg : Gl X "len") (hm : X.mg "len" = none) (hg2 : Gl X "set") (hm2 : X.mg "set" = none) (ha : PE X a ta) (hc : X.calm = true := by rfl)
    (na : starEach [a] X.env = (false, eval a X.env) :: starEach [] X.env := by rfl) : PE X (.Call (.Name "len" p) [.Call (.Name "set" p2) [a] [] q] [] pos) (tLenSetA X.K ta) := by
  refine ⟨fun pins s σ H Q I h => ?_⟩
  refine Call_ (ld_blt I hg hm boot_len ?_)
  refine PyProof.Rows.callWith_builtin1 (PyProof.Rows.args_cons ?_ rfl) rfl rfl
  refine Call_ (ld_blt I hg2 hm2 boot_set ?_)
  refine PyProof.Rows.callWith_type1 (PyProof.Rows.args_cons (thn (ha.run pins s σ H _ I h) fun v s1 ⟨x, H1, I1, r1, q1⟩ => PyProof.Rows.args_nil ?_) na) na rfl
  obtain ⟨l, ns, rfl, hq, hl, q1⟩ := q1
  cases r1
  obtain ⟨its, r, pl, hz⟩ := I1.list hq
  have hlen : its.toArray.size = ns.length := by rw [List.size_toArray, ← r.length, List.length_map]
  refine call_set_list (I1.ok.hd hc) pl.isList (by simpa using RZ.intsAre_vals r) (by rw [hlen]; unfold scanBound; omega) fun h' tk hS hk => ?_
  refine PyProof.Rows.args_nil ?_
  rw [hlen] at hS
  have q2 := q1 _ (firstMet_nd (fun i => ns.getD i 0) ns.length) (firstMet_mem ns)
  have hle := PyProof.Rows.firstMet_length_le (fun i => ns.getD i 0) ns.length
  generalize PyProof.Rows.firstMet (fun i => ns.getD i 0) ns.length = us at hS q2 hle
  obtain ⟨o, es, ep, t, ho, hex, hd, _, _, _, hf, hn⟩ := hS
  have I2 : Inv X pins σ H1 { s1 with heap := h', toks := tk } := I1.kept fun b o e => hk b o (Heap.lt_size e) e
  exact call_len_set ho hex hd hf (by rw [hn] <;> omega) ⟨.int us.length, H1, I2.tok _, ⟨_, by rw [hn]⟩, q2⟩
section
variable {X : Cx} {B : Bs}
def dLenSet (ta : DTE) : DTE := fun ρ m q => ta ρ m fun d m1 => ∃ (a : Addr) (ns : List Int), d = .ref a ∧ m1 a = some (.lst (ns.map D.int)) ∧ ns.length ≤ 1000 ∧ ∀ us : List Int, us.Nodup → (∀ x, x ∈ us ↔ x ∈ ns) → q (.int (us.length : Nat)) m1
theorem de_lenSet {a : Expr} {ta : DTE} {p p2 q pos : Pos} (hg : Gl X "len") (hm : X.mg "len" = none) (hg2 : Gl X "set") (hm2 : X.mg "set" = none) (ha : DE B X a ta) (hc : X.calm = true := by rfl)
    (na : starEach [a] X.env = (false, eval a X.env) :: starEach [] X.env := by rfl) : DE B X (.Call (.Name "len" p) [.Call (.Name "set" p2) [a] [] q] [] pos) (dLenSet ta) :=
  pe_imp (pe_lenSetA hg hm hg2 hm2 ha hc na) fun σ H Q ⟨ρ, m, q, p, h, post⟩ => ⟨ρ, m, _, p, h, fun d m1 v H1 ⟨a, ns, hd, hm1, hl, hq⟩ r1 s1 t1 => by
    subst hd
    cases r1
    obtain ⟨vs, hv, rs⟩ := s1 a _ hm1
    have e2 := reps_ints rs
    subst e2
    exact ⟨a, ns, rfl, SqL.of hv, hl, fun us nd hu => post _ m1 _ H1 (hq us nd hu) (.int _) s1 t1⟩⟩
/-- xs.index(y) -/
def lidxD : DRM := fun x ds m q => match x, ds with
  | .ref a, [y] => ∃ ps p j z, pyD m (.ref a) = some (.list ps) ∧ pyD m y = some p ∧ SeqAt.shaped (.list ps) = true ∧ SeqAt.shaped p = true ∧ ps[j]? = some z ∧ PyData.eqv z p = true ∧ (∀ (i : Nat) (z' : PyData), i < j → ps[i]? = some z' → PyData.eqv z' p = false) ∧ q (.int (j : Nat)) m
  | _, _ => False
theorem m_lidx (hu : X.A.units + 65 < cLine) : MtR X "list.index" (upM X.K lidxD) := by
  intro pins s σ H x xs v us Q I rx rv ⟨d, ds, m, q, r1, r2, sim, h, post⟩
  unfold lidxD at h
  split at h
  · rename_i a y
    obtain ⟨ps, p, j, z, e1, e2, s1, s2, hz, hzp, hno, hq⟩ := h
    cases r1
    cases r2 with
    | cons q1 q2 =>
      cases q2
      exact mt_indexD hu pins s σ H _ _ v us Q I rx rv ⟨a, _, p, ps, j, z, rfl, rfl, pyW_ok (pyA_ok sim 3) (.ref a) e1, pyW_ok (pyA_ok sim 3) q1 e2, s1, s2, hz, hzp, hno, post.here hq (.int _) sim⟩
  · exact h.elim
end
end L2.Lh

/-! try: n = d[k], except KeyError -/
namespace L2.Lh
open PySem PySem.Spec PyProof.Rows LamX
section
variable {X : Cx} {B : Bs}
def dTryKey (i : Nat) (ta tb : DTE) (ts : DTS) : DTS := fun E ρ m => ta ρ m fun x m1 => tb ρ m1 fun y m2 =>
  ∃ (a : Addr) (kvs : List (Key × D)) (k : Key), x = .ref a ∧ m2 a = some (.dK kvs) ∧ keyK y = some k ∧ (∀ d, valG kvs k = some d → E.nx (ρ.set i (some d)) m2) ∧ (valG kvs k = none → ts E ρ m2)
theorem ds_tryKey {x n : Str} {i : Nat} {a b : Expr} {suite : List Stmt} {b₀ : Stmt} {np pos pos' npos spos apos : Pos} {ta tb : DTE} {ts : DTS} {we : DWX}
    (hcalm : X.calm = true) (hu : X.A.units + 1 < cLine) (hs : X.stack = X.env :: X.outer) (hf : X.env.frame = some X.env.locals) (nodup : X.N.Nodup) (hex : PySem.W.exmOne X.K (.type "KeyError") (.type "KeyError") = some true) (tk : Takes X (upW X.K B we))
    (hA : ∀ (pn : List (Addr × Obj)) (xe : Value → Shared → Prop), PassesOwn (model X.prog X.w) X.A X.env xe → DE B (X.tr pn xe) a ta)
    (hB : ∀ (pn : List (Addr × Obj)) (xe : Value → Shared → Prop), PassesOwn (model X.prog X.w) X.A X.env xe → DE B (X.tr pn xe) b tb)
    (hSuite : ∀ (B' : Bs) (a : Addr) (pn : List (Addr × Obj)), DSs B' (X.suite a pn) (b₀ :: suite) ts) (hc : Names X x (.type "KeyError"))
    (hi : X.N[i]? = some n := by rfl) (hx : Loc X.env.scope n := by first | exact Or.inl rfl | exact Or.inr rfl) (hsw : swapsWith (.Subscript a b spos) (some (.Name n npos)) apos.line X.env = pure false := by rfl)
    (hfn : X.fn n = true ∨ X.env.scope.names.lookup n = some .local := by first | exact .inl rfl | exact .inr rfl | assumption) (hsl : NoSl b := by exact fun _ _ => rfl) :
    DS B X (.Try [.Assign [.Name n npos] (.Subscript a b spos) apos] [.ExceptHandler (some (.Name x np)) none (b₀ :: suite) pos'] [] [] pos) (dTryKey i ta tb ts) := by
  refine ps_imp (ps_try_only (tb := fun W => tSeq (tAsg (tDGetX W (upE X.K B ta) (upE X.K B tb)) (gName i)) tNext)
    (ts := fun _ _ _ F σ H => ∃ B', upS X.K B' ts F σ H) hs hf hc tk ?_ ?_) ?_
  · intro W pn xe tk' po'
    exact pss_cons (ps_set nodup hi hx (pe_dgetX hcalm hu tk' (hA pn xe po') (hB pn xe po') hsl) hsw hfn) pss_nil
  · intro a oe cls d pn hz hd
    exact ⟨fun pins s σ H F I ⟨B', h⟩ => (hSuite B' a _).run pins s σ H F I h⟩
  · rintro F σ H ⟨ρ, m, E, p, h, eo⟩
    refine ⟨ρ, m, _, p, h, fun x m1 v H1 h1 r1 s1 t1 => ⟨ρ, m1, _, p.next s1 t1, h1, fun y m2 w H2 h2 r2 s2 t2 => ?_⟩⟩
    obtain ⟨c, kvs, k, rfl, hm, hk, hyes, hno⟩ := h2
    have p2 := (p.next s1 t1).next s2 t2
    cases r1
    obtain ⟨kv, g1, g2⟩ := s2 c _ hm
    have ey := keyK_rep r2 hk
    subst ey
    refine ⟨c, valV kv k, rfl, .inl ⟨kv, k, .inl g1, rfl, rfl⟩, fun v hv => ?_, fun hv d => ?_⟩
    · rcases g2.val k with ⟨_, e2⟩ | ⟨d, v', e1, e2, rd⟩
      · rw [e2] at hv; cases hv
      · rw [e2] at hv; cases hv
        exact eo.nx _ m2 _ H2 (hyes d e1) (p2.env.set rd i) s2 (t1.trans t2)
    · rcases g2.val k with ⟨e1, _⟩ | ⟨d, v', _, e2, _⟩
      · exact ⟨true, hex, fun _ a ha => ⟨⟨H2, m2⟩, ρ, m2, E, ⟨p2.env, p2.sim, Step.refl _ _⟩, hno e1, eo.next (t1.trans t2)⟩, fun z => by cases z⟩
      · rw [e2] at hv; cases hv
end
end L2.Lh

/-! list(range(a, b)) -/
namespace L2.Lh
open PySem PySem.Spec PyProof.Rows LamX
section
variable {X : Cx} {B : Bs}
def dListRg2 (ta tb : DTE) : DTL := fun ρ m q => ta ρ m fun d m1 => tb ρ m1 fun e m2 => match d, e with
  | .int i, .int j => RgOk i j ∧ q (rngD i (j - i).toNat) m2
  | _, _ => False
theorem dl_listRg2 {a b : Expr} {ta tb : DTE} {p p2 pos pos2 : Pos} (hc : X.calm = true) (hg : Gl X "list") (hm : X.mg "list" = none) (hg2 : Gl X "range") (hm2 : X.mg "range" = none) (ha : DE B X a ta) (hb : DE B X b tb)
    (na : starEach [a, b] X.env = (false, eval a X.env) :: starEach [b] X.env := by rfl) (nb : starEach [b] X.env = (false, eval b X.env) :: starEach [] X.env := by rfl) (hp : (backTo pos2 (starEach [b] X.env)).any (·.1) = false := by rfl)
    (ne : starEach [Expr.Call (.Name "range" p2) [a, b] [] pos2] X.env = (false, eval (.Call (.Name "range" p2) [a, b] [] pos2) X.env) :: starEach [] X.env := by rfl) :
    DL B X (.Call (.Name "list" p) [.Call (.Name "range" p2) [a, b] [] pos2] [] pos) (dListRg2 ta tb) :=
  pe_imp (pe_listRg hc hg hm (prg_2 hg2 hm2 ha hb na nb hp) ne) fun σ H Q ⟨ρ, m, q, p, h, post⟩ => ⟨ρ, m, _, p, h, fun d m1 v H1 h1 r1 s1 t1 => ⟨ρ, m1, _, p.next s1 t1, h1, fun e m2 w H2 h2 r2 s2 t2 => by
    split at h2
    · rename_i i j
      cases r1
      cases r2
      obtain ⟨ok, h2⟩ := h2
      refine ⟨i, j, rfl, rfl, ok, fun l hl => PostL.lst (PostL.next post (t1.trans t2)) h2 hl ?_ s2⟩
      rw [rgV_eq]
      exact reps_rng i _
    · exact h2.elim⟩⟩
end
end L2.Lh

/-! repr of None, True, texts and the empty dict besides -/
namespace L2.Lh
open PySem PySem.Spec PyProof.Rows LamX
section
variable {X : Cx}
def reprX : DRC
  | [.bl b], m, q => q (.str (if b then "True" else "False")) m
  | [.non], m, q => q (.str "None") m
  | [.str x], m, q => (reprText x).length ≤ sizeLine ∧ q (.str (reprText x)) m
  | [.ref a], m, q => match m a with
    | some (.dK []) => q (.str "{}") m
    | _ => reprD [.ref a] m q
  | ds, m, q => reprD ds m q
theorem reprX_t {xs : List D} {m : Mem} {q : DQ} : reprX [.tup xs] m q = reprOf (.tup xs) m q := rfl
theorem reprX_f {xs : List D} {m : Mem} {q : DQ} : reprX [.ftup xs] m q = reprOf (.ftup xs) m q := rfl
theorem reprX_i {i : Int} {m : Mem} {q : DQ} : reprX [.int i] m q = (i.natAbs.log2 < 1920 ∧ q (.str (toString i)) m) := rfl
theorem reprX_n {m : Mem} {q : DQ} : reprX [.non] m q = q (.str "None") m := rfl
theorem reprX_b {b : Bool} {m : Mem} {q : DQ} : reprX [.bl b] m q = q (.str (if b then "True" else "False")) m := rfl
theorem reprX_s {x : Str} {m : Mem} {q : DQ} : reprX [.str x] m q = ((reprText x).length ≤ sizeLine ∧ q (.str (reprText x)) m) := rfl
theorem reprX_d {a : Addr} {m : Mem} {q : DQ} (h : m a = some (.dK [])) : reprX [.ref a] m q = q (.str "{}") m := by unfold reprX; dsimp only; rw [h]
theorem reprX_l {a : Addr} {xs : List D} {m : Mem} {q : DQ} (h : m a = some (.lst xs)) : reprX [.ref a] m q = reprOf (.ref a) m q := by unfold reprX; dsimp only; rw [h]; rfl
theorem c_reprX (hgd : X.A.guards = some []) (hu : X.A.units + 64 < cLine) : CallD X (.builtin "repr") reprX := by
  intro pins s σ H xs us Q I r ⟨ds, m, q, rs, sim, h, post⟩
  unfold reprX at h
  split at h
  · obtain ⟨v, rfl, rv⟩ := reps1 rs
    cases rv
    obtain ⟨u, rfl, rfl⟩ := vals1 r
    exact PySem.P.repr_of_bool ⟨.str _, H, I.tok _, ⟨_, rfl⟩, post.here h (.str _) sim⟩
  · obtain ⟨v, rfl, rv⟩ := reps1 rs
    cases rv
    obtain ⟨u, rfl, rfl⟩ := vals1 r
    exact PySem.P.repr_of_none ⟨.str _, H, I.tok _, ⟨_, rfl⟩, post.here h (.str _) sim⟩
  · obtain ⟨v, rfl, rv⟩ := reps1 rs
    cases rv
    obtain ⟨u, rfl, t, rfl⟩ := vals1 r
    exact PySem.P.repr_of_str ⟨.str _, H, I.tok _, ⟨_, rfl⟩, post.here h.2 (.str _) sim⟩ h.1
  · rename_i a
    split at h
    · rename_i e
      obtain ⟨v, rfl, rv⟩ := reps1 rs
      cases rv
      rw [Vals.ref1 r]
      obtain ⟨kv, hk, rk⟩ := sim a _ e
      have ek : kv = [] := by cases rk; rfl
      subst ek
      obtain ⟨_, hs, vs, rel, ob, es, ep, he, hc⟩ := (show ObjOk X.prog X.w H s.heap a (.dK []) from I.hok a _ hk)
      obtain ⟨hx, hd, _, hp, _⟩ := hc
      have ev : vs = [] := by cases rel; rfl
      subst ev
      have ee : es.toList = [] := by
        cases hl : es.toList with
        | nil => rfl
        | cons y ys => rw [hl] at hp; cases hp
      have rd : Reads s.heap (.ref a) (.dict []) (a :: [] ++ []) := .dict he hx.1 hd (by rw [ee]; exact .nil) (by rw [ee]; exact .nil)
      refine repr_of_reads' rd (by decide) (fun _ z => ?_) hgd (by show X.A.units + (_ + 1) < cLine; simp [PyData.depth, PyData.depthKv]; omega) (fun _ _ e => e) (fun h' u tk hk => ⟨.str _, H, I.kept hk, ⟨u, rfl⟩, post.here (by
        have es' : (PyData.dict []).shown = ("{}" : Str) := by decide +kernel
        rw [es']; exact h) (.str _) sim⟩) (by show (PyData.dict []).shown.length ≤ sizeLine; decide +kernel)
      simp only [List.append_nil, List.mem_singleton] at z
      rw [z] at hs
      simp at hs
    · exact c_repr hgd hu pins s σ H xs us Q I r ⟨_, m, q, rs, sim, h, post⟩
  · exact c_repr hgd hu pins s σ H xs us Q I r ⟨_, m, q, rs, sim, h, post⟩
def sortNS : DRLN := fun ds m q => match strsOf ds with
  | some ss => ss.length < 64 ∧ ∀ ys : List Str, ys.Perm ss → sortedS ys = true → q (ys.map D.str) m
  | none => False
theorem nl_sortedS : CallR X (.builtin "sorted") (upNL X.K sortNS) := by
  intro pins s σ H xs us Q I r ⟨a, ds, vs, m, q, e, ha, rs, hn, sim, h, post⟩
  subst e
  unfold sortNS at h
  split at h
  · rename_i ss es
    have e1 := strsOf_ok es
    subst e1
    have ev := Reps.ofStrs rs
    subst ev
    exact cr_sortedS pins s σ H _ us Q I r ⟨a, ss, rfl, SqL.of ha, h.1, fun ys p hp ho hp0 => post.lst (h.2 ys hp ho) hp0 (Reps.strs ys) sim⟩
  · exact h.elim
def sortN : DRLN := fun ds m q => match intsOf ds with
  | some ss => ss.length < 64 ∧ ∀ ys : List Int, ys.Perm ss → ys.Pairwise (· ≤ ·) → q (ys.map D.int) m
  | none => False
theorem nl_sorted : CallR X (.builtin "sorted") (upNL X.K sortN) := by
  intro pins s σ H xs us Q I r ⟨a, ds, vs, m, q, e, ha, rs, hn, sim, h, post⟩
  subst e
  unfold sortN at h
  split at h
  · rename_i ss es
    have e1 := intsOf_ok es
    subst e1
    have ev := Reps.ofInts rs
    subst ev
    exact cr_sorted pins s σ H _ us Q I r ⟨a, ss, rfl, SqL.of ha, h.1, fun ys p hp ho hp0 => post.lst (h.2 ys hp ho) hp0 (Reps.ints ys) sim⟩
  · exact h.elim
end
end L2.Lh

/-! d.update(e), dicts with nested keys -/
namespace L2.Lh
open PySem PySem.Spec PyProof.Rows LamX
def mergeG (kvs more : List (NestedKey × D)) : List (NestedKey × D) := more.foldl (fun acc p => putG acc p.1 p.2) kvs
theorem RepN.merge {K : PySem.W.Frag} {H : Hp} {more : List (NestedKey × D)} {ys : List (NestedKey × Addr × Value)} (g : RepN K H more ys) : ∀ {kvs : List (NestedKey × D)} {xs : List (NestedKey × Addr × Value)}, RepN K H kvs xs → RepN K H (mergeG kvs more) (storedAllH xs ys) := by
  induction g with
  | nil => intro kvs xs r; exact r
  | @cons p x ps xs' q _ ih =>
    intro kvs xs r
    obtain ⟨e, hk, v, rd, rv⟩ := q
    show RepN K H (mergeG (putG kvs p.1 p.2) ps) (storedAllH (storedH xs x.1 x.2.1 x.2.2) xs')
    rw [e]
    exact ih (r.put hk rd rv)
theorem RepN.keysEq {K : PySem.W.Frag} {H : Hp} {kvs : List (NestedKey × D)} {xs : List (NestedKey × Addr × Value)} (r : RepN K H kvs xs) : xs.map (·.1) = kvs.map (·.1) := by
  induction r with
  | nil => rfl
  | cons q _ ih => rw [List.map_cons, List.map_cons, ih, q.1]
theorem RawN.merged {P : Program} {w : World} {K : PySem.W.Frag} {H : Hp} {a b : Addr} {kvs more : List (NestedKey × D)} {es es2 : Array DictEntry} {ep ep2 : Nat} {xs ys : List (NestedKey × Addr × Value)} (r : RawN K H a kvs es ep xs) (g : RawN K H b more es2 ep2 ys) (hz : kvs.length + more.length ≤ sizeLine)
    {h' : Heap} (hm : h'.DictOfH (nestedKind P w) a (storedAllH xs ys)) : ∃ es' ep', rawIs a es' ep' h' ∧ RawN K H a (mergeG kvs more) es' ep' (storedAllH xs ys) := by
  obtain ⟨o, es', ep', h1, h2, h3, h4, _, h6⟩ := hm
  have rp := g.rel.merge r.rel
  refine ⟨es', ep', ⟨o, h1, h2, h3⟩, fun P' w' => ?_, h6, ?_, r.sys, rp⟩
  · rw [h4]
    refine List.map_congr_left fun x hx => ?_
    unfold entryOfKey
    have : (nestedKind P w).hash x.1 = (nestedKind P' w').hash x.1 := (rp.keys x hx).hash w w'
    rw [this]
  · have h1 := storedAllH_length ys xs
    have h2 := r.rel.len
    have h3 := g.rel.len
    omega
/-- d.update(e) -/
def updateD (x y : D) (m : Mem) (q : DQ) : Prop := match x, y with
  | .ref a, .ref b => ∃ kvs more, a ≠ b ∧ m a = some (.dN kvs) ∧ m b = some (.dN more) ∧ kvs.length + more.length ≤ sizeLine ∧ (kvs ≠ [] ∨ ∀ w : World, (more.map fun p => p.1.hash w).Nodup) ∧ q .non (m.set a (.dN (mergeG kvs more)))
  | _, _ => False
def dUpdate (to te : DTE) : DTE := fun ρ m q => to ρ m fun x m1 => isDict m1 x ∧ te ρ m1 fun y m2 => updateD x y m2 q
section
variable {X : Cx} {B : Bs} {o e : Expr} {to te : DTE} {apos cpos : Pos}
theorem de_update (hu : X.A.units + 64 < cLine) (ho : DE B X o to) (he : DE B X e te) (mm : M1 X o "update" apos e cpos := by exact ⟨rfl, rfl, rfl, rfl⟩) : DE B X (.Call (.Attribute o "update" apos) [e] [] cpos) (dUpdate to te) := by
  refine ⟨fun pins s σ H Q I ⟨ρ, m, q, p, h, post⟩ => ?_⟩
  refine wpAny_Call_method mm.base mm.few mm.line PySem.F.plainAttrs_dict PySem.F.slot_dict_update PySem.F.type_dict_update (thn (ho.run pins s σ H (fun v H1 => ∃ x m1, Rep X.K H1 x v ∧ Sim X.K H1 m1 ∧ Step H m H1 m1 ∧ isDict m1 x ∧ te ρ m1 fun y m2 => updateD x y m2 q) I ⟨ρ, m, _, p, h, fun x m1 v H1 h1 r1 s1 t1 => ⟨x, m1, r1, s1, t1, h1⟩⟩) fun u s1 ⟨vx, H1, I1, rx, x, m1, r1, sm1, t1, hd, h1⟩ => ?_)
  obtain ⟨a, rfl, rfl, t1', t2', _⟩ := isDict_at I1 sm1 r1 hd
  obtain rfl : u = Value.ref a := rx
  refine ⟨t1', t2', ?_⟩
  rw [mm.trees]
  refine Calls.callWith_builtin rfl (Calls.evalArgs_plain (Calls.spliced_cons (thn (he.run pins s1 σ H1 (fun v H2 => ∃ y m2, Rep X.K H2 y v ∧ Sim X.K H2 m2 ∧ Step H1 m1 H2 m2 ∧ updateD (.ref a) y m2 q) I1 ⟨ρ, m1, _, p.next sm1 t1, h1, fun y m2 v H2 h2 r2 s2 t2 => ⟨y, m2, r2, s2, t2, h2⟩⟩) fun iv s2 ⟨vy, H2, I2, ry, y, m2, r2, sm2, t2, h2⟩ => Calls.spliced_nil ?_)))
  unfold updateD at h2
  split at h2
  · rename_i a' b ea
    cases ea
    cases r2
    obtain rfl : iv = Value.ref b := ry
    obtain ⟨kvs, more, nab, ga, gb, hz, hap, hq⟩ := h2
    obtain ⟨es, ep, xs, e1, w1⟩ := sm2 a _ ga
    obtain ⟨es2, ep2, ys, e2, w2⟩ := sm2 b _ gb
    have hD1 := w1.dict I2.hok e1
    have hD2 := w2.dict I2.hok e2
    have l1 := w1.rel.len
    have l2 := w2.rel.len
    refine call_update_dictH (roomN hu) nab w2.sys hD1 hD2 ?_ (by omega) fun h' hd' ho' hs' => ?_
    · rcases hap with z | z
      · exact .inl fun e => z (List.length_eq_zero_iff.mp (by rw [l1, e]; rfl))
      · refine .inr ⟨keyed_apart nestedKind_stays hD2, ?_⟩
        have e := w2.rel.keysEq
        have : (ys.map fun x => (nestedKind X.prog X.w).hash x.1) = more.map fun p => p.1.hash X.w := by
          have h1 : (ys.map (·.1)).map (fun k => NestedKey.hash X.w k) = (more.map (·.1)).map (fun k => NestedKey.hash X.w k) := by rw [e]
          rw [List.map_map, List.map_map] at h1
          exact h1
        rw [this]
        exact z X.w
    · obtain ⟨es', ep', q1, q2⟩ := w1.merged w2 hz hd'
      have I3 : Inv X pins σ (upd H2 a (.ext (rawIs a es' ep'))) { s2 with heap := h' } :=
        d_write I2 (by rw [e1]; exact True.intro) hs' (let ⟨o, e, _⟩ := q1; ⟨o, e⟩) (ext_new q1)
      exact ⟨.non, _, I3, rfl, post _ _ _ _ hq .non (sm2.write ga ⟨es', ep', _, upd_same, q2.mono (upd_old sm2 ga)⟩) ((t1.trans t2).trans (Step.write sm2 ga))⟩
  · exact h2.elim
end
end L2.Lh

/-! d == {}, d != {}, d a dict with nested keys -/
namespace L2.Lh
open PySem PySem.Spec PyProof.Rows LamX PySem.W PySem.Calls
section
variable {prog : Program} {w : World} {A : Around} {E : Value → Shared → Prop} {s : Shared}
theorem samePairsZ {nm : String} {a b : Addr} {es es' : Array DictEntry} {ep ep' : Nat} {Q : Bool → Shared → Prop} (ha : (a == sysModules) = false) (hb : (b == sysModules) = false)
    (da : rawIs a es ep s.heap) (db : rawIs b es' ep' s.heap) (hz : es'.size = 0) (h : Q (es.size == 0) s) : wpAny (model prog w) A (Builtin.Dict.samePairs nm a b) Q E s := by
  obtain ⟨oa, hoa, _, hda⟩ := da
  obtain ⟨ob, hob, _, hdb⟩ := db
  unfold Builtin.Dict.samePairs Builtin.Dict.showsAll
  rw [if_neg (show ¬ (a == sysModules) = true by rw [ha]; exact Bool.false_ne_true), if_neg (show ¬ (b == sysModules) = true by rw [hb]; exact Bool.false_ne_true)]
  refine wpAny_bind (wpAny_pure (wpAny_bind (wpAny_pure ?_)))
  refine wpAny_bind (wpAny_dictEntries hoa hda ?_)
  dsimp only
  refine wpAny_bind (wpAny_dictEntries hob hdb ?_)
  by_cases hsz : es.size = es'.size
  case neg =>
    rw [if_pos (by simpa using hsz)]
    have hbf : (es.size == 0) = false := by rw [← hz]; simpa using hsz
    rw [hbf] at h
    exact wpAny_bind (wpAny_rule (wpAny_pure h))
  case pos =>
    have h0 : es.size = 0 := hsz.trans hz
    rw [if_neg (by rw [hsz]; simp)]
    refine wpAny_bind (wpAny_dictEpoch hoa hda ?_)
    refine wpAny_bind ?_
    rw [Std.Legacy.Range.forIn_eq_forIn_range']
    simp only [Std.Legacy.Range.size, Nat.sub_zero, Nat.add_sub_cancel, Nat.div_one]
    rw [h0] at h ⊢
    exact wpAny_pure (wpAny_pure h)
theorem raw_type {a : Addr} {es : Array DictEntry} {ep : Nat} (h : rawIs a es ep s.heap) : s.TypeIs (.ref a) "dict" := let ⟨o, ho, hc, _⟩ := h; ⟨o, ho, hc.1⟩
theorem eqZ {a b : Addr} {es es' : Array DictEntry} {ep ep' : Nat} {Q : Value → Shared → Prop} (ha : (a == sysModules) = false) (hb : (b == sysModules) = false)
    (da : rawIs a es ep s.heap) (db : rawIs b es' ep' s.heap) (hz : es'.size = 0) (hu : A.units < cLine) (h : Q (.bool (es.size == 0)) s) :
    wpAny (model prog w) A (compareOp .Eq (.ref a) (.ref b)) Q E s := by
  refine wpAny_richCompare_same_room (op := .Eq) (raw_type da) (raw_type db) PySem.F.slot_dict_eq (wpAny_call_entry PySem.F.slot_dict_eq (raw_type da) PySem.F.entry_dict_eq ?_ (PySem.F.args_dict_eq_2 _ _)) hu
  show wpAny _ _ (Builtin.Dict.dictSlotArgs "__eq__" ⟨[.ref a, .ref b], []⟩ >>= _) _ _ s
  refine wpAny_bind ?_
  unfold Builtin.Dict.dictSlotArgs
  refine wpAny_bind (wpAny_notOrdered_dict (raw_type da) ?_)
  show wpAny _ _ (pure (Value.ref a, Value.ref b)) _ _ s
  refine wpAny_pure ?_
  refine wpAny_bind (wpAny_isInstance (T := "dict") (raw_type db) PySem.F.sub_dict_dict ?_)
  simp only [Bool.not_true, Bool.false_eq_true, if_false]
  refine wpAny_bind (wpAny_pure (wpAny_bind (wpAny_pure ?_)))
  refine wpAny_bind (samePairsZ ha hb da db hz ?_)
  refine wpAny_pure ⟨_, rfl, ?_, ?_⟩
  · exact fun x => nomatch x
  · simpa using h
theorem neZ {a b : Addr} {es es' : Array DictEntry} {ep ep' : Nat} {Q : Value → Shared → Prop} (ha : (a == sysModules) = false) (hb : (b == sysModules) = false)
    (da : rawIs a es ep s.heap) (db : rawIs b es' ep' s.heap) (hz : es'.size = 0) (hu : A.units < cLine) (h : Q (.bool (!(es.size == 0))) s) :
    wpAny (model prog w) A (compareOp .NotEq (.ref a) (.ref b)) Q E s := by
  refine wpAny_richCompare_same_room (op := .NotEq) (raw_type da) (raw_type db) PySem.F.slot_dict_ne (wpAny_call_entry PySem.F.slot_dict_ne (raw_type da) PySem.F.entry_dict_ne ?_ (PySem.F.args_dict_ne_2 _ _)) hu
  show wpAny _ _ (Builtin.Dict.dictSlotArgs "__ne__" ⟨[.ref a, .ref b], []⟩ >>= _) _ _ s
  refine wpAny_bind ?_
  unfold Builtin.Dict.dictSlotArgs
  refine wpAny_bind (wpAny_notOrdered_dict (raw_type da) ?_)
  show wpAny _ _ (pure (Value.ref a, Value.ref b)) _ _ s
  refine wpAny_pure ?_
  refine wpAny_bind (wpAny_isInstance (T := "dict") (raw_type db) PySem.F.sub_dict_dict ?_)
  simp only [Bool.not_true, Bool.false_eq_true, if_false]
  refine wpAny_bind (wpAny_pure (wpAny_bind (wpAny_pure ?_)))
  refine wpAny_bind (samePairsZ ha hb da db hz ?_)
  refine wpAny_pure ⟨_, rfl, ?_, ?_⟩
  · exact fun x => nomatch x
  · simpa using h
end
/-- d == {} -/
def eqZD (neg : Bool) : DR2 := fun x y m q => match x, y with
  | .ref a, .ref b => ∃ kvs, m a = some (.dN kvs) ∧ m b = some (.dN []) ∧ q (.bl (if neg then !kvs.isEmpty else kvs.isEmpty)) m
  | _, _ => False
section
variable {X : Cx}
theorem raw_size {K : PySem.W.Frag} {H : Hp} {a : Addr} {kvs : List (NestedKey × D)} {es : Array DictEntry} {ep : Nat} {xs : List (NestedKey × Addr × Value)} (P : Program) (w : World) (r : RawN K H a kvs es ep xs) : es.size = kvs.length := by
  have h1 := congrArg List.length (r.ent P w)
  rw [List.length_map, Array.length_toList] at h1
  rw [h1, r.rel.len]
theorem d_eqZ (hu : X.A.units + 64 < cLine) : OpD X (compareOp .Eq) (eqZD false) := by
  intro pins s σ H x y v u Q I rx ry ⟨d, e, m, q, r1, r2, sim, h, post⟩
  unfold eqZD at h
  split at h
  · rename_i a b
    cases r1
    cases r2
    obtain ⟨kvs, ga, gb, hq⟩ := h
    obtain ⟨es, ep, xs, g1, w1⟩ := sim a _ ga
    obtain ⟨es2, ep2, ys, g2, w2⟩ := sim b _ gb
    obtain ⟨k1, _, _⟩ := I.hok a _ g1
    obtain ⟨k2, _, _⟩ := I.hok b _ g2
    have s1 := raw_size X.prog X.w w1
    have s2 := raw_size X.prog X.w w2
    obtain rfl : v = Value.ref a := rx
    obtain rfl : u = Value.ref b := ry
    refine eqZ w1.sys w2.sys k1 k2 s2 (by omega) ⟨.bl _, H, I, rfl, post.here hq ?_ sim⟩
    rw [s1]
    have : (kvs.length == 0) = (if false = true then !kvs.isEmpty else kvs.isEmpty) := by cases kvs <;> rfl
    rw [this]
    exact .bl _
  · exact h.elim
theorem d_neZ (hu : X.A.units + 64 < cLine) : OpD X (compareOp .NotEq) (eqZD true) := by
  intro pins s σ H x y v u Q I rx ry ⟨d, e, m, q, r1, r2, sim, h, post⟩
  unfold eqZD at h
  split at h
  · rename_i a b
    cases r1
    cases r2
    obtain ⟨kvs, ga, gb, hq⟩ := h
    obtain ⟨es, ep, xs, g1, w1⟩ := sim a _ ga
    obtain ⟨es2, ep2, ys, g2, w2⟩ := sim b _ gb
    obtain ⟨k1, _, _⟩ := I.hok a _ g1
    obtain ⟨k2, _, _⟩ := I.hok b _ g2
    have s1 := raw_size X.prog X.w w1
    have s2 := raw_size X.prog X.w w2
    obtain rfl : v = Value.ref a := rx
    obtain rfl : u = Value.ref b := ry
    refine neZ w1.sys w2.sys k1 k2 s2 (by omega) ⟨.bl _, H, I, rfl, post.here hq ?_ sim⟩
    rw [s1]
    have : (!(kvs.length == 0)) = (if true = true then !kvs.isEmpty else kvs.isEmpty) := by cases kvs <;> rfl
    rw [this]
    exact .bl _
  · exact h.elim
end
end L2.Lh

/-! str of an int -/
namespace L2.Lh
open PySem PySem.Spec PyProof.Rows LamX
section
variable {X : Cx}
def strD : DRC
  | [.int i], m, q => i.natAbs.log2 < 1920 ∧ q (.str (toString i)) m
  | _, _, _ => False
theorem strD_i {i : Int} {m : Mem} {q : DQ} : strD [.int i] m q = (i.natAbs.log2 < 1920 ∧ q (.str (toString i)) m) := rfl
theorem c_str : CallD X (.type "str") strD := by
  intro pins s σ H xs us Q I r ⟨ds, m, q, rs, sim, h, post⟩
  unfold strD at h
  split at h
  · obtain ⟨v, rfl, rv⟩ := reps1 rs
    cases rv
    obtain ⟨u, rfl, t, rfl⟩ := vals1 r
    exact PySem.P.str_of_int h.1 ⟨.str _, H, I.tok _, ⟨_, rfl⟩, post.here h.2 (.str _) sim⟩
  · exact h.elim
end
end L2.Lh

/-! an int or a dict among ints -/
namespace L2.Lh
open PySem PySem.Spec PyProof.Rows LamX PySem.W PySem.Calls PySem.SeqAt PySem.MeetsSeq
theorem int_eq_dict (b : Int) (u : Tok) (l : Addr) (dd : Option Addr) (es : Array DictEntry) (ep : Nat) (sl : Array (Option Value)) :
    Meets (Builtin.«int.__eq__» ⟨[.int b u, .ref l], []⟩) (fun _ R s => s.heap.get? l = some { cls := .type "dict", dict := dd, data := .dict es ep, slots := sl } ∧ R (.ok (.ret .notImplemented)) s) :=
  .of_wp fun prog w A R s h => by obtain ⟨hp, g, d, tk, os⟩ := s; obtain ⟨hl, h⟩ := h; wp_walk using wpAny_loadPart' hl, wpAny_load hl; exact ⟨_, rfl, h⟩
theorem dict_eq_int (b : Int) (u : Tok) (l : Addr) (dd : Option Addr) (es : Array DictEntry) (ep : Nat) (sl : Array (Option Value)) :
    Meets (Builtin.«dict.__eq__» ⟨[.ref l, .int b u], []⟩) (fun _ R s => s.heap.get? l = some { cls := .type "dict", dict := dd, data := .dict es ep, slots := sl } ∧ R (.ok (.ret .notImplemented)) s) :=
  .of_wp fun prog w A R s h => by obtain ⟨hp, g, d, tk, os⟩ := s; obtain ⟨hl, h⟩ := h; have f1 := F.sub_int_dict; wp_walk using wpAny_loadPart' hl, wpAny_load hl; exact ⟨_, rfl, h⟩
section
variable {A : Around} {s : Shared}
theorem RcAt.int_dict {l : Addr} (b : Int) (u : Tok) (hl : ∃ dd es ep sl, s.heap.get? l = some { cls := .type "dict", dict := dd, data := .dict es ep, slots := sl }) (hu : A.units < cLine) : RcAt A s (.int b u) (.ref l) false := fun prog w E Q h => by
  obtain ⟨dd, es, ep, sl, ho⟩ := hl
  exact rc_eq_decline_or (k := false) (typeIs_int s b u) ⟨_, ho, rfl⟩ (by decide) F.sub_dict_int F.slot_int_eq F.slot_dict_eq_refl
    (fun _ hq => call_meets F.slot_int_eq (typeIs_int s b u) F.entry_int_eq (F.args_int_eq_2 _ _) (int_eq_dict b u l dd es ep sl) ⟨ho, hq⟩)
    (fun _ hq => call_meets F.slot_dict_eq_refl ⟨_, ho, rfl⟩ F.entry_dict_eq (F.args_dict_eq_2 _ _) (dict_eq_int b u l dd es ep sl) ⟨ho, hq⟩)
    (fun _ hq => wpAny_of_eq (rfl : isSame (.int b u) (.ref l) = pure false) hq) (.inr hu) h
theorem EqAt.int_dict {l : Addr} (b : Int) (u : Tok) (hl : ∃ dd es ep sl, s.heap.get? l = some { cls := .type "dict", dict := dd, data := .dict es ep, slots := sl }) (hu : A.units < cLine) : EqAt A s (.int b u) (.ref l) false := fun prog w E Q h => by
  unfold eqBool
  refine wpAny_holding ?_
  refine wpAny_ite_split (fun hab => absurd (eq_of_beq hab) nofun) (fun _ => ?_)
  exact wpAny_bind (L2.Lh.RcAt.int_dict b u hl hu prog w E _ (wpAny_truthy_bool h))
end
/-- x in (1, 2, 3), x any thing, the empty dict too -/
def inX (neg : Bool) : DR2 := fun x y m q => match x, y with
  | .ref a, .tup ys => match m a, intsOf ys with
    | some (.dK []), some _ => q (.bl neg) m
    | _, _ => inA neg (.ref a) (.tup ys) m q
  | x, y => inA neg x y m q
theorem inX_d {a : Addr} {ns : List Int} {neg : Bool} {m : Mem} {q : DQ} (h : m a = some (.dK [])) : inX neg (.ref a) (.tup (ns.map D.int)) m q = q (.bl neg) m := by
  unfold inX; dsimp only; rw [h, intsOf_map]
theorem vals_ints : ∀ {ns : List Int} {us : List Value}, Vals (ns.map V.int) us → ∀ y ∈ us, ∃ n t, y = Value.int n t
  | [], _, r, y, hy => by cases r; cases hy
  | n :: ns, _, r, y, hy => by
    rw [List.map_cons] at r
    cases r with
    | cons q r =>
      rcases List.mem_cons.mp hy with rfl | z
      · obtain ⟨t, e⟩ := q
        exact ⟨n, t, e⟩
      · exact vals_ints r y z
section
variable {X : Cx}
theorem dK_obj {pins : List (Addr × Obj)} {σ : St} {H : Hp} {s : Shared} {m : Mem} {a : Addr} (I : Inv X pins σ H s) (sim : Sim X.K H m) (e : m a = some (.dK [])) : ∃ dd es ep sl, s.heap.get? a = some { cls := .type "dict", dict := dd, data := .dict es ep, slots := sl } := by
  obtain ⟨kv, hk, rk⟩ := sim a _ e
  have ek : kv = [] := by cases rk; rfl
  subst ek
  obtain ⟨_, hs, vs, rel, ob, es, ep, he, hc⟩ := (show ObjOk X.prog X.w H s.heap a (.dK []) from I.hok a _ hk)
  obtain ⟨hx, hd, _, hp, _⟩ := hc
  obtain ⟨cls, dd, data, sl⟩ := ob
  have h1 := hx.1
  simp only at h1 hd
  subst h1 hd
  exact ⟨dd, es, ep, sl, he⟩
theorem d_inX (hu : X.A.units + 65 < cLine) : OpD X (compareOp .In) (inX false) := by
  intro pins s σ H x y v u Q I rx ry ⟨dx, dy, m, q, r1, r2, sim, h, post⟩
  unfold inX at h
  split at h
  · rename_i a ys
    split at h
    · rename_i ns e1 e2
      have ei := intsOf_ok e2
      subst ei
      cases r1
      obtain rfl : v = Value.ref a := rx
      cases r2 with
      | tup g rs =>
        rename_i t _
        rw [reps_ints rs] at g
        obtain rfl : u = Value.ref t := ry
        obtain ⟨itv, rv, p, hz⟩ := I.tuple (SqT.of g)
        refine SeqAt.in_tupleAt (fun _ => false) (show s.heap.IsTuple t itv.toArray from p) (fun y hy => ?_) ⟨.bl _, H, I, rfl, post.here h ?_ sim⟩
        · obtain ⟨n, tk, rfl⟩ := vals_ints rv y (by simpa using hy)
          exact L2.Lh.EqAt.int_dict n tk (dK_obj I sim e1) (by show X.A.units + 1 < cLine; omega)
        · have : itv.toArray.any (fun _ => false) = false := by simp
          rw [this]
          exact .bl _
    · exact d_inA hu pins s σ H x y v u Q I rx ry ⟨_, _, m, q, r1, r2, sim, h, post⟩
  · exact d_inA hu pins s σ H x y v u Q I rx ry ⟨_, _, m, q, r1, r2, sim, h, post⟩
end
end L2.Lh

/-! an instance made by keywords -/
namespace L2.Lh
open PySem PySem.Spec PyProof.Rows LamX
def dMakeK (C : Addr) (sp : DSp) (we : DWX) (n : Nat) (ix : List Nat) (t : DTA) : DTE := fun ρ m q => t ρ m fun ds m1 => ds.length = n ∧ ∀ a, m1 a = none → sp (.ref a :: ix.map fun i => ds.getD i .non) (m1.set a (.ins C [])) (fun d m2 => d = .non ∧ q (.ref a) m2) fun cls m3 => we cls ρ m3
/-- self ahead, then the keywords' values in the parameters' order -/
def MkB (K : PySem.W.Frag) (fd : FuncData) (ps ks : List Str) (ix : List Nat) : Prop := ∀ (s : Shared) (u : Value) (ws : List Value), ws.length = ks.length → BindsTo s fd ⟨[u], ks.zip ws⟩ (ps.zip (u :: ix.map fun i => ws.getD i .none))
section
variable {X : Cx} {B : Bs} {t : DTA} {sp : DSp} {qe : Value → Mem → Prop} {x : Str} {p pos : Pos} {C f : Addr} {fd : FuncData} {k : Nat} {ps ks : List Str} {ix : List Nat} {kws : List Keyword}
theorem de_makeK {g : List Value → List Value → List Value} {gV : List V → List V → List V} (M : Mk X.K C f) (F : FnD X.prog X.w X.K X.mg X.base k f fd ps sp) (hb : KBn X.K fd ps 1 ks g gV) (hgV : ∀ (v : V) (zs : List V), zs.length = ks.length → gV [v] zs = v :: ix.map fun i => zs.getD i .non)
    (hix : ∀ i ∈ ix, i < ks.length) (hr : Room (k + 1) X.A) (hg : Gl X x) (hm : X.mg x = some (.ref C)) (tk : Takes X (upW X.K B fun cls _ m => qe cls m)) (hkw : DK B X kws t)
    (hall : (backToKw pos (keywordEach kws X.env)).all (·.1.isSome) = true := by rfl) (hks : (backToKw pos (keywordEach kws X.env)).filterMap (·.1) = ks := by rfl) (hdb : (x == ("__debug__" : Str)) = false := by decide)
    (hpl : ((backTo pos (starEach [] X.env)).any (·.1) || (backToKw pos (keywordEach kws X.env)).any (·.1.isNone)) = false := by rfl) :
    DE B X (.Call (.Name x p) [] kws pos) (dMakeK C sp (fun cls _ m => qe cls m) ks.length ix t) :=
  pe_imp (pe_makeK0 M F hr hg hm hb (passes0 tk) hkw hall hks hdb hpl) fun σ H Q ⟨ρ, m, q, pr, h, post⟩ => ⟨ρ, m, _, pr, h, fun ds m1 vs H1 h1 r1 s1 t1 => ⟨rfl, by rw [← r1.length]; exact h1.1, fun a dx na nd hne => by
    obtain ⟨hl, h1⟩ := h1
    rw [hgV _ _ (by rw [← r1.length]; exact hl)]
    have n2 : upd H1 dx (.own a) a = none := by rw [upd_ne hne.symm]; exact na
    have st : Step H1 m1 (upd (upd H1 dx (.own a)) a (.ins C dx [])) (m1.set a (.ins C [])) := (Step.alloc nd).trans (Step.allocM n2)
    have r2 := reps_perm r1 (ix := ix) (by rw [hl]; exact hix)
    refine ⟨.ref a :: (ix.map fun i => ds.getD i .non), m1.set a (.ins C []), _, _, .cons (.ref a) ((r2.mono (upd_new nd)).mono (upd_new n2)), (s1.alloc nd).allocM n2 ⟨dx, [], upd_same, .nil⟩, h1 a (s1.free na), fun d3 m3 v3 H3 ⟨e3, h3⟩ r3 s3 t3 => ?_, fun cls m3 H3 hq s3 t3 => ⟨rfl, m3, s3, (pr.st.trans t1).trans (st.trans t3), hq⟩⟩
    subst e3
    cases r3
    exact ⟨rfl, post _ m3 _ H3 h3 (.ref a) s3 (t1.trans (st.trans t3))⟩⟩⟩
theorem vals_permD {zs : List V} {ws : List Value} (r : Vals zs ws) : ∀ ix : List Nat, Vals (ix.map fun i => zs.getD i .non) (ix.map fun i => ws.getD i .none)
  | [] => .nil
  | i :: ix => by
    refine .cons ?_ (vals_permD r ix)
    show RelV (zs.getD i .non) (ws.getD i .none)
    cases e : zs[i]? with
    | some v =>
      obtain ⟨u, h1, h2⟩ := r.get e
      rw [List.getD_eq_getElem?_getD, List.getD_eq_getElem?_getD, e, h1]
      exact h2
    | none =>
      rw [List.getD_eq_getElem?_getD, List.getD_eq_getElem?_getD, e, r.none_of e]
      exact rfl
/-- a def's own keywords, self by its place -/
theorem mkB_of {K : PySem.W.Frag} {x qual : Str} {st : Stmt} {f : Addr} {fd : FuncData} {ps ks : List Str} {ix : List Nat} (F : Fun K x qual st f fd)
    (h : ∀ (kV doc pm : Value) (an : Option Addr) (cdv ct : Value) (u : Value) (ws : List Value), ws.length = ks.length → bindArgs (PySem.W.fnOf x qual (defArgs st) (defBody st) (defScope st) .none kV doc pm an cdv ct) ⟨[u], ks.zip ws⟩ = pure (ps.zip (u :: ix.map fun i => ws.getD i .none))) : MkB K fd ps ks ix := by
  obtain ⟨oc, od, kV, doc, pm, an, cdv, ct, osl, rfl, lk, hcd⟩ := F.ex
  exact fun s u ws hl => .of_eq (h kV doc pm an cdv ct u ws hl)
theorem kbn_of {K : PySem.W.Frag} (hb : MkB K fd ps ks ix) : KBn K fd ps 1 ks (fun us ws => us ++ ix.map fun i => ws.getD i .none) (fun vs zs => vs ++ ix.map fun i => zs.getD i .non) where
  to := fun s us ws _ l1 l2 => by
    match us, l1 with
    | [u], _ => exact hb s u ws l2
  rel := fun r1 r2 => r1.append (vals_permD r2 ix)
end
end L2.Lh

/-! d.values(), d.items(), enumerate(d): d a dict whose keys are tuples -/
namespace L2.Lh
open PySem PySem.Spec PyProof.Rows LamX
section
variable {X : Cx}
theorem raw_of {pins : List (Addr × Obj)} {σ : St} {H : Hp} {s : Shared} {a : Addr} {es : Array DictEntry} {ep : Nat} (I : Inv X pins σ H s) (h : H a = some (.ext (rawIs a es ep))) : s.heap.DictRaw a es ep := (I.hok a _ h).1
theorem raw_noDict {h : Heap} {a : Addr} {es : Array DictEntry} {ep : Nat} (r : h.DictRaw a es ep) : ∀ b, Value.ref a = .ref b → ∃ ob, h.get? b = some ob ∧ ob.dict = none :=
  fun b e => by injection e with e; subst e; exact let ⟨o, ho, hc, _⟩ := r; ⟨o, ho, hc.2.1⟩
def tRaw (td : TE) (Q : Addr → Array DictEntry → Nat → Hp → Prop) : St → Hp → Prop := fun σ H => td σ H fun x H1 => ∃ d es ep, x = .ref d ∧ (d == sysModules) = false ∧ H1 d = some (.ext (rawIs d es ep)) ∧ Q d es ep H1
theorem ev_values {e : Expr} {td : TE} {apos cpos : Pos} (he : PE X e td) (hbase : attributeBase e "values" X.env (eval e X.env) = eval e X.env) (hline : (apos.endLine == cpos.line) = true)
    {pins : List (Addr × Obj)} {s : Shared} {σ : St} {H : Hp} {Q : Addr → Array DictEntry → Nat → Hp → Prop} {R : Value → Shared → Prop} (I : Inv X pins σ H s) (h : tRaw td Q σ H)
    (fin : ∀ v d es ep H' s', s'.heap.IsValuesView v d → s'.heap.DictRaw d es ep → Inv X pins σ H' s' → Q d es ep H' → R (.ref v) s') :
    wpAny (model X.prog X.w) X.A (eval (.Call (.Attribute e "values" apos) [] [] cpos) X.env) R X.xe s := by
  refine wpAny_Call_method (T := "dict") (id := "dict.values") hbase rfl hline F.plainAttrs_dict F.slot_dict_values F.type_dict_values (thn (he.run pins s σ H _ I h) fun u s1 ⟨x, H1, I1, rx, d, es, ep, ex, hs, hd, q⟩ => ?_)
  subst ex
  obtain rfl : u = Value.ref d := rx
  have hm := raw_of I1 hd
  refine ⟨hm.typeIs, raw_noDict hm, ?_⟩
  have I2 : Inv X pins σ H1 { s1 with heap := s1.heap.push { cls := .type "dict_values", data := .fields #[.ref d] } } := I1.kept (t' := s1.toks) fun b ob q => Heap.get?_push_of_some _ q
  have hv : (s1.heap.push { cls := .type "dict_values", data := .fields #[.ref d] }).IsValuesView s1.heap.objs.size d := ⟨_, Heap.get?_push_size _ rfl, rfl, rfl⟩
  show wpAny _ _ (callWith cpos (.builtin "dict.values") [.ref d] [] []) _ X.xe s1
  exact method_meetsIn F.slot_dict_values F.entry_dict_values rfl (PySem.evalArgs_none ⟨rfl, hm.typeIs, F.args_dict_values_1 _, _, meets_dict_values_raw d hs, ⟨es, ep, hm⟩,
    fin _ d es ep H1 _ hv (hm.at fun o e => Heap.get?_push_of_some _ e) I2 q⟩)
theorem vals_of_map {α : Type} {f : α → V} {g : α → Value} : ∀ {xs : List α}, (∀ x ∈ xs, RelV (f x) (g x)) → Vals (xs.map f) (xs.map g)
  | [], _ => .nil
  | x :: xs, h => .cons (h x List.mem_cons_self) (vals_of_map fun y hy => h y (List.mem_cons_of_mem _ hy))
theorem pe_listVals {e : Expr} {td : TE} {p apos cpos pos : Pos} (hc : X.calm = true) (hg : Gl X "list") (hm : X.mg "list" = none) (he : PE X e td) (hbase : attributeBase e "values" X.env (eval e X.env) = eval e X.env) (hline : (apos.endLine == cpos.line) = true)
    (na : starEach [.Call (.Attribute e "values" apos) [] [] cpos] X.env = (false, eval (.Call (.Attribute e "values" apos) [] [] cpos) X.env) :: starEach [] X.env) :
    PE X (.Call (.Name "list" p) [.Call (.Attribute e "values" apos) [] [] cpos] [] pos)
      (fun σ H Q => tRaw td (fun d es ep H1 => es.size ≤ sizeLine ∧ ∃ vs, Vals vs (es.toList.map (·.val)) ∧ ∀ q, H1 q = none → Q (.ref q) (upd H1 q (.lst vs))) σ H) := by
  refine ⟨fun pins s σ H Q I h => ?_⟩
  refine Call_ (ld_blt I hg hm boot_list (PyProof.Rows.callWith_type1 (args_cons (ev_values he hbase hline I h fun v d es ep H1 s1 hv hr I1 ⟨hz, vs, hvs, q⟩ => args_nil ?_) na) na))
  refine PySem.W.kdl_call (KdlSrc.rawValues (r := v) (d := d) (es := es) (ep := ep)) (I1.ok.hd hc) ⟨hv, hr⟩ hz fun h' tk acc c' hk e' hi => ?_
  have ea : acc.toList = es.toList.map (·.val) := by
    have hl : acc.toList.length = es.size := by rw [Array.length_toList]; exact hi.1
    apply List.ext_getElem?
    intro j
    rw [List.getElem?_map]
    cases hj : acc.toList[j]? with
    | none =>
      have h1 := List.getElem?_eq_none_iff.mp hj
      rw [List.getElem?_eq_none (by rw [Array.length_toList]; omega)]
      rfl
    | some u =>
      obtain ⟨h2, rfl⟩ := hi.2 j u (by rw [← Array.getElem?_toList]; exact hj)
      rw [List.getElem?_eq_getElem (by rw [Array.length_toList]; exact h2), Array.getElem_toList]
      rfl
  refine ⟨.ref s1.heap.objs.size, upd H1 s1.heap.objs.size (.lst vs), I1.laid hk (Nat.le_refl _) (show ObjOk X.prog X.w _ _ _ (.lst vs) from ⟨?_, acc.toList, c', by rw [ea]; exact hvs, ?_⟩), rfl, q _ (I1.hok.fresh (Nat.le_refl _))⟩
  · rw [hvs.length, List.length_map, Array.length_toList]; exact hz
  · rw [Array.toArray_toList]; exact e'
theorem repN_vals {K : PySem.W.Frag} {H : Hp} : ∀ {kvs : List (NestedKey × D)} {xs : List (NestedKey × Addr × Value)}, RepN K H kvs xs → ∃ vs, Reps K H (kvs.map (·.2)) vs ∧ Vals vs (xs.map (·.2.2))
  | _, _, .nil => ⟨[], .nil, .nil⟩
  | _, _, .cons q r => by
    obtain ⟨vs, h1, h2⟩ := repN_vals r
    obtain ⟨_, _, v, h3, h4⟩ := q
    exact ⟨v :: vs, .cons h3 h1, .cons h4 h2⟩
theorem rawN_vals {P : Program} {w : World} {K : PySem.W.Frag} {H : Hp} {a : Addr} {kvs : List (NestedKey × D)} {es : Array DictEntry} {ep : Nat} {xs : List (NestedKey × Addr × Value)} (r : RawN K H a kvs es ep xs) : es.toList.map (·.val) = xs.map (·.2.2) := by
  rw [r.ent P w, List.map_map]; rfl
theorem rawN_size {P : Program} {w : World} {K : PySem.W.Frag} {H : Hp} {a : Addr} {kvs : List (NestedKey × D)} {es : Array DictEntry} {ep : Nat} {xs : List (NestedKey × Addr × Value)} (r : RawN K H a kvs es ep xs) : es.size = xs.length := by
  have e1 := congrArg List.length (r.ent P w)
  rw [List.length_map, Array.length_toList] at e1
  exact e1
end
section
variable {X : Cx} {B : Bs}
def dListVals (t : DTE) : DTL := fun ρ m q => t ρ m fun d m1 => ∃ a kvs, d = .ref a ∧ m1 a = some (.dN kvs) ∧ q (kvs.map (·.2)) m1
theorem dl_listVals {e : Expr} {te : DTE} {p apos cpos pos : Pos} (hc : X.calm = true) (hg : Gl X "list") (hm : X.mg "list" = none) (he : DE B X e te) (hbase : attributeBase e "values" X.env (eval e X.env) = eval e X.env := by rfl) (hline : (apos.endLine == cpos.line) = true := by rfl)
    (na : starEach [.Call (.Attribute e "values" apos) [] [] cpos] X.env = (false, eval (.Call (.Attribute e "values" apos) [] [] cpos) X.env) :: starEach [] X.env := by rfl) :
    DL B X (.Call (.Name "list" p) [.Call (.Attribute e "values" apos) [] [] cpos] [] pos) (dListVals te) :=
  pe_imp (pe_listVals hc hg hm he hbase hline na) fun σ H Q ⟨ρ, m, q, pr, h, post⟩ => ⟨ρ, m, _, pr, h, fun d m1 v H1 ⟨a, kvs, e1, e2, h1⟩ r1 s1 t1 => by
    subst e1
    cases r1
    obtain ⟨es, ep, xs, g1, g2⟩ := s1 a _ e2
    obtain ⟨vs, f1, f2⟩ := repN_vals g2.rel
    refine ⟨a, es, ep, rfl, g2.sys, g1, by rw [rawN_size (P := X.prog) (w := X.w) g2]; exact g2.sz, vs, by rw [rawN_vals (P := X.prog) (w := X.w) g2]; exact f2, fun p hp => ?_⟩
    exact post _ m1 p vs _ h1 upd_same (f1.mono (upd_new hp)) (s1.free hp) (by
      cases z : H p with
      | none => rfl
      | some o =>
        exfalso
        have := t1.dom p hp
        rw [z] at this; cases this) (s1.alloc hp) (t1.trans (Step.alloc hp))⟩
/-! ### items -/
def ItItm (d : Addr) (es : Array DictEntry) (ep : Nat) : It :=
  ⟨fun i H => H d = some (.ext (rawIs d es ep)) ∧ ∃ en b v, es[i]? = some en ∧ en.key = Value.ref b ∧ RelV v en.val,
    fun i H x H' => ∃ T en b v, es[i]? = some en ∧ en.key = Value.ref b ∧ RelV v en.val ∧ x = .ref T ∧ H T = none ∧ H' = upd H T (.tup [.ref b, v]),
    fun i H => H d = some (.ext (rawIs d es ep)) ∧ es.size ≤ i⟩
theorem turn_itm {P : Program} {w : World} {K : PySem.W.Frag} {elts : List Expr} {kk : Nat} {tpos : Pos} {d : Addr} {es : Array DictEntry} {ep : Nat} (it : Addr) :
    Turn P w K (.Tuple elts kk tpos) (ItItm d es ep) [it] it (fun i h => ∃ ok ov, IsItemIter h it d i es.size ep ok ov) where
  mem := by simp
  obj := fun i h st b hb => by
    have e : b = it := by simpa using hb
    subst e
    obtain ⟨ok, ov, e⟩ := st
    exact ⟨_, e, fun v z => nomatch z⟩
  keep := fun i h h' st k => let ⟨ok, ov, e⟩ := st; ⟨ok, ov, k it (by simp) _ e⟩
  item := by
    intro X hP hw hK hc i pins s σ H E I hf st ⟨hd, en, b, v, he, hb, rv⟩
    subst hP hw hK
    have hm := raw_of I hd
    obtain ⟨hlt', hen⟩ := Array.getElem?_eq_some_iff.mp he
    obtain ⟨ok, ov, hit⟩ := st
    have hlt : it < s.heap.objs.size := Heap.lt_size hit
    refine wpAny_pyNext_items_item_raw hit hm hlt' fun h' ho hT hz hk => ?_
    rw [hen] at ho hT
    refine ⟨_, rfl, wpAny_letOwnedTupleGo_items (s := { s with heap := h' }) ho fun h'' he' sb => ?_⟩
    have hT2 : h''.get? s.heap.objs.size = some { cls := .type "tuple", data := .seq #[en.key, en.val] } := (sb.2 _ (Nat.ne_of_gt hlt)).trans hT
    have new : ObjOk X.prog X.w (upd H s.heap.objs.size (.tup [.ref b, v])) h'' s.heap.objs.size (.tup [.ref b, v]) :=
      ⟨by show 2 ≤ sizeLine; decide, [en.key, en.val], .cons hb (.cons rv .nil), ⟨_, hT2, rfl, _, rfl⟩⟩
    have I1 : Inv X pins σ (upd H s.heap.objs.size (.tup [.ref b, v])) { s with heap := h'' } :=
      I.turnedNew (t' := s.toks) (ch := [it]) (fun c ob hb e => (sb.2 c (by simpa using hb)).trans (hk c ob (by simpa using hb) e)) hf (Nat.le_refl _) new
    refine ⟨.ref s.heap.objs.size, _, I1, rfl, ⟨_, en, b, v, he, hb, rv, rfl, I.hok.fresh (Nat.le_refl _), rfl⟩, ⟨en.key, en.val, he'⟩, fun c hc => ?_⟩
    have e : c = it := by simpa using hc
    rw [e, upd_ne (Nat.ne_of_lt hlt)]
    exact (hf it (by simp)).1
  done := by
    intro X hP hw hK hc i pins s σ H E I hf st ⟨hd, hi⟩
    subst hP hw hK
    obtain ⟨f0, f1, f2, f3, f4, f5⟩ := hf it (by simp)
    obtain ⟨ok, ov, hit⟩ := st
    exact wpAny_pyNext_items_end_raw (I.ok.hd hc) hit (raw_of I hd) hi fun h' eb => ⟨rfl, I.turned (t' := s.toks) (fun c ob hb e => eb c ob hb e) f0 f1 f3 f4 f5⟩
  self := fun A i s Q E st h => let ⟨_, _, e⟩ := st; PySem.W.kcp_self e h
def pairsD (ds : List D) (kvs : List (NestedKey × D)) : List D := List.zipWith (fun k p => D.tup [k, p.2]) ds kvs
def iItemsN (t : DTE) : DTI := fun ρ m q => t ρ m fun d m1 => ∃ a kvs, d = .ref a ∧ m1 a = some (.dN kvs) ∧ ∀ es ep ds, ds.map keyN = kvs.map (fun p => some p.1) → q ⟨pairsD ds kvs, fun m' => m' a = some (.dR kvs es ep ds)⟩ (m1.set a (.dR kvs es ep ds))
theorem repN_at {K : PySem.W.Frag} {H : Hp} : ∀ {kvs : List (NestedKey × D)} {xs : List (NestedKey × Addr × Value)}, RepN K H kvs xs → ∀ {i : Nat} {x : NestedKey × Addr × Value}, xs[i]? = some x → ∃ p v, kvs[i]? = some p ∧ Rep K H p.2 v ∧ RelV v x.2.2
  | _, _, .nil, i, x, e => by simp at e
  | _, _, .cons q r, 0, x, e => by
    simp only [List.getElem?_cons_zero, Option.some.injEq] at e
    subst e
    obtain ⟨_, _, v, h3, h4⟩ := q
    exact ⟨_, v, rfl, h3, h4⟩
  | _, _, .cons q r, i + 1, x, e => by
    simp only [List.getElem?_cons_succ] at e ⊢
    exact repN_at r e
theorem ItOk.itm {K : PySem.W.Frag} {a : Addr} {kvs : List (NestedKey × D)} {es : Array DictEntry} {ep : Nat} {ds : List D} {H0 : Hp} {m0 : Mem} (P : Program) (w : World) : ItOk K ⟨pairsD ds kvs, fun m' => m' a = some (.dR kvs es ep ds)⟩ (ItItm a es ep) H0 m0 where
  go := fun i d m H e s _ c => by
    obtain ⟨h1, xs, rw', rs⟩ := s a _ c
    unfold pairsD at e
    rw [List.getElem?_zipWith] at e
    cases hd : ds[i]? with
    | none => rw [hd] at e; cases e
    | some d0 =>
      obtain ⟨v, g1, g2⟩ := rs.get hd
      rw [List.getElem?_map] at g1
      cases hx : xs[i]? with
      | none => rw [hx] at g1; cases g1
      | some x =>
        rw [hx] at g1
        cases g1
        obtain ⟨p, v', k1, k2, k3⟩ := repN_at rw'.rel hx
        rw [hd, k1] at e
        cases e
        have he : es[i]? = some (entryOfKey (nestedKind P w) x) := by
          rw [← Array.getElem?_toList, rw'.ent P w, List.getElem?_map, hx]; rfl
        refine ⟨⟨h1, _, x.2.1, v', he, rfl, k3⟩, fun y H' ⟨T, en, b, v2, e2, e3, e4, e5, e6, e7⟩ => ?_⟩
        rw [he] at e2
        cases e2
        cases (show Value.ref x.2.1 = Value.ref b from e3)
        have := RelV.inj e4 k3
        subst this e5 e7
        exact ⟨.tup upd_same (.cons (g2.mono (upd_new e6)) (.cons (k2.mono (upd_new e6)) .nil)), s.alloc e6, Step.alloc e6⟩
  stop := fun m H s _ c => by
    obtain ⟨h1, xs, rw', rs⟩ := s a _ c
    refine ⟨h1, Nat.le_of_eq ?_⟩
    have e1 := rawN_size (P := P) (w := w) rw'
    have e2 := rs.length
    have e3 := rw'.rel.len
    rw [List.length_map] at e2
    unfold pairsD
    rw [List.length_zipWith, e1, e2, e3, Nat.min_self]
theorem di_itemsN {e : Expr} {te : DTE} {elts : List Expr} {kk : Nat} {apos cpos tpos : Pos} (he : DE B X e te) (hbase : attributeBase e "items" X.env (eval e X.env) = eval e X.env := by rfl) (hline : (apos.endLine == cpos.line) = true := by rfl) :
    DI B X (.Tuple elts kk tpos) (.Call (.Attribute e "items" apos) [] [] cpos) (iItemsN te) := by
  refine ⟨fun pins s σ H R inv ⟨ρ, m, q, p, hq, post⟩ => ?_⟩
  refine wpAny_Call_method (T := "dict") (id := "dict.items") hbase rfl hline F.plainAttrs_dict F.slot_dict_items F.type_dict_items (thn (he.run pins s σ H (fun v H1 => ∃ a kvs m1, v = .ref a ∧ Sim X.K H1 m1 ∧ Step H m H1 m1 ∧ m1 a = some (.dN kvs) ∧ ∀ es ep ds, ds.map keyN = kvs.map (fun p => some p.1) → q ⟨pairsD ds kvs, fun m' => m' a = some (.dR kvs es ep ds)⟩ (m1.set a (.dR kvs es ep ds))) inv
    ⟨ρ, m, _, p, hq, fun d m1 v H1 ⟨a, kvs, e1, e2, h1⟩ r1 s1 t1 => by subst e1; cases r1; exact ⟨a, kvs, m1, rfl, s1, t1, e2, h1⟩⟩) fun u s1 ⟨v, H1, I1, rv, a, kvs, m1, ev, sim, st, ea, hk⟩ => ?_)
  subst ev
  obtain rfl : u = Value.ref a := rv
  obtain ⟨es, ep, xs, g1, g2⟩ := sim a _ ea
  obtain ⟨ds, f1, f2⟩ := repN_forms g2.rel
  have hm := raw_of I1 g1
  refine ⟨hm.typeIs, raw_noDict hm, ?_⟩
  have I2 : Inv X pins σ H1 { s1 with heap := s1.heap.push { cls := .type "dict_items", data := .fields #[.ref a] } } := I1.kept (t' := s1.toks) fun b ob q => Heap.get?_push_of_some _ q
  have fin : wpAny (model X.prog X.w) X.A (pyIter (.ref s1.heap.objs.size)) (PIE X pins σ (.Tuple elts kk tpos) R) X.xe { s1 with heap := s1.heap.push { cls := .type "dict_items", data := .fields #[.ref a] } } := by
    refine wpAny_pyIter_items_raw (d := a) (es := es) (ep := ep) ⟨_, Heap.get?_push_size _ rfl, rfl, rfl⟩ (hm.at fun o e => Heap.get?_push_of_some _ e) (pi_one (tk := s1.toks) I2 _ (turn_itm _) ⟨.none, .none, ?_⟩
      (post _ _ _ _ (hk es ep ds f2) (ItOk.itm X.prog X.w) (sim_dR sim ⟨g1, xs, g2, f1⟩) (st.trans (step_dR ea))))
    exact Heap.get?_push_size _ rfl
  show wpAny _ _ (callWith cpos (.builtin "dict.items") [.ref a] [] []) _ X.xe s1
  exact method_meetsIn F.slot_dict_items F.entry_dict_items rfl (PySem.evalArgs_none ⟨rfl, hm.typeIs, F.args_dict_items_1 _, _, meets_dict_items_raw a g2.sys, ⟨es, ep, hm⟩, fin⟩)
end
end L2.Lh

/-! enumerate(d): d a dict whose keys are tuples -/
namespace L2.Lh
open PySem PySem.Spec PyProof.Rows LamX
section
variable {prog : Program} {w : World} {A : Around} {E : Value → Shared → Prop} {s : Shared}
theorem nextOf_key_item {it d : Addr} {i ep : Nat} {es : Array DictEntry} {Q : Value → Shared → Prop} (hit : s.heap.IsKeyIter it d i es.size ep) (hm : s.heap.DictRaw d es ep) (hlt' : i < es.size)
    (hQ : ∀ h', h'.IsKeyIter it d (i + 1) es.size ep → Heap.SameBut it s.heap h' → Q es[i].key { s with heap := h' }) : wpAny (model prog w) A (Builtin.SmallTypes.nextOf (.ref it)) Q E s := by
  obtain ⟨o, ho, hc, hd⟩ := id hit
  obtain ⟨od, hod, hcd, hdd⟩ := id hm
  unfold Builtin.SmallTypes.nextOf
  refine wpAny_bind (wpAny_callSpecial?_slot (name := Str.ofString "__next__") hit.typeIs F.slot_dict_keyiterator_next
    (wpAny_call_entry F.slot_dict_keyiterator_next hit.typeIs F.entry_dict_keyiterator_next ?_ (F.args_dict_keyiterator_next_1 _)))
  refine wpAny_bind (wpAny_pure ?_)
  refine wpAny_bind ?_
  refine wpAny_bind ?_
  first | refine wpAny_bind (wpAny_typeNameOfWhole_keyiter hit.typeIs (wpAny_pure ?_)) | refine wpAny_bind (wpAny_typeNameOf_keyiter hit.typeIs (wpAny_pure ?_))
  refine wpAny_bind (wpAny_fieldsOf ho hd ?_)
  have hown : Builtin.Dict_items.ownsTuple "dict_keyiterator" = false := by decide
  simp only [hown, Bool.false_eq_true, if_false]
  show wpAny _ _ (if (Value.ref d == Value.none) = true then _ else _) _ _ s
  rw [if_neg (show ¬ ((Value.ref d == Value.none) = true) from Bool.false_ne_true)]
  refine wpAny_bind (wpAny_pure ?_)
  refine wpAny_bind (wpAny_dictEntries hod hdd ?_)
  rw [if_neg (by simp)]
  refine wpAny_bind (wpAny_pure ?_)
  refine wpAny_bind (wpAny_dictEpoch hod hdd ?_)
  rw [if_neg (by simp)]
  refine wpAny_pure ?_
  simp only [show ¬ ((i : Int) < 0) from by omega, if_false, Int.toNat_natCast, Array.getElem?_eq_getElem hlt']
  refine wpAny_bind ?_
  first | refine wpAny_bind (wpAny_typeNameOfWhole_keyiter hit.typeIs (wpAny_pure ?_)) | refine wpAny_bind (wpAny_typeNameOf_keyiter hit.typeIs (wpAny_pure ?_))
  refine wpAny_bind (wpAny_isOneOf_keyiter hit.typeIs ?_)
  show wpAny _ _ (setField (.ref it) 1 (rawInt ((i : Int) + 1)) >>= _) _ _ s
  refine wpAny_bind (wpAny_setField ho hd (by simp) ?_)
  have hit' : (s.heap.update it (Obj.mapFields (·.setIfInBounds 1 (rawInt ((i : Int) + 1))))).IsKeyIter it d (i + 1) es.size ep :=
    ⟨_, Heap.get?_update_self _ ho (Obj.isFreed_of_fields (Obj.data_mapFields hd _)), (Obj.cls_mapFields ..).trans hc, by rw [Obj.data_mapFields hd]; simp [rawInt]⟩
  refine wpAny_bind (wpAny_holding ?_)
  refine wpAny_bind (wpAny_isOneOf_keyiter (s := { s with heap := s.heap.update it (Obj.mapFields (·.setIfInBounds 1 (rawInt ((i : Int) + 1)))) }) hit'.typeIs ?_)
  show wpAny _ _ (pure es[i].key) _ _ _
  exact wpAny_pure (wpAny_pure ⟨_, rfl, wpAny_pure (hQ _ hit' (Heap.SameBut.update ..))⟩)
theorem nextOf_key_end {it d : Addr} {i ep : Nat} {es : Array DictEntry} {Q : Value → Shared → Prop} (hh : A.handled = none) (hit : s.heap.IsKeyIter it d i es.size ep) (hm : s.heap.DictRaw d es ep) (hge : es.size ≤ i)
    (hE : ∀ h' e, Heap.ExtBut it s.heap h' → (∃ o, h'.get? e = some o ∧ o.cls = .type "StopIteration") → E (.ref e) { s with heap := h' }) : wpAny (model prog w) A (Builtin.SmallTypes.nextOf (.ref it)) Q E s := by
  obtain ⟨o, ho, hc, hd⟩ := id hit
  obtain ⟨od, hod, hcd, hdd⟩ := id hm
  unfold Builtin.SmallTypes.nextOf
  refine wpAny_bind (wpAny_callSpecial?_slot (name := Str.ofString "__next__") hit.typeIs F.slot_dict_keyiterator_next
    (wpAny_call_entry F.slot_dict_keyiterator_next hit.typeIs F.entry_dict_keyiterator_next ?_ (F.args_dict_keyiterator_next_1 _)))
  refine wpAny_bind (wpAny_pure ?_)
  refine wpAny_bind ?_
  refine wpAny_bind ?_
  first | refine wpAny_bind (wpAny_typeNameOfWhole_keyiter hit.typeIs (wpAny_pure ?_)) | refine wpAny_bind (wpAny_typeNameOf_keyiter hit.typeIs (wpAny_pure ?_))
  refine wpAny_bind (wpAny_fieldsOf ho hd ?_)
  have hown : Builtin.Dict_items.ownsTuple "dict_keyiterator" = false := by decide
  simp only [hown, Bool.false_eq_true, if_false]
  show wpAny _ _ (if (Value.ref d == Value.none) = true then _ else _) _ _ s
  rw [if_neg (show ¬ ((Value.ref d == Value.none) = true) from Bool.false_ne_true)]
  refine wpAny_bind (wpAny_pure ?_)
  refine wpAny_bind (wpAny_dictEntries hod hdd ?_)
  rw [if_neg (by simp)]
  refine wpAny_bind (wpAny_pure ?_)
  refine wpAny_bind (wpAny_dictEpoch hod hdd ?_)
  rw [if_neg (by simp)]
  refine wpAny_pure ?_
  simp only [show ¬ ((i : Int) < 0) from by omega, if_false, Int.toNat_natCast, Array.getElem?_eq_none hge]
  refine wpAny_bind ?_
  first | refine wpAny_bind (wpAny_typeNameOfWhole_keyiter hit.typeIs (wpAny_pure ?_)) | refine wpAny_bind (wpAny_typeNameOf_keyiter hit.typeIs (wpAny_pure ?_))
  show wpAny _ _ (setField (.ref it) 0 .none >>= _) _ _ s
  refine wpAny_bind (wpAny_setField ho hd (by simp) ?_)
  show wpAny _ _ (newExc (.type "StopIteration") [] >>= _) _ _ _
  refine wpAny_bind ?_
  simp only [newExc, newTuple]
  refine wpAny_bind (wpAny_newObj_type ?_ (by size_fits))
  refine wpAny_bind (m := firstArgMember _ _) (wpAny_of_eq (a := Value.none) (by first | rfl | (simp only [firstArgMember]; rfl)) ?_)
  refine wpAny_newObj_type ?_ (by size_fits)
  simp only [raiseNew]
  refine wpAny_bind (wpAny_handled ?_)
  first | rw [show A.in1.handled = none from hh] | rw [hh]
  refine wpAny_bind (wpAny_pure (wpAny_throw ?_))
  exact hE _ _ (((Heap.SameBut.update ..).extBut.push _).push _) ⟨_, Heap.get?_push_size _ rfl, rfl⟩
theorem Draws.keys (hh : A.handled = none) (it d : Addr) (hne : d ≠ it) (es : Array DictEntry) (ep : Nat) :
    Draws prog w A it [it, d] es.size (fun i v => ∃ hi : i < es.size, v = es[i].key) (fun i h => h.IsKeyIter it d i es.size ep ∧ h.DictRaw d es ep) where
  live := fun _ _ st => let ⟨o, ho, _⟩ := st.1; ⟨o, ho⟩
  frame := fun _ _ _ st hk => ⟨st.1.at fun o e => hk it (by simp) o e, st.2.at fun o e => hk d (by simp) o e⟩
  item := fun i s Q E hi st hQ => by
    refine nextOf_key_item st.1 st.2 hi fun h' hit' hs' => ?_
    exact hQ _ h' s.toks ⟨hi, rfl⟩ ⟨hit', st.2.at fun o e => hs'.extBut d o hne e⟩ hs'
  done := fun s Q E st hE => nextOf_key_end hh st.1 st.2 (Nat.le_refl _) hE
theorem enumNewD (t : Addr) (es : Array DictEntry) (ep : Nat) (ht : (t == sysModules) = false) :
    Meets (Builtin.«enumerate.__new__» ⟨[.type "enumerate", .ref t], []⟩) (fun _ R s₀ => s₀.heap.DictRaw t es ep ∧
      R (.ok (.ret (.ref (s₀.heap.push { cls := .type "dict_keyiterator", data := .fields #[.ref t, .int 0 0, .int es.size 0, .int ep 0] }).objs.size)))
        { s₀ with heap := (s₀.heap.push { cls := .type "dict_keyiterator", data := .fields #[.ref t, .int 0 0, .int es.size 0, .int ep 0] }).push { cls := .type "enumerate", data := .fields #[.none, .bool false, .ref s₀.heap.objs.size, rawInt 0, .none, .none] } }) :=
  .of_wp fun P₀ w₀ A₀ R₀ s₀ hyp => by
    obtain ⟨hp, gg, dd, tk, os⟩ := s₀
    obtain ⟨hm, hyp⟩ := hyp
    obtain ⟨ob, hob, hc, hd⟩ := id hm
    have hob' : (Shared.heap ⟨hp, gg, dd, tk, os⟩).get? t = some ob := hob
    have hsub := sub_enumerate
    wp_walk
    refine wpAny_stack_any fun st => wpAny_pure ?_
    split
    · rename_i c _ _ _ _ _
      cases (c == Value.type "enumerate") <;> (wp_walk using iter_keys ht hob' hc hd; exact ⟨_, rfl, hyp⟩)
    · wp_walk using iter_keys ht hob' hc hd
      exact ⟨_, rfl, hyp⟩
theorem enumCallD {t : Addr} {es : Array DictEntry} {ep : Nat} {Q : Value → Shared → Prop} (hs : (t == sysModules) = false) (hm : s.heap.DictRaw t es ep)
    (hyp : ∀ h₁, IsEnum h₁ (s.heap.objs.size + 1) s.heap.objs.size 0 .none → h₁.IsKeyIter s.heap.objs.size t 0 es.size ep → (∀ b o, s.heap.get? b = some o → h₁.get? b = some o) → Q (.ref (s.heap.objs.size + 1)) { s with heap := h₁ }) :
    wpAny (model prog w) A (call (.type "enumerate") [.ref t]) Q E s := by
  refine callType_new F.called_enumerate (by decide) (F.typeCall_enumerate_1 _) (F.newCall_enumerate_1 _) (fun obj => F.args_object_init_2 obj _) F.entry_enumerate_new (enumNewD t es ep hs) ⟨hm, ?_⟩
  have sz1 : (s.heap.push { cls := .type "dict_keyiterator", data := .fields #[.ref t, .int 0 0, .int es.size 0, .int ep 0] }).objs.size = s.heap.objs.size + 1 := Heap.size_push ..
  have isE : IsEnum ((s.heap.push { cls := .type "dict_keyiterator", data := .fields #[.ref t, .int 0 0, .int es.size 0, .int ep 0] }).push { cls := .type "enumerate", data := .fields #[.none, .bool false, .ref s.heap.objs.size, rawInt 0, .none, .none] }) (s.heap.objs.size + 1) s.heap.objs.size 0 .none := by
    rw [← sz1]
    exact Heap.get?_push_size _ rfl
  show _ ∧ _
  rw [sz1]
  exact ⟨⟨_, isE, rfl⟩, hyp _ isE ⟨_, Heap.get?_push_of_some _ (Heap.get?_push_size _ rfl), rfl, rfl⟩ fun b o x => Heap.get?_push_of_some _ (Heap.get?_push_of_some _ x)⟩
end
def ItEd (d : Addr) (es : Array DictEntry) (ep : Nat) : It :=
  ⟨fun i H => H d = some (.ext (rawIs d es ep)) ∧ ∃ en b, es[i]? = some en ∧ en.key = Value.ref b,
    fun i H x H' => ∃ T en b, es[i]? = some en ∧ en.key = Value.ref b ∧ x = .ref T ∧ H T = none ∧ H' = upd H T (.tup [.int (i : Nat), .ref b]),
    fun i H => H d = some (.ext (rawIs d es ep)) ∧ es.size = i⟩
theorem turnEd {P : Program} {w : World} {K : PySem.W.Frag} {elts : List Expr} {kk : Nat} {tpos : Pos} {d : Addr} {es : Array DictEntry} {ep : Nat} (en it : Addr) (nai : d ≠ it) (nei : en ≠ it) (nea : en ≠ d) :
    Turn P w K (.Tuple elts kk tpos) (ItEd d es ep) [en, it] en (fun i h => (∃ old, IsEnum h en it ((i : Nat) : Int) old) ∧ h.IsKeyIter it d i es.size ep) where
  mem := by simp
  obj := fun i h st b hb => by
    obtain ⟨⟨old, he⟩, o, ho, hc, hd⟩ := st
    rcases (show b = en ∨ b = it by simpa using hb) with z | z
    · subst z; exact ⟨_, he, fun v q => nomatch q⟩
    · subst z; exact ⟨o, ho, fun v q => by rw [hd] at q; cases q⟩
  keep := fun i h h' st k => by
    obtain ⟨⟨old, he⟩, hi⟩ := st
    exact ⟨⟨old, k en (by simp) _ he⟩, hi.at fun o q => k it (by simp) o q⟩
  item := by
    intro X hP hw hK hc i pins s σ H E I hf st ⟨hd, ent, b, he', hb⟩
    subst hP hw hK
    obtain ⟨⟨old, he⟩, hit⟩ := st
    have hm := raw_of I hd
    obtain ⟨hlt, hen⟩ := Array.getElem?_eq_some_iff.mp he'
    have len1 : en < s.heap.objs.size := Heap.lt_size he
    have lit : it < s.heap.objs.size := by obtain ⟨_, q, _⟩ := hit; exact Heap.lt_size q
    have D := Draws.keys (prog := X.prog) (w := X.w) (A := X.A.in1) (I.ok.hd hc) it d nai es ep
    refine wpAny_pyNext_enum_itemD D he ⟨hit, hm⟩ hlt nei (by simp [nei, nea]) fun y h₁ tk hy ho hst hT hsz hk => ?_
    obtain ⟨_, ey⟩ := hy
    rw [hen, hb] at ey
    subst ey
    refine ⟨_, rfl, wpAny_letOwnedTupleGo_enum (s := { s with heap := h₁, toks := tk + 1 }) ho fun h₂ he₂ sb => ?_⟩
    have hT2 : h₂.get? s.heap.objs.size = some { cls := .type "tuple", data := .seq #[.int i tk, .ref b] } := (sb.2 _ (Nat.ne_of_gt len1)).trans hT
    have new : ObjOk X.prog X.w (upd H s.heap.objs.size (.tup [.int (i : Nat), .ref b])) h₂ s.heap.objs.size (.tup [.int (i : Nat), .ref b]) :=
      ⟨by show 2 ≤ sizeLine; decide, [.int i tk, .ref b], .cons ⟨_, rfl⟩ (.cons rfl .nil), ⟨_, hT2, rfl, _, rfl⟩⟩
    have I1 : Inv X pins σ (upd H s.heap.objs.size (.tup [.int (i : Nat), .ref b])) { s with heap := h₂, toks := tk + 1 } :=
      I.turnedNew (ch := [en, it]) (fun c ob hb q => by
        have nb : c ≠ en ∧ c ≠ it := by
          constructor <;> intro z <;> exact hb (by simp [z])
        exact (sb.2 c nb.1).trans (hk c ob nb.1 nb.2 q)) hf (Nat.le_refl _) new
    refine ⟨.ref s.heap.objs.size, _, I1, rfl, ⟨_, ent, b, he', hb, rfl, I.hok.fresh (Nat.le_refl _), rfl⟩, ⟨⟨.ref b, ?_⟩, hst.1.at fun o q => (sb.2 it (Ne.symm nei)).trans q⟩, fun c hb => ?_⟩
    · rw [show ((i + 1 : Nat) : Int) = (i : Int) + 1 by omega]; exact he₂
    · have lb : c < s.heap.objs.size := by
        rcases (show c = en ∨ c = it by simpa using hb) with z | z
        · subst z; exact len1
        · subst z; exact lit
      rw [upd_ne (Nat.ne_of_lt lb)]
      exact (hf c hb).1
  done := by
    intro X hP hw hK hc i pins s σ H E I hf st ⟨hd, hi⟩
    subst hP hw hK
    obtain ⟨⟨old, he⟩, hit⟩ := st
    obtain ⟨f0, f1, f2, f3, f4, f5⟩ := hf it (by simp)
    have D := Draws.keys (prog := X.prog) (w := X.w) (A := X.A.in1) (I.ok.hd hc) it d nai es ep
    refine wpAny_pyNext_enum_endD D he ⟨by have q := hit; rw [← hi] at q; exact q, raw_of I hd⟩ fun h₁ eb => ⟨rfl, I.turned (t' := s.toks) (fun b o hb q => eb b o hb q) f0 f1 f3 f4 f5⟩
  self := fun A i s Q E st h => by obtain ⟨⟨_, he⟩, _⟩ := st; exact wpAny_pyIter_enum he h
theorem ItOk.enD {K : PySem.W.Frag} {a : Addr} {kvs : List (NestedKey × D)} {es : Array DictEntry} {ep : Nat} {ds : List D} {H0 : Hp} {m0 : Mem} (P : Program) (w : World) : ItOk K ⟨enumFrom 0 ds, fun m' => m' a = some (.dR kvs es ep ds)⟩ (ItEd a es ep) H0 m0 where
  go := fun i d m H e s _ c => by
    obtain ⟨h1, xs, rw', rs⟩ := s a _ c
    obtain ⟨e0, h0, hd⟩ := enumFrom_get ds 0 i d e
    obtain ⟨v, g1, g2⟩ := rs.get h0
    rw [List.getElem?_map] at g1
    cases hx : xs[i]? with
    | none => rw [hx] at g1; cases g1
    | some x =>
      rw [hx] at g1
      cases g1
      have he : es[i]? = some (entryOfKey (nestedKind P w) x) := by
        rw [← Array.getElem?_toList, rw'.ent P w, List.getElem?_map, hx]; rfl
      refine ⟨⟨h1, _, x.2.1, he, rfl⟩, fun y H' ⟨T, en, b, e2, e3, e5, e6, e7⟩ => ?_⟩
      rw [he] at e2
      cases e2
      cases (show Value.ref x.2.1 = Value.ref b from e3)
      subst e5 e7
      rw [hd, Nat.zero_add]
      exact ⟨.tup upd_same (.cons (.int _) (.cons (g2.mono (upd_new e6)) .nil)), s.alloc e6, Step.alloc e6⟩
  stop := fun m H s _ c => by
    obtain ⟨h1, xs, rw', rs⟩ := s a _ c
    refine ⟨h1, ?_⟩
    have e1 := rawN_size (P := P) (w := w) rw'
    have e2 := rs.length
    rw [List.length_map] at e2
    rw [enumFrom_length, e1, e2]
section
variable {X : Cx} {B : Bs}
def iEnumN (t : DTE) : DTI := fun ρ m q => t ρ m fun d m1 => ∃ a kvs, d = .ref a ∧ m1 a = some (.dN kvs) ∧ ∀ es ep ds, ds.map keyN = kvs.map (fun p => some p.1) → q ⟨enumFrom 0 ds, fun m' => m' a = some (.dR kvs es ep ds)⟩ (m1.set a (.dR kvs es ep ds))
theorem di_enumN {e : Expr} {te : DTE} {p pos tpos : Pos} {elts : List Expr} {kk : Nat} (hg : Gl X "enumerate") (hm : X.mg "enumerate" = none) (he : DE B X e te) (hs : starEach [e] X.env = [(false, eval e X.env)] := by rfl) :
    DI B X (.Tuple elts kk tpos) (.Call (.Name "enumerate" p) [e] [] pos) (iEnumN te) := by
  refine ⟨fun pins s σ H R inv ⟨ρ, m, q, pr, hq, post⟩ => ?_⟩
  have goal1 : wpAny (model X.prog X.w) X.A (spliced (backTo pos (starEach [e] X.env))) (fun us s1 => ∃ u H1 a kvs m1, us = [u] ∧ u = Value.ref a ∧ Inv X pins σ H1 s1 ∧ Sim X.K H1 m1 ∧ Step H m H1 m1 ∧ m1 a = some (.dN kvs) ∧ ∀ es ep ds, ds.map keyN = kvs.map (fun p => some p.1) → q ⟨enumFrom 0 ds, fun m' => m' a = some (.dR kvs es ep ds)⟩ (m1.set a (.dR kvs es ep ds))) X.xe s := by
    refine args_cons (thn (he.run pins s σ H (fun v H1 => ∃ a kvs m1, v = .ref a ∧ Sim X.K H1 m1 ∧ Step H m H1 m1 ∧ m1 a = some (.dN kvs) ∧ ∀ es ep ds, ds.map keyN = kvs.map (fun p => some p.1) → q ⟨enumFrom 0 ds, fun m' => m' a = some (.dR kvs es ep ds)⟩ (m1.set a (.dR kvs es ep ds))) inv
      ⟨ρ, m, _, pr, hq, fun d m1 v H1 ⟨a, kvs, e1, e2, h1⟩ r1 s1 t1 => by subst e1; cases r1; exact ⟨a, kvs, m1, rfl, s1, t1, e2, h1⟩⟩) fun u s1 ⟨v, H1, I1, rv, a, kvs, m1, ev, sim, st, ea, hk⟩ => args_nil ?_) hs
    subst ev
    exact ⟨u, H1, a, kvs, m1, rfl, rv, I1, sim, st, ea, hk⟩
  refine Call_ (ld_blt inv hg hm boot_enumerate (PyProof.Rows.callWith_type1 (thn goal1 fun us s1 ⟨u, H1, a, kvs, m1, e0, e1, I1, sim, st, ea, hk⟩ => ?_) hs rfl))
  subst e0 e1
  obtain ⟨es, ep, xs, g1, g2⟩ := sim a _ ea
  obtain ⟨ds, f1, f2⟩ := repN_forms g2.rel
  have hm' := raw_of I1 g1
  have la : a < s1.heap.objs.size := by obtain ⟨o, e, _⟩ := hm'; exact Heap.lt_size e
  refine enumCallD g2.sys hm' fun h₁ isE hit hk1 => wpAny_pyIter_enum isE ?_
  have I2 : Inv X pins σ H1 { s1 with heap := h₁ } := I1.kept (t' := s1.toks) hk1
  have fresh : ∀ b ∈ [s1.heap.objs.size + 1, s1.heap.objs.size], FpOk X pins H1 b := fun b hb => by
    have hle : s1.heap.objs.size ≤ b := by
      rcases (show b = s1.heap.objs.size + 1 ∨ b = s1.heap.objs.size by simpa using hb) with z | z
      · rw [z]; exact Nat.le_succ _
      · rw [z]; exact Nat.le_refl _
    exact I1.fpOk hle (I1.hok.fresh hle)
  exact ⟨s1.heap.objs.size + 1, [s1.heap.objs.size + 1, s1.heap.objs.size], _, _, H1, rfl, I2, turnEd (s1.heap.objs.size + 1) s1.heap.objs.size (Nat.ne_of_lt la) (Nat.succ_ne_self _) (Nat.ne_of_gt (Nat.lt_succ_of_lt la)), ⟨⟨.none, isE⟩, hit⟩, fresh,
    post _ _ _ _ (hk es ep ds f2) (ItOk.enD X.prog X.w) (sim_dR sim ⟨g1, xs, g2, f1⟩) (st.trans (step_dR ea))⟩
end
end L2.Lh

/-! a text so many times: some text -/
namespace L2.Lh
open PySem PySem.Spec PyProof.Rows LamX
section
variable {X : Cx}
def mulX : DR2 := fun x y m q => match x, y with
  | .str a, .int k => 0 ≤ k ∧ k ≤ 1000 ∧ a.length ≤ 1000 ∧ ∀ b, q (.str b) m
  | x, y => mulG x y m q
theorem mulX_t {xs : List D} {y : D} {m : Mem} {q : DQ} : mulX (.tup xs) y m q = mulG (.tup xs) y m q := rfl
theorem mulX_i {i : Int} {y : D} {m : Mem} {q : DQ} : mulX (.int i) y m q = mulG (.int i) y m q := rfl
theorem mulX_r {a : Addr} {y : D} {m : Mem} {q : DQ} : mulX (.ref a) y m q = mulG (.ref a) y m q := rfl
theorem d_mulX : OpD X (binaryOp .Mult) mulX := by
  intro pins s σ H x y v u Q I rx ry ⟨dx, dy, m, q, r1, r2, sim, h, post⟩
  unfold mulX at h
  split at h
  · rename_i a k
    obtain ⟨k0, k1, hz, hq⟩ := h
    cases r1
    cases r2
    obtain ⟨t, rfl⟩ := rx
    obtain ⟨t', rfl⟩ := ry
    have fin : ∀ (b : Str) (s' : Shared), Inv X pins σ H s' → ∀ tk, EP X pins σ Q (.str b tk) s' := fun b s' I' tk => ⟨.str b, H, I', ⟨tk, rfl⟩, post.here (hq b) (.str b) sim⟩
    refine P.mul_str (by
      rw [decide_eq_false (by omega), decide_eq_false (by omega)]; rfl) (fun h1 _ => ?_) (fun h1 _ => ?_) ?_
    · have h2 : (1000 : Int) ≤ (2 ^ 63 - 1) / k := by
        rw [Int.le_ediv_iff_mul_le (by omega)]
        have : (1000 : Int) * k ≤ 1000 * 1000 := Int.mul_le_mul_of_nonneg_left k1 (by omega)
        omega
      omega
    · have h3 : a.length * k.toNat ≤ 1000 * 1000 := Nat.mul_le_mul hz (by omega)
      show decide (a.length * k.toNat > sizeLine) = false
      rw [sizeLine_eq]
      exact decide_eq_false (by omega)
    · split
      · exact ⟨by decide, fin _ _ (I.tok _) _⟩
      · split
        · exact fin _ _ I _
        · refine ⟨?_, fin _ _ (I.tok _) _⟩
          have h3 : a.length * k.toNat ≤ 1000 * 1000 := Nat.mul_le_mul hz (by omega)
          have e : ∀ (n : Nat) (acc : Array Nat), ((List.replicate n a.cps).foldl (· ++ ·) acc).size = acc.size + a.cps.size * n := by
            intro n
            induction n with
            | zero => intro acc; simp
            | succ n ih => intro acc; rw [List.replicate_succ, List.foldl_cons, ih, Array.size_append, Nat.mul_succ]; omega
          show ((List.replicate k.toNat a.cps).foldl (· ++ ·) #[]).size ≤ sizeLine
          rw [e, sizeLine_eq]
          have : a.cps.size * k.toNat ≤ 1000 * 1000 := h3
          simp
          omega
  · exact d_mulG pins s σ H x y v u Q I rx ry ⟨dx, dy, m, q, r1, r2, sim, h, post⟩
end
end L2.Lh

/-! sorted(xs), xs a list or the keys of a dict: tuples of whole numbers, all of one length -/
namespace L2.Lh
open PySem PySem.Spec PyProof.Rows LamX
section
open TS
variable {prog : Program} {w : World} {A : Around} {E : Value → Shared → Prop} {s : Shared}
theorem sort_tups0 {a : Addr} {vs : List Value} {n d : Nat} {B : Int} {P : PySem.Fin → Shared → Prop} (ho : s.heap.get? a = some (seqObj "list" vs.toArray n)) (h64 : vs.length < 64) (hd : 2 ≤ vs.length → 1 ≤ d) (x : TupsOk s.heap d B vs)
    (r : Value → Int) (hr : ∀ v, v ∈ vs → ∀ ns, TupInts s.heap v ns → r v = TS.code B ns)
    (h : ∀ out : Array Value, out.toList.Perm vs → out.toList.Pairwise (fun u v => r u ≤ r v) → P (.done (.ret .none)) { s with heap := sortedHeap s.heap a vs out }) :
    wpAny (model prog w) A (Builtin.«list.sort» ⟨[.ref a], []⟩) P E s := by
  have keep : ∀ b o, s.heap.get? b = some o → o.cls = .type "tuple" → (midHeap s.heap a vs).get? b = some o := fun b o e hc => by
    refine midHeap_old ?_ e
    rintro rfl
    rw [ho] at e
    have e' : seqObj "list" vs.toArray n = o := Option.some.inj e
    rw [← e'] at hc
    have c' : Value.type "list" = Value.type "tuple" := hc
    injection c' with c''
    exact absurd c'' (by decide)
  refine SK.plain_sort (r := r) ho h64 (fun h2 Q hQ => ?_) fun ps out h1 h2 h3 => ?_
  · refine kind_tups (s := { s with heap := midHeap s.heap a vs }) (hd h2) h2 (x.keeps keep) r (fun v hv ns t => ?_) Q hQ
    obtain ⟨ns0, t0, _⟩ := x v hv
    have e : ns = ns0 := t.ints.symm.trans (t0.keeps keep).ints
    rw [e]
    exact hr v hv ns0 t0
  · obtain ⟨p, o⟩ := out_rank h1 h2 h3
    exact h out p o
theorem sorted_gen {l : Addr} {vs : List Value} {d : Nat} {B : Int} {Q : Value → Shared → Prop}
    (hcol : ∀ R : List Value → Shared → Prop, (∀ (h' : Heap) (tk : Nat), (∀ b o, s.heap.get? b = some o → h'.get? b = some o) → R vs { s with heap := h', toks := tk }) → wpAny (model prog w) A.in1 (collect (.ref l)) R E s)
    (h64 : vs.length < 64) (hd : 2 ≤ vs.length → 1 ≤ d) (x : TupsOk s.heap d B vs)
    (h : ∀ (h' h2 : Heap) (tk : Nat) (out : Array Value) (c : Nat), (∀ b o, s.heap.get? b = some o → h'.get? b = some o) → (∀ b o, h'.get? b = some o → h2.get? b = some o) → h2.get? h'.objs.size = some (seqObj "list" out c) → out.toList.Perm vs →
      out.toList.Pairwise (fun u v => TS.code B (TS.intsOf s.heap u) ≤ TS.code B (TS.intsOf s.heap v)) → Q (.ref h'.objs.size) { s with heap := h2, toks := tk }) :
    wpAny (model prog w) A (call (.builtin "sorted") [.ref l]) Q E s := by
  refine Calls.call_function_entry kind_sorted plain_sorted entry_sorted (args_sorted1 _) ?_
  unfold Builtin.«sorted»
  refine wpAny_bind (m := checkCount "sorted" 1 1 _) (wpAny_pure ?_)
  refine wpAny_bind (hcol _ fun h' tk k1 => ?_)
  refine wpAny_bind (wpAny_newList ?_ (by rw [sizeLine_eq]; omega))
  have hoL : (h'.push (seqObj "list" vs.toArray 0)).get? h'.objs.size = some (seqObj "list" vs.toArray 0) := Heap.get?_push_size _ rfl
  have keep : ∀ b o, s.heap.get? b = some o → o.cls = .type "tuple" → (h'.push (seqObj "list" vs.toArray 0)).get? b = some o := fun b o q _ => Heap.get?_push_of_some _ (k1 b o q)
  refine wpAny_bind (wpAny_holding (wpAny_call_entry (s := { s with heap := h'.push (seqObj "list" vs.toArray 0), toks := tk }) slot_list_sort ⟨_, hoL, rfl⟩ entry_list_sort (sort_tups0 (s := { s with heap := h'.push (seqObj "list" vs.toArray 0), toks := tk }) hoL h64 hd (x.keeps keep) (fun v => TS.code B (TS.intsOf s.heap v)) (fun v hv ns t => ?_) fun out a1 a2 => ⟨_, rfl, ?_⟩) (args_list_sort _)))
  · obtain ⟨ns0, t0, _⟩ := x v hv
    have e : ns = ns0 := t.ints.symm.trans (t0.keeps keep).ints
    rw [e]
    show TS.code B (TS.intsOf s.heap v) = TS.code B ns0
    rw [t0.ints]
  · obtain ⟨c, hc⟩ := sortedHeap_at (vs := vs) (out := out) hoL
    refine wpAny_pure ⟨_, rfl, h h' _ tk out c k1 (fun b u q => ?_) hc a1 a2⟩
    have hlt := Heap.lt_size q
    show (sortedHeap (h'.push (seqObj "list" vs.toArray 0)) h'.objs.size vs out).get? b = some u
    rw [sortedHeap_old (Nat.ne_of_lt hlt) (by rw [size_push']; exact Nat.lt_succ_of_lt hlt)]
    exact Heap.get?_push_of_some _ q
end
/-- two lists told item by item -/
inductive Two {α β : Type} (R : α → β → Prop) : List α → List β → Prop
  | nil : Two R [] []
  | cons {a b as bs} : R a b → Two R as bs → Two R (a :: as) (b :: bs)
theorem Two.perm {α β : Type} {R : α → β → Prop} {vs out : List β} (h : out.Perm vs) : ∀ {ds : List α}, Two R ds vs → ∃ ys, Two R ys out ∧ ys.Perm ds := by
  induction h with
  | nil => intro ds t; cases t; exact ⟨[], .nil, .nil⟩
  | cons x p ih =>
    intro ds t
    cases t with
    | cons r t =>
      obtain ⟨ys, h1, h2⟩ := ih t
      exact ⟨_ :: ys, .cons r h1, h2.cons _⟩
  | swap x y l =>
    intro ds t
    cases t with
    | cons r t => cases t with
      | cons r2 t => exact ⟨_, .cons r2 (.cons r t), .swap _ _ _⟩
  | trans p1 p2 ih1 ih2 =>
    intro ds t
    obtain ⟨ys, h1, h2⟩ := ih2 t
    obtain ⟨zs, h3, h4⟩ := ih1 h1
    exact ⟨zs, h3, h4.trans h2⟩
theorem Two.mem {α β : Type} {R : α → β → Prop} {as : List α} {bs : List β} (h : Two R as bs) : ∀ {b}, b ∈ bs → ∃ a ∈ as, R a b := by
  induction h with
  | nil => intro b hb; cases hb
  | cons r t ih =>
    intro b hb
    rcases List.mem_cons.mp hb with rfl | hb
    · exact ⟨_, List.mem_cons_self, r⟩
    · obtain ⟨a, h1, h2⟩ := ih hb
      exact ⟨a, List.mem_cons_of_mem _ h1, h2⟩
theorem Two.mem' {α β : Type} {R : α → β → Prop} {as : List α} {bs : List β} (h : Two R as bs) : ∀ {a}, a ∈ as → ∃ b ∈ bs, R a b := by
  induction h with
  | nil => intro b hb; cases hb
  | cons r t ih =>
    intro b hb
    rcases List.mem_cons.mp hb with rfl | hb
    · exact ⟨_, List.mem_cons_self, r⟩
    · obtain ⟨a, h1, h2⟩ := ih hb
      exact ⟨a, List.mem_cons_of_mem _ h1, h2⟩
theorem Two.pairs {α β : Type} {R : α → β → Prop} {P : α → α → Prop} {Q : β → β → Prop} {as : List α} {bs : List β} (h : Two R as bs) (hQ : bs.Pairwise Q) (hPQ : ∀ a b a' b', R a b → R a' b' → Q b b' → P a a') : as.Pairwise P := by
  induction h with
  | nil => exact .nil
  | cons r t ih =>
    obtain ⟨h1, h2⟩ := List.pairwise_cons.mp hQ
    refine List.pairwise_cons.mpr ⟨fun a' ha => ?_, ih h2⟩
    obtain ⟨b', hb, r'⟩ := t.mem' ha
    exact hPQ _ _ _ _ r r' (h1 b' hb)
def rowI : D → Option (List Int)
  | .tup xs => intsOf xs
  | .ftup xs => intsOf xs
  | _ => none
def RowsD (d : Nat) (B : Int) (xs : List D) : Prop := ∀ x ∈ xs, ∃ ns, rowI x = some ns ∧ ns.length = d ∧ TS.Bd B ns
def RowsUp (B : Int) (ys : List D) : Prop := ys.Pairwise fun x y => ∀ n m, rowI x = some n → rowI y = some m → TS.code B n ≤ TS.code B m
def sortT : DRL := fun d m q => match d with
  | .ref a => match m a with
    | some (.lst xs) => xs.length < 64 ∧ ∃ d B, (2 ≤ xs.length → 1 ≤ d) ∧ RowsD d B xs ∧ ∀ ys, ys.Perm xs → RowsUp B ys → q ys m
    | some (.dN kvs) => kvs.length < 64 ∧ ∃ d B, (2 ≤ kvs.length → 1 ≤ d) ∧ ∀ es ep ds, ds.map keyN = kvs.map (fun p => some p.1) → RowsD d B ds ∧ ∀ ys, ys.Perm ds → RowsUp B ys → q ys (m.set a (.dR kvs es ep ds))
    | _ => False
  | _ => False
section
variable {X : Cx} {pins : List (Addr × Obj)} {σ : St} {H : Hp} {s : Shared}
def RepU (K : PySem.W.Frag) (H : Hp) (d : D) (v : Value) : Prop := ∃ z, Rep K H d z ∧ RelV z v
theorem repU_of {K : PySem.W.Frag} : ∀ {ds : List D} {zs : List V} {vs : List Value}, Reps K H ds zs → Vals zs vs → Two (RepU K H) ds vs
  | _, _, _, .nil, .nil => .nil
  | _, _, _, .cons r t, .cons r2 t2 => .cons ⟨_, r, r2⟩ (repU_of t t2)
theorem repU_to {K : PySem.W.Frag} {ds : List D} {vs : List Value} (h : Two (RepU K H) ds vs) : ∃ zs, Reps K H ds zs ∧ Vals zs vs := by
  induction h with
  | nil => exact ⟨[], .nil, .nil⟩
  | cons r t ih =>
    obtain ⟨z, h1, h2⟩ := r
    obtain ⟨zs, h3, h4⟩ := ih
    exact ⟨z :: zs, .cons h1 h3, .cons h2 h4⟩
theorem repU_row (I : Inv X pins σ H s) {d : D} {v : Value} {ns : List Int} (h : RepU X.K H d v) (e : rowI d = some ns) : TS.TupInts s.heap v ns := by
  obtain ⟨z, h1, h2⟩ := h
  cases h1 with
  | tup e1 q1 =>
    have e := intsOf_ok e
    subst e
    have ev := q1.ofInts
    subst ev
    cases h2
    exact tupI_raw I (SqT.of e1)
  | ftup e1 _ q1 =>
    have e := intsOf_ok e
    subst e
    have ev := q1.ofInts
    subst ev
    cases h2
    exact tupI_raw I (.inl (.inr ⟨_, e1⟩))
  | _ => cases e
theorem l_sortT (hc : X.calm = true) : CallR X (.builtin "sorted") (upCL X.K sortT) := by
  intro pins s σ H xs us Q I r ⟨d, v, m, q, e, rd, sim, h, post⟩
  subst e
  unfold sortT at h
  cases d with
  | ref a =>
    cases rd
    rw [Vals.ref1 r]
    dsimp only at h
    cases em : m a with
    | none => rw [em] at h; exact h.elim
    | some o =>
      rw [em] at h
      have fin : ∀ {m1 : Mem} {ds : List D} {zs : List V} {vs : List Value} {dd : Nat} {B : Int}, Reps X.K H ds zs → Vals zs vs → vs.length < 64 → (2 ≤ vs.length → 1 ≤ dd) → RowsD dd B ds → Sim X.K H m1 → PostL X.K H m1 q Q → (∀ ys, ys.Perm ds → RowsUp B ys → q ys m1) →
          (∀ R : List Value → Shared → Prop, (∀ (h' : Heap) (tk : Nat), (∀ b o, s.heap.get? b = some o → h'.get? b = some o) → R vs { s with heap := h', toks := tk }) → wpAny (model X.prog X.w) X.A.in1 (collect (.ref a)) R X.xe s) →
          wpAny (model X.prog X.w) X.A (call (.builtin "sorted") [.ref a]) (EP X pins σ Q) X.xe s := by
        intro m1 ds zs vs dd B hr hv h64 hd hR sim1 post1 hq hcol
        have t := repU_of hr hv
        refine sorted_gen (d := dd) (B := B) hcol h64 hd (fun v hv => ?_) fun h' h2 tk out c k1 k2 g pm pw => ?_
        · obtain ⟨x, hx, rx⟩ := t.mem hv
          obtain ⟨ns, e1, e2, e3⟩ := hR x hx
          exact ⟨ns, repU_row I rx e1, e2, e3⟩
        · have I1 : Inv X pins σ H { s with heap := h', toks := tk } := I.kept k1
          obtain ⟨ys, ty, py⟩ := t.perm pm
          obtain ⟨zs', r1, r2⟩ := repU_to ty
          have up : RowsUp B ys := ty.pairs pw fun x u y v rx ry hle n m hn hm => by
            rw [← (repU_row I rx hn).ints, ← (repU_row I ry hm).ints]
            exact hle
          have hlen : zs'.length ≤ sizeLine := by rw [r2.length, pm.length_eq]; exact small64 h64
          exact ⟨.ref h'.objs.size, upd H h'.objs.size (.lst zs'), I1.laid (t' := tk) k2 (Nat.le_refl _) ⟨hlen, out.toList, c, r2, g⟩, rfl, post1.lst (hq ys py up) (I1.hok.fresh (Nat.le_refl _)) r1 sim1⟩
      cases o with
      | lst xs =>
        obtain ⟨h64, dd, B, hd, hR, hq⟩ := h
        obtain ⟨zs, hz, rr⟩ := sim a _ em
        obtain ⟨vs, rv, pl, hz⟩ := I.list (SqL.of hz)
        have el : vs.length = xs.length := by rw [← rv.length, ← rr.length]
        exact fin rr rv (by rw [el]; exact h64) (by rw [el]; exact hd) hR sim post hq fun R hR => collect_list pl.isList (hR _ s.toks fun b o e => by
          have hlt := Heap.lt_size e
          rw [Heap.get?_update_ne _ _ _ _ (Nat.ne_of_lt hlt)]
          exact Heap.get?_push_of_some _ e) (by rw [el]; exact small64 h64)
      | dN kvs =>
        obtain ⟨h64, dd, B, hd, hq⟩ := h
        obtain ⟨es, ep, xs, g1, g2⟩ := sim a _ em
        obtain ⟨ds, f1, f2⟩ := repN_forms g2.rel
        obtain ⟨hR, hq⟩ := hq es ep ds f2
        have el : (xs.map fun x => Value.ref x.2.1).length = kvs.length := by rw [List.length_map, g2.rel.len]
        refine fin (m1 := m.set a (.dR kvs es ep ds)) f1 (vs := xs.map fun x => Value.ref x.2.1) ?_ (by rw [el]; exact h64) (by rw [el]; exact hd) hR (sim_dR sim ⟨g1, xs, g2, f1⟩) (PostL.next post (step_dR em)) hq fun R hR => ?_
        · exact vals_of_map (f := fun x : NestedKey × Addr × Value => V.ref x.2.1) fun x _ => rfl
        · refine PySem.W.kdu_collect (KdlSrc.rawDict g2.sys (es := es) (ep := ep)) (I.ok.hd hc) (raw_of I g1) (by rw [rawN_size (P := X.prog) (w := X.w) g2]; exact g2.sz) fun h' tk acc hk hacc => ?_
          have ea : acc.toList = xs.map fun x => Value.ref x.2.1 := by
            have e0 : es.toList.map (·.key) = xs.map fun x => Value.ref x.2.1 := by rw [g2.ent X.prog X.w, List.map_map]; rfl
            rw [← e0]
            have hl : acc.toList.length = es.size := by rw [Array.length_toList]; exact hacc.1
            apply List.ext_getElem?
            intro j
            rw [List.getElem?_map]
            cases hj : acc.toList[j]? with
            | none =>
              have h1 := List.getElem?_eq_none_iff.mp hj
              rw [List.getElem?_eq_none (by rw [Array.length_toList]; omega)]
              rfl
            | some u =>
              obtain ⟨h2, rfl⟩ := hacc.2 j u (by rw [← Array.getElem?_toList]; exact hj)
              rw [List.getElem?_eq_getElem (by rw [Array.length_toList]; exact h2), Array.getElem_toList]
              rfl
          rw [ea]
          exact hR h' tk hk
      | _ => exact h.elim
  | _ => exact h.elim
end
end L2.Lh

/-! {} == a tuple -/
namespace L2.Lh
open PySem PySem.Spec PyProof.Rows LamX PySem.W PySem.Calls PySem.SeqAt PySem.MeetsSeq
theorem tup_eq_dict {t l : Addr} {xs : Array Value} (ot : Obj) (h1 : ot.cls = .type "tuple") {n : Nat} (h2 : ot.data = .seq xs n) (dd : Option Addr) (es : Array DictEntry) (ep : Nat) (sl : Array (Option Value)) :
    Meets (Builtin.«tuple.__eq__» ⟨[.ref t, .ref l], []⟩) (fun _ R s => (s.heap.get? t = some ot ∧ s.heap.get? l = some { cls := .type "dict", dict := dd, data := .dict es ep, slots := sl }) ∧ R (.ok (.ret .notImplemented)) s) :=
  .of_wp fun prog w A R s h => by
    obtain ⟨hp, g, d, tk, os⟩ := s
    obtain ⟨⟨ht, hl⟩, h⟩ := h
    obtain ⟨cls, d1, data, s1⟩ := ot
    simp only at h1 h2
    subst h1 h2
    have f1 : isSubtype (.type "dict") (.type "tuple") = pure false := F.sub_dict_tuple
    wp_walk using wpAny_loadPart' hl, wpAny_load hl, wpAny_loadPart' ht, wpAny_load ht
    exact ⟨_, rfl, h⟩
theorem dict_eq_tup {t l : Addr} {xs : Array Value} (ot : Obj) (h1 : ot.cls = .type "tuple") {n : Nat} (h2 : ot.data = .seq xs n) (dd : Option Addr) (es : Array DictEntry) (ep : Nat) (sl : Array (Option Value)) :
    Meets (Builtin.«dict.__eq__» ⟨[.ref l, .ref t], []⟩) (fun _ R s => (s.heap.get? t = some ot ∧ s.heap.get? l = some { cls := .type "dict", dict := dd, data := .dict es ep, slots := sl }) ∧ R (.ok (.ret .notImplemented)) s) :=
  .of_wp fun prog w A R s h => by
    obtain ⟨hp, g, d, tk, os⟩ := s
    obtain ⟨⟨ht, hl⟩, h⟩ := h
    obtain ⟨cls, d1, data, s1⟩ := ot
    simp only at h1 h2
    subst h1 h2
    have f1 : isSubtype (.type "tuple") (.type "dict") = pure false := F.sub_tuple_dict
    wp_walk using wpAny_loadPart' hl, wpAny_load hl, wpAny_loadPart' ht, wpAny_load ht
    exact ⟨_, rfl, h⟩
section
variable {A : Around} {s : Shared}
theorem rc_dict_tup {t l : Addr} {xs : Array Value} (ht : IsTup s.heap t xs) (hl : ∃ dd es ep sl, s.heap.get? l = some { cls := .type "dict", dict := dd, data := .dict es ep, slots := sl }) (hu : A.units < cLine) : RcAt A s (.ref l) (.ref t) false := fun prog w E Q h => by
  obtain ⟨dd, es, ep, sl, ho⟩ := hl
  obtain ⟨ot, g1, g2, n, g3⟩ := ht
  exact rc_eq_decline_or (k := false) ⟨_, ho, rfl⟩ ⟨_, g1, g2⟩ (by decide) F.sub_tuple_dict F.slot_dict_eq F.slot_tuple_eq_refl
    (fun _ hq => call_meets F.slot_dict_eq ⟨_, ho, rfl⟩ F.entry_dict_eq (F.args_dict_eq_2 _ _) (dict_eq_tup ot g2 g3 dd es ep sl) ⟨⟨g1, ho⟩, hq⟩)
    (fun _ hq => call_meets F.slot_tuple_eq_refl ⟨_, g1, g2⟩ F.entry_tuple_eq (F.args_tuple_eq_2 _ _) (tup_eq_dict ot g2 g3 dd es ep sl) ⟨⟨g1, ho⟩, hq⟩)
    (fun _ hq => by
      have ne : l ≠ t := by
        intro e
        subst e
        rw [ho] at g1
        have e := Option.some.inj g1
        rw [← e] at g2
        have c' : Value.type "dict" = Value.type "tuple" := g2
        injection c' with c''
        exact absurd c'' (by decide)
      exact wpAny_isSame_ref_other ne ho g1 (show Value.type "dict" ≠ Value.type "tuple" by decide) hq) (.inr hu) h
end
/-- x == y, x the empty dict too where y is a tuple -/
def eqX : DR2 := fun x y m q => match x, y with
  | .ref a, .tup ys => match m a with
    | some (.dK []) => q (.bl false) m
    | _ => eqD (.ref a) (.tup ys) m q
  | x, y => eqD x y m q
section
variable {X : Cx}
theorem d_eqX (hu : X.A.units + 65 < cLine) : OpD X (compareOp .Eq) eqX := by
  have hu' : X.A.units + 64 < cLine := by omega
  intro pins s σ H x y v u Q I rx ry ⟨dx, dy, m, q, r1, r2, sim, h, post⟩
  unfold eqX at h
  split at h
  · rename_i a ys
    split at h
    · rename_i e1
      cases r1
      obtain rfl : v = Value.ref a := rx
      cases r2 with
      | tup g rs =>
        rename_i t _
        obtain rfl : u = Value.ref t := ry
        obtain ⟨itv, rv, p, hz⟩ := I.tuple (SqT.of g)
        exact rc_dict_tup p (dK_obj I sim e1) (by omega) _ _ _ _ ⟨.bl _, H, I, rfl, post.here h (.bl _) sim⟩
    · exact d_eq hu' pins s σ H x y v u Q I rx ry ⟨_, _, m, q, r1, r2, sim, h, post⟩
  · exact d_eq hu' pins s σ H x y v u Q I rx ry ⟨_, _, m, q, r1, r2, sim, h, post⟩
theorem eqX_d {a : Addr} {ys : List D} {m : Mem} {q : DQ} (h : m a = some (.dK [])) : eqX (.ref a) (.tup ys) m q = q (.bl false) m := by
  unfold eqX; dsimp only; rw [h]
end
end L2.Lh

/-! xs[::-1], xs a list -/
namespace L2.Lh
open PySem PySem.Spec PyProof.Rows LamX
section
variable {X : Cx} {B : Bs}
def dRevL (te : DTE) : DTE := fun ρ m q => te ρ m fun d m1 => ∃ a xs, d = .ref a ∧ m1 a = some (.lst xs) ∧ ∀ p, m1 p = none → q (.ref p) (m1.set p (.lst xs.reverse))
theorem de_revL {e : Expr} {te : DTE} {k : Nat} {p1 p2 p3 pos : Pos} (he : DE B X e te) : DE B X (.Subscript e (.Slice none none (some (.UnaryOp .USub (.Constant (.int 1) k p1) p2)) p3) pos) (dRevL te) :=
  pe_imp (pe_revL he) fun σ H Q ⟨ρ, m, q, p, h, post⟩ => ⟨ρ, m, _, p, h, fun d m1 v H1 ⟨a, xs, ed, em, h1⟩ r1 s1 t1 => by
    have post1 : PostE X.K H1 m1 q Q := fun d2 m2 v2 H2 h2 r2 s2 t2 => post d2 m2 v2 H2 h2 r2 s2 (t1.trans t2)
    subst ed
    cases r1
    obtain ⟨vs, hv, rs⟩ := s1 a _ em
    exact ⟨a, vs, rfl, SqL.of hv, fun p hp => post1.lst h1 hp rs.reverse s1⟩⟩
end
end L2.Lh

/-! tuples put together, the very object known; tuple(range(a, b)) -/
namespace L2.Lh
open PySem PySem.Spec PyProof.Rows LamX
section
variable {X : Cx} {B : Bs}
def addF : DR2 := fun x y m q => match x, y with
  | .tup xs, .tup ys => xs ≠ [] ∧ ys ≠ [] ∧ xs.length + ys.length ≤ sizeLine ∧ q (.ftup (xs ++ ys)) m
  | _, _ => False
theorem addF_tt {xs ys : List D} {m : Mem} {q : DQ} : addF (.tup xs) (.tup ys) m q = (xs ≠ [] ∧ ys ≠ [] ∧ xs.length + ys.length ≤ sizeLine ∧ q (.ftup (xs ++ ys)) m) := rfl
theorem d_addF : OpD X (binaryOp .Add) addF := by
  intro pins s σ H x y v u Q I rx ry ⟨dx, dy, m, q, r1, r2, sim, h, post⟩
  unfold addF at h
  split at h
  · rename_i xs ys
    obtain ⟨hx, hy, hz, hq⟩ := h
    cases r1 with
    | tup h1 q1 =>
      cases r2 with
      | tup h2 q2 =>
        rename_i a vs b ws
        cases rx
        cases ry
        obtain ⟨its, e1, p1, _⟩ := I.tuple (SqT.of h1)
        obtain ⟨its2, e2, p2, _⟩ := I.tuple (SqT.of h2)
        have n1 : its ≠ [] := fun z => by
          subst z; cases e1; cases q1; exact hx rfl
        have n2 : its2 ≠ [] := fun z => by
          subst z; cases e2; cases q2; exact hy rfl
        have l1 := e1.length
        have l2 := e2.length
        have l3 := q1.length
        have l4 := q2.length
        refine HT.cat_tup p1 p2 n1 (fun z => absurd z n2) (fun _ => ?_) (by omega)
        have nw : H s.heap.objs.size = none := I.hok.fresh (Nat.le_refl _)
        have I2 : Inv X pins σ (upd H s.heap.objs.size (.frz { cls := .type "tuple", data := .seq (its ++ its2).toArray } (.tup (vs ++ ws)))) { s with heap := s.heap.push { cls := .type "tuple", data := .seq (its ++ its2).toArray } } :=
          I.laid (t' := s.toks) (fun b o e => Heap.get?_push_of_some _ e) (Nat.le_refl _) (show ObjOk X.prog X.w _ _ _ (.frz _ (.tup (vs ++ ws))) from ⟨Heap.get?_push_size _ rfl, by rw [List.length_append]; omega, its ++ its2, e1.append e2, IsTup.new _ _⟩)
        exact ⟨.ref _, _, I2, rfl, post (.ftup (xs ++ ys)) m _ _ hq (.ftup upd_same rfl ((q1.append q2).mono (upd_new nw))) (sim.alloc nw) (Step.alloc nw)⟩
  · exact h.elim
def dTupRg2 (ta tb : DTE) : DTE := fun ρ m q => dListRg2 ta tb ρ m fun ds m' => q (.tup ds) m'
theorem de_tupRg2 {a b : Expr} {ta tb : DTE} {p p2 pos pos2 : Pos} (hc : X.calm = true) (hg : Gl X "tuple") (hm : X.mg "tuple" = none) (hg2 : Gl X "range") (hm2 : X.mg "range" = none) (ha : DE B X a ta) (hb : DE B X b tb)
    (na : starEach [a, b] X.env = (false, eval a X.env) :: starEach [b] X.env := by rfl) (nb : starEach [b] X.env = (false, eval b X.env) :: starEach [] X.env := by rfl) (hp : (backTo pos2 (starEach [b] X.env)).any (·.1) = false := by rfl)
    (ne : starEach [Expr.Call (.Name "range" p2) [a, b] [] pos2] X.env = (false, eval (.Call (.Name "range" p2) [a, b] [] pos2) X.env) :: starEach [] X.env := by rfl) :
    DE B X (.Call (.Name "tuple" p) [.Call (.Name "range" p2) [a, b] [] pos2] [] pos) (dTupRg2 ta tb) :=
  pe_imp (pe_tupRg hc hg hm (prg_2 hg2 hm2 ha hb na nb hp) ne) fun σ H Q ⟨ρ, m, q, p, h, post⟩ => ⟨ρ, m, _, p, h, fun d m1 v H1 h1 r1 s1 t1 => ⟨ρ, m1, _, p.next s1 t1, h1, fun e m2 w H2 h2 r2 s2 t2 => by
    split at h2
    · rename_i i j
      cases r1
      cases r2
      obtain ⟨ok, h2⟩ := h2
      have post2 : PostE X.K H2 m2 q Q := fun d3 m3 v3 H3 h3 r3 s3 t3 => post d3 m3 v3 H3 h3 r3 s3 (t1.trans (t2.trans t3))
      refine ⟨i, j, rfl, rfl, ok, fun l hl => post2.tup h2 hl ?_ s2⟩
      rw [rgV_eq]
      exact reps_rng i _
    · exact h2.elim⟩⟩
end
end L2.Lh

/-! tuples of either kind put together, the very object known -/
namespace L2.Lh
open PySem PySem.Spec PyProof.Rows LamX
section
variable {X : Cx} {B : Bs}
def itemsTp : D → Option (List D)
  | .tup xs => some xs
  | .ftup xs => some xs
  | _ => none
def addF2 : DR2 := fun x y m q => match itemsTp x, itemsTp y with
  | some xs, some ys => xs ≠ [] ∧ ys ≠ [] ∧ xs.length + ys.length ≤ sizeLine ∧ q (.ftup (xs ++ ys)) m
  | _, _ => False
theorem itemsTp_sq {K : PySem.W.Frag} {H : Hp} {d : D} {v : V} {xs : List D} (r : Rep K H d v) (e : itemsTp d = some xs) : ∃ a vs, v = .ref a ∧ SqT K H a vs ∧ Reps K H xs vs := by
  cases r with
  | tup h rs => cases e; exact ⟨_, _, rfl, SqT.of h, rs⟩
  | ftup h _ rs => cases e; exact ⟨_, _, rfl, .inl (.inr ⟨_, h⟩), rs⟩
  | _ => cases e
theorem d_addF2 : OpD X (binaryOp .Add) addF2 := by
  intro pins s σ H x y v u Q I rx ry ⟨dx, dy, m, q, r1, r2, sim, h, post⟩
  unfold addF2 at h
  split at h
  · rename_i xs ys ex ey
    obtain ⟨hx, hy, hz, hq⟩ := h
    obtain ⟨a, vs, rfl, h1, q1⟩ := itemsTp_sq r1 ex
    obtain ⟨b, ws, rfl, h2, q2⟩ := itemsTp_sq r2 ey
    cases rx
    cases ry
    obtain ⟨its, e1, p1, _⟩ := I.tuple h1
    obtain ⟨its2, e2, p2, _⟩ := I.tuple h2
    have n1 : its ≠ [] := fun z => by
      subst z; cases e1; cases q1; exact hx rfl
    have n2 : its2 ≠ [] := fun z => by
      subst z; cases e2; cases q2; exact hy rfl
    have l1 := e1.length
    have l2 := e2.length
    have l3 := q1.length
    have l4 := q2.length
    refine HT.cat_tup p1 p2 n1 (fun z => absurd z n2) (fun _ => ?_) (by omega)
    have nw : H s.heap.objs.size = none := I.hok.fresh (Nat.le_refl _)
    have I2 : Inv X pins σ (upd H s.heap.objs.size (.frz { cls := .type "tuple", data := .seq (its ++ its2).toArray } (.tup (vs ++ ws)))) { s with heap := s.heap.push { cls := .type "tuple", data := .seq (its ++ its2).toArray } } :=
      I.laid (t' := s.toks) (fun b o e => Heap.get?_push_of_some _ e) (Nat.le_refl _) (show ObjOk X.prog X.w _ _ _ (.frz _ (.tup (vs ++ ws))) from ⟨Heap.get?_push_size _ rfl, by rw [List.length_append]; omega, its ++ its2, e1.append e2, IsTup.new _ _⟩)
    exact ⟨.ref _, _, I2, rfl, post (.ftup (xs ++ ys)) m _ _ hq (.ftup upd_same rfl ((q1.append q2).mono (upd_new nw))) (sim.alloc nw) (Step.alloc nw)⟩
  · exact h.elim
end
end L2.Lh

/-! dicts of ints and texts that stay as they are from now on: for k, v in d.items(), d.values(), for k in d; list(d); sorted(d.items()); dict(d) -/
namespace L2.Lh
open PySem PySem.Spec PyProof.Rows LamX
def keyV : Key → D
  | .inl i => .int i
  | .inr x => .str x
theorem keyV_rep {K : PySem.W.Frag} {H : Hp} : ∀ k : Key, Rep K H (keyV k) (kV k)
  | .inl i => .int i
  | .inr x => .str x
theorem repK_get {K : PySem.W.Frag} {H : Hp} : ∀ {kvs : List (Key × D)} {kv : List (Key × V)}, RepK K H kvs kv → ∀ {i : Nat} {p : Key × D}, kvs[i]? = some p → ∃ v, kv[i]? = some (p.1, v) ∧ Rep K H p.2 v
  | _, _, .nil, i, p, e => by simp at e
  | _, _, .cons (b := q) h r, 0, p, e => by
    simp only [List.getElem?_cons_zero, Option.some.injEq] at e
    subst e
    obtain ⟨k, v⟩ := q
    obtain ⟨h1, h2⟩ := h
    exact ⟨v, by rw [h1]; rfl, h2⟩
  | _, _, .cons h r, i + 1, p, e => by
    simp only [List.getElem?_cons_succ] at e ⊢
    exact repK_get r e
theorem repK_keys {K : PySem.W.Frag} {H : Hp} : ∀ {kvs : List (Key × D)} {kv : List (Key × V)}, RepK K H kvs kv → kvs.map (·.1) = kv.map (·.1)
  | _, _, .nil => rfl
  | _, _, .cons q r => by rw [List.map_cons, List.map_cons, q.1, repK_keys r]
theorem vals_of_get : ∀ {xs : List V} {us : List Value}, xs.length = us.length → (∀ (i : Nat) (x : V) (u : Value), xs[i]? = some x → us[i]? = some u → RelV x u) → Vals xs us
  | [], [], _, _ => .nil
  | [], _ :: _, h, _ => by cases h
  | _ :: _, [], h, _ => by cases h
  | x :: xs, u :: us, h, g => .cons (g 0 x u rfl rfl) (vals_of_get (by simpa using h) fun i y v e1 e2 => g (i + 1) y v (by simpa using e1) (by simpa using e2))
/-- a dict that may be walked -/
def dictAt (m : Mem) (a : Addr) (kvs : List (Key × D)) : Prop := m a = some (.dK kvs) ∨ m a = some (.dF kvs)
section
variable {X : Cx} {pins : List (Addr × Obj)} {σ : St} {H : Hp} {s : Shared} {m : Mem} {a : Addr} {kvs : List (Key × D)}
theorem dictAt.rd (sim : Sim X.K H m) (h : dictAt m a kvs) : ∃ kv, Rd H a (.dK kv) ∧ RepK X.K H kvs kv := by
  rcases h with h | h
  · obtain ⟨kv, h1, h2⟩ := sim a _ h; exact ⟨kv, .inl h1, h2⟩
  · obtain ⟨od, kv, h1, h2⟩ := sim a _ h; exact ⟨kv, .inr ⟨od, h1⟩, h2⟩
/-- it is frozen -/
theorem freeze (I : Inv X pins σ H s) (sim : Sim X.K H m) (h : dictAt m a kvs) : ∃ od kv H', H' a = some (.frz od (.dK kv)) ∧ RepK X.K H' kvs kv ∧ Inv X pins σ H' s ∧ Sim X.K H' (m.set a (.dF kvs)) ∧ Step H m H' (m.set a (.dF kvs)) := by
  rcases h with h | h
  · obtain ⟨kv, h1, h2⟩ := sim a _ h
    obtain ⟨od, I1⟩ := I.lock h1 (by exact trivial)
    have h3 := h2.mono (upd_old (o := .frz od (.dK kv)) sim h)
    exact ⟨od, kv, _, upd_same, h3, I1, sim.write h ⟨od, kv, upd_same, h3⟩, Step.write sim h⟩
  · obtain ⟨od, kv, h1, h2⟩ := sim a _ h
    rw [Mem.set_id h]
    exact ⟨od, kv, H, h1, h2, I, sim, Step.refl _ _⟩
theorem ItOk.items {K : PySem.W.Frag} {H0 : Hp} {m0 : Mem} {od : Obj} {kv : List (Key × V)} (h : H0 a = some (.frz od (.dK kv))) (r : RepK K H0 kvs kv) : ItOk K ⟨kvs.map fun p => .tup [keyV p.1, p.2], fun _ => True⟩ (Iti a od kv) H0 m0 where
  go := fun i d m1 H1 e s1 st _ => by
    rw [List.getElem?_map] at e
    cases hp : kvs[i]? with
    | none => rw [hp] at e; cases e
    | some p =>
      rw [hp] at e
      cases e
      obtain ⟨v, h1, h2⟩ := repK_get (r.mono st.ext) hp
      have hl := (List.getElem?_eq_some_iff.mp h1).1
      refine ⟨⟨st.ext.frz _ _ _ h, hl⟩, fun x H' ⟨T, k, v', e1, e2, e3, e4⟩ => ?_⟩
      rw [h1] at e1
      cases e1
      subst e2 e4
      exact ⟨.tup upd_same (.cons (keyV_rep _) (.cons (h2.mono (upd_new e3)) .nil)), s1.alloc e3, Step.alloc e3⟩
  stop := fun m1 H1 s1 st _ => ⟨st.ext.frz _ _ _ h, by show kv.length ≤ (kvs.map _).length; rw [List.length_map]; exact Nat.le_of_eq (Paired.length r).symm⟩
theorem ItOk.vals {K : PySem.W.Frag} {H0 : Hp} {m0 : Mem} {od : Obj} {kv : List (Key × V)} (h : H0 a = some (.frz od (.dK kv))) (r : RepK K H0 kvs kv) : ItOk K ⟨kvs.map (·.2), fun _ => True⟩ (L2.Itd a od kv) H0 m0 where
  go := fun i d m1 H1 e s1 st _ => by
    rw [List.getElem?_map] at e
    cases hp : kvs[i]? with
    | none => rw [hp] at e; cases e
    | some p =>
      rw [hp] at e
      cases e
      obtain ⟨v, h1, h2⟩ := repK_get (r.mono st.ext) hp
      have hl := (List.getElem?_eq_some_iff.mp h1).1
      refine ⟨⟨st.ext.frz _ _ _ h, hl⟩, fun x H' ⟨e0, k, e1⟩ => ?_⟩
      subst e0
      rw [h1] at e1
      cases e1
      exact ⟨h2, s1, Step.refl _ _⟩
  stop := fun m1 H1 s1 st _ => ⟨st.ext.frz _ _ _ h, by show kv.length ≤ (kvs.map _).length; rw [List.length_map]; exact Nat.le_of_eq (Paired.length r).symm⟩
theorem ItOk.keys {K : PySem.W.Frag} {H0 : Hp} {m0 : Mem} {od : Obj} {kv : List (Key × V)} (h : H0 a = some (.frz od (.dK kv))) (r : RepK K H0 kvs kv) : ItOk K ⟨kvs.map fun p => keyV p.1, fun _ => True⟩ (Itk a od kv) H0 m0 where
  go := fun i d m1 H1 e s1 st _ => by
    rw [List.getElem?_map] at e
    cases hp : kvs[i]? with
    | none => rw [hp] at e; cases e
    | some p =>
      rw [hp] at e
      cases e
      obtain ⟨v, h1, h2⟩ := repK_get (r.mono st.ext) hp
      have hl := (List.getElem?_eq_some_iff.mp h1).1
      refine ⟨⟨st.ext.frz _ _ _ h, hl⟩, fun x H' ⟨e0, k, v', e1, e2⟩ => ?_⟩
      subst e0 e2
      rw [h1] at e1
      cases e1
      exact ⟨keyV_rep _, s1, Step.refl _ _⟩
  stop := fun m1 H1 s1 st _ => ⟨st.ext.frz _ _ _ h, by show kv.length ≤ (kvs.map _).length; rw [List.length_map]; exact Nat.le_of_eq (Paired.length r).symm⟩
end
section
variable {X : Cx} {B : Bs}
def iItemsF (t : DTE) : DTI := fun ρ m q => t ρ m fun d m1 => ∃ a kvs, d = .ref a ∧ dictAt m1 a kvs ∧ q ⟨kvs.map fun p => .tup [keyV p.1, p.2], fun _ => True⟩ (m1.set a (.dF kvs))
def iValsF (t : DTE) : DTI := fun ρ m q => t ρ m fun d m1 => ∃ a kvs, d = .ref a ∧ dictAt m1 a kvs ∧ q ⟨kvs.map (·.2), fun _ => True⟩ (m1.set a (.dF kvs))
def iKeysF (t : DTE) : DTI := fun ρ m q => t ρ m fun d m1 => ∃ a kvs, d = .ref a ∧ dictAt m1 a kvs ∧ q ⟨kvs.map fun p => keyV p.1, fun _ => True⟩ (m1.set a (.dF kvs))
theorem di_itemsF {e : Expr} {te : DTE} {elts : List Expr} {kk : Nat} {apos cpos tpos : Pos} (he : DE B X e te) (hbase : attributeBase e "items" X.env (eval e X.env) = eval e X.env := by rfl) (hline : (apos.endLine == cpos.line) = true := by rfl) :
    DI B X (.Tuple elts kk tpos) (.Call (.Attribute e "items" apos) [] [] cpos) (iItemsF te) := by
  refine ⟨fun pins s σ H R inv ⟨ρ, m, q, p, hq, post⟩ => ?_⟩
  refine wpAny_Call_method (T := "dict") (id := "dict.items") hbase rfl hline F.plainAttrs_dict F.slot_dict_items F.type_dict_items (thn (he.run pins s σ H (fun v H1 => ∃ a kvs m1, v = .ref a ∧ Sim X.K H1 m1 ∧ Step H m H1 m1 ∧ dictAt m1 a kvs ∧ q ⟨kvs.map fun p => .tup [keyV p.1, p.2], fun _ => True⟩ (m1.set a (.dF kvs))) inv
    ⟨ρ, m, _, p, hq, fun d m1 v H1 ⟨a, kvs, e1, e2, h1⟩ r1 s1 t1 => by subst e1; cases r1; exact ⟨a, kvs, m1, rfl, s1, t1, e2, h1⟩⟩) fun u s1 ⟨v, H1, I0, rv, a, kvs, m1, ev, sim0, st0, ea, hk⟩ => ?_)
  subst ev
  obtain rfl : u = Value.ref a := rv
  obtain ⟨od, kv, H2, hd, rk, I1, sim, st⟩ := freeze I0 sim0 ea
  obtain ⟨hs, hgd, hx, es, ep, vs, hdt, hsz, kvv, hm⟩ := I1.frzK hd
  have hl : kv.length = vs.length := Paired.length kvv
  refine ⟨hm.dictOf.typeIs, hm.dictOf.mapOf.noDict, ?_⟩
  have I2 : Inv X pins σ H2 { s1 with heap := s1.heap.push { cls := .type "dict_items", data := .fields #[.ref a] } } := I1.kept (t' := s1.toks) fun b ob q => Heap.get?_push_of_some _ q
  have fin : wpAny (model X.prog X.w) X.A (pyIter (.ref s1.heap.objs.size)) (PIE X pins σ (.Tuple elts kk tpos) R) X.xe { s1 with heap := s1.heap.push { cls := .type "dict_items", data := .fields #[.ref a] } } := by
    refine wpAny_pyIter_items (d := a) (knd := mixKind X.prog X.w) ⟨_, Heap.get?_push_size _ rfl, rfl, rfl⟩ (hm.push _) (pi_one (tk := s1.toks) I2 _ (turn_items _ hdt) ⟨.none, .none, ?_⟩ (post _ _ _ _ hk (ItOk.items hd rk) sim (st0.trans st)))
    rw [hl]
    exact Heap.get?_push_size _ rfl
  show wpAny _ _ (callWith cpos (.builtin "dict.items") [.ref a] [] []) _ X.xe s1
  exact method_meetsIn F.slot_dict_items F.entry_dict_items rfl (PySem.evalArgs_none ⟨rfl, hm.dictOf.typeIs, F.args_dict_items_1 _, _, meets_dict_items (mixKind X.prog X.w) a hs, ⟨vs, hm.dictOf⟩, fin⟩)
theorem di_valsF {e tg : Expr} {te : DTE} {apos cpos : Pos} (he : DE B X e te) (hbase : attributeBase e "values" X.env (eval e X.env) = eval e X.env := by rfl) (hline : (apos.endLine == cpos.line) = true := by rfl) :
    DI B X tg (.Call (.Attribute e "values" apos) [] [] cpos) (iValsF te) := by
  refine ⟨fun pins s σ H R inv ⟨ρ, m, q, p, hq, post⟩ => ?_⟩
  refine wpAny_Call_method (T := "dict") (id := "dict.values") hbase rfl hline F.plainAttrs_dict F.slot_dict_values F.type_dict_values (thn (he.run pins s σ H (fun v H1 => ∃ a kvs m1, v = .ref a ∧ Sim X.K H1 m1 ∧ Step H m H1 m1 ∧ dictAt m1 a kvs ∧ q ⟨kvs.map (·.2), fun _ => True⟩ (m1.set a (.dF kvs))) inv
    ⟨ρ, m, _, p, hq, fun d m1 v H1 ⟨a, kvs, e1, e2, h1⟩ r1 s1 t1 => by subst e1; cases r1; exact ⟨a, kvs, m1, rfl, s1, t1, e2, h1⟩⟩) fun u s1 ⟨v, H1, I0, rv, a, kvs, m1, ev, sim0, st0, ea, hk⟩ => ?_)
  subst ev
  obtain rfl : u = Value.ref a := rv
  obtain ⟨od, kv, H2, hd, rk, I1, sim, st⟩ := freeze I0 sim0 ea
  obtain ⟨hs, hgd, hx, es, ep, vs, hdt, hsz, kvv, hm⟩ := I1.frzK hd
  have hl : kv.length = vs.length := Paired.length kvv
  refine ⟨hm.dictOf.typeIs, hm.dictOf.mapOf.noDict, ?_⟩
  have I2 : Inv X pins σ H2 { s1 with heap := s1.heap.push { cls := .type "dict_values", data := .fields #[.ref a] } } := I1.kept (t' := s1.toks) fun b ob q => Heap.get?_push_of_some _ q
  have fin : wpAny (model X.prog X.w) X.A (pyIter (.ref s1.heap.objs.size)) (PIE X pins σ tg R) X.xe { s1 with heap := s1.heap.push { cls := .type "dict_values", data := .fields #[.ref a] } } := by
    refine wpAny_pyIter_values (d := a) (knd := mixKind X.prog X.w) ⟨_, Heap.get?_push_size _ rfl, rfl, rfl⟩ (hm.push _) (pi_one (tk := s1.toks) I2 _ (turn_vals _ hdt) ⟨_, Heap.get?_push_size _ rfl, rfl, ?_⟩ (post _ _ _ _ hk (ItOk.vals hd rk) sim (st0.trans st)))
    rw [hl] <;> rfl
  show wpAny _ _ (callWith cpos (.builtin "dict.values") [.ref a] [] []) _ X.xe s1
  exact method_meetsIn F.slot_dict_values F.entry_dict_values rfl (PySem.evalArgs_none ⟨rfl, hm.dictOf.typeIs, F.args_dict_values_1 _, _, meets_dict_values (mixKind X.prog X.w) a hs, ⟨vs, hm.dictOf⟩, fin⟩)
theorem di_keysF {e tg : Expr} {te : DTE} (he : DE B X e te) : DI B X tg e (iKeysF te) := by
  refine ⟨fun pins s σ H R inv ⟨ρ, m, q, p, hq, post⟩ => ?_⟩
  refine thn (he.run pins s σ H (fun v H1 => ∃ a kvs m1, v = .ref a ∧ Sim X.K H1 m1 ∧ Step H m H1 m1 ∧ dictAt m1 a kvs ∧ q ⟨kvs.map fun p => keyV p.1, fun _ => True⟩ (m1.set a (.dF kvs))) inv
    ⟨ρ, m, _, p, hq, fun d m1 v H1 ⟨a, kvs, e1, e2, h1⟩ r1 s1 t1 => by subst e1; cases r1; exact ⟨a, kvs, m1, rfl, s1, t1, e2, h1⟩⟩) fun u s1 ⟨v, H1, I0, rv, a, kvs, m1, ev, sim0, st0, ea, hk⟩ => ?_
  subst ev
  obtain rfl : u = Value.ref a := rv
  obtain ⟨od, kv, H2, hd, rk, I1, sim, st⟩ := freeze I0 sim0 ea
  obtain ⟨hs, hgd, hx, es, ep, vs, hdt, hsz, kvv, hm⟩ := I1.frzK hd
  refine iter_keys hs hgd hx hdt (pi_one (tk := s1.toks) I1 _ (turn_keys _ hdt) ⟨_, Heap.get?_push_size _ rfl, rfl, ?_⟩ (post _ _ _ _ hk (ItOk.keys hd rk) sim (st0.trans st)))
  rw [hsz] <;> rfl
/-! ### list(d), dict(d) -/
/-- the keys of a dict, else as listD -/
def listX : DRL := fun d m q => match d with
  | .ref a => match m a with
    | some (.dK kvs) => q (kvs.map fun p => keyV p.1) m
    | some (.dF kvs) => q (kvs.map fun p => keyV p.1) m
    | _ => listD d m q
  | _ => listD d m q
theorem listX_d {a : Addr} {m : Mem} {q : List D → Mem → Prop} {kvs : List (Key × D)} (h : dictAt m a kvs) : listX (.ref a) m q = q (kvs.map fun p => keyV p.1) m := by
  unfold listX
  rcases h with h | h <;> simp only [h]
theorem reps_keys {K : PySem.W.Frag} {H : Hp} : ∀ (kvs : List (Key × D)), Reps K H (kvs.map fun p => keyV p.1) (kvs.map fun p => kV p.1)
  | [] => .nil
  | p :: r => .cons (keyV_rep _) (reps_keys r)
theorem l_listX (hc : X.calm = true) : CallR X (.type "list") (upCL X.K listX) := by
  intro pins s σ H xs us Q I r ⟨d, v, m, q, e, rd, sim, h, post⟩
  have old : listD d m q → wpAny (model X.prog X.w) X.A (call (.type "list") us) (EP X pins σ Q) X.xe s := fun h' => l_list pins s σ H xs us Q I r ⟨d, v, m, q, e, rd, sim, h', post⟩
  cases d with
  | ref a =>
    have go : ∀ kvs, dictAt m a kvs → q (kvs.map fun p => keyV p.1) m → wpAny (model X.prog X.w) X.A (call (.type "list") us) (EP X pins σ Q) X.xe s := fun kvs hd hq => by
      subst e
      cases rd
      rw [Vals.ref1 r]
      obtain ⟨kv, h1, h2⟩ := hd.rd sim
      obtain ⟨z, lo, vs, rel, od, es, ep, g1, g2⟩ := dk_rd I.hok h1
      have hm : s.heap.DictAt (mixKind X.prog X.w) a vs ep := by
        exact ⟨od, es, g1, g2⟩
      refine PySem.W.kdl_call (PySem.W.kdl_dict lo) (I.ok.hd hc) hm (by rw [← rel.length]; exact z) fun h' tk acc c' hk e' hi => ?_
      have hlen : kvs.length = kv.length := h2.len
      have e0 : kvs.map (fun p => kV p.1) = kv.map (fun p => kV p.1) := by
        have : kvs.map (·.1) = kv.map (·.1) := repK_keys h2
        have := congrArg (List.map kV) this
        rwa [List.map_map, List.map_map] at this
      have hv : Vals (kvs.map fun p => kV p.1) acc.toList := by
        rw [e0]
        refine vals_of_get (by
          have h5 : acc.toList.length = acc.size := Array.length_toList
          have h6 : acc.size = vs.length := hi.1
          rw [List.length_map, h5, h6]; exact Paired.length rel) fun i x u hx hu => ?_
        obtain ⟨k, y, e1, e2⟩ := hi.2 i u (by rw [← Array.getElem?_toList]; exact hu)
        rw [List.getElem?_map] at hx
        cases hp : kv[i]? with
        | none => rw [hp] at hx; cases hx
        | some p =>
          rw [hp] at hx
          cases hx
          obtain ⟨u2, g3, _⟩ := kv_get rel hp
          rw [g3] at e1
          cases e1
          exact relV_key e2
      exact ⟨.ref s.heap.objs.size, upd H s.heap.objs.size (.lst (kvs.map fun p => kV p.1)), I.laid hk (Nat.le_refl _) (show ObjOk X.prog X.w _ _ _ (.lst _) from ⟨by rw [List.length_map, hlen]; exact z, acc.toList, c', hv, by rw [Array.toArray_toList]; exact e'⟩), rfl, post.lst hq (I.hok.fresh (Nat.le_refl _)) (reps_keys kvs) sim⟩
    unfold listX at h
    dsimp only at h
    split at h
    · rename_i kvs ea; exact go kvs (.inl ea) h
    · rename_i kvs ea; exact go kvs (.inr ea) h
    · exact old h
  | _ => exact old h
end
end L2.Lh

/-! divmod, reversed(range(n)), dict(d), sorted(d.items()) of ints -/
namespace L2.Lh
open PySem PySem.Spec PyProof.Rows LamX
section
variable {X : Cx} {B : Bs}
def divmodD : DRC
  | [.int i, .int j], m, q => CDiv i j ∧ q (.tup [.int (i / j), .int (i % j)]) m
  | _, _, _ => False
theorem divmodD_ii {i j : Int} {m : Mem} {q : DQ} : divmodD [.int i, .int j] m q = (CDiv i j ∧ q (.tup [.int (i / j), .int (i % j)]) m) := rfl
theorem c_divmod : CallD X (.builtin "divmod") divmodD := by
  intro pins s σ H xs us Q I r ⟨ds, m, q, rs, sim, h, post⟩
  unfold divmodD at h
  split at h
  · rename_i i j
    cases rs with
    | cons r1 rs =>
      cases rs with
      | cons r2 rs =>
        cases rs
        cases r1
        cases r2
        exact call_divmod pins s σ H _ us Q I r ⟨i, j, rfl, h.1, fun p hp => post.tup h.2 hp (.cons (.int _) (.cons (.int _) .nil)) sim⟩
  · exact h.elim
/-! ### reversed(range(n)) -/
theorem ItOk.revRg {K : PySem.W.Frag} {n : Nat} {H0 : Hp} {m0 : Mem} : ItOk K ⟨(rngD 0 n).reverse, fun _ => True⟩ (Itc (0 + ((n : Nat) : Int) - 1) (-1) n) H0 m0 where
  go := fun i d m H e s _ _ => by
    obtain ⟨hi, e'⟩ := get_rev e
    rw [rngD_length] at hi e'
    have hd : d = .int (((n - 1 - i : Nat) : Nat) : Int) := by
      unfold rngD at e'
      rw [List.getElem?_map, List.getElem?_range (by omega)] at e'
      cases e'
      simp
    subst hd
    refine ⟨hi, fun x H' ⟨e1, e2⟩ => ?_⟩
    subst e1 e2
    have : (0 + ((n : Nat) : Int) - 1 + ((i : Nat) : Int) * (-1)) = (((n - 1 - i : Nat) : Nat) : Int) := by omega
    rw [this]
    exact ⟨.int _, s, Step.refl _ _⟩
  stop := fun m H s _ _ => by
    show n ≤ ((rngD 0 n).reverse).length
    rw [List.length_reverse, rngD_length]
    exact Nat.le_refl _
def iRevRg (ta : DTE) : DTI := fun ρ m q => ta ρ m fun d m' => match d with
  | .int j => -(2 ^ 62) ≤ j ∧ j < 2 ^ 62 ∧ q ⟨(rngD 0 j.toNat).reverse, fun _ => True⟩ m'
  | _ => False
theorem di_revRg {tg a : Expr} {ta : DTE} {p p2 pos pos2 : Pos} (hg : Gl X "reversed") (hm : X.mg "reversed" = none) (hg2 : Gl X "range") (hm2 : X.mg "range" = none) (ha : DE B X a ta)
    (na : starEach [a] X.env = (false, eval a X.env) :: starEach [] X.env := by rfl) (hs : starEach [Expr.Call (.Name "range" p2) [a] [] pos2] X.env = (false, eval (.Call (.Name "range" p2) [a] [] pos2) X.env) :: starEach [] X.env := by rfl) :
    DI B X tg (.Call (.Name "reversed" p) [.Call (.Name "range" p2) [a] [] pos2] [] pos) (iRevRg ta) :=
  pi_imp (pi_revR hg hm (prg_1 hg2 hm2 ha na) hs) fun σ H R ⟨ρ, m, q, pr, h, post⟩ => ⟨ρ, m, _, pr, h, fun d m1 v H1 h1 r1 s1 t1 => by
    cases d with
    | int j =>
      cases r1
      obtain ⟨b1, b2, h1⟩ := h1
      refine ⟨j, rfl, by decide, by decide, b1, b2, ?_⟩
      rw [Int.sub_zero]
      exact post _ m1 _ H1 h1 ItOk.revRg s1 t1
    | _ => exact (show False from h1).elim⟩
/-! ### dict(d) -/
def dictD : DRC
  | [.ref a], m, q => ∃ kvs, dictAt m a kvs ∧ ∀ p, m p = none → q (.ref p) (m.set p (.dK kvs))
  | _, _, _ => False
theorem c_dict : CallD X (.type "dict") dictD := by
  intro pins s σ H xs us Q I r ⟨ds, m, q, rs, sim, h, post⟩
  unfold dictD at h
  split at h
  · rename_i a
    obtain ⟨kvs, hd, hq⟩ := h
    obtain ⟨v, rfl, rv⟩ := reps1 rs
    cases rv
    rw [Vals.ref1 r]
    obtain ⟨kv, h1, h2⟩ := hd.rd sim
    exact d_copyOf I h1 fun p s' hp I' => ⟨.ref p, _, I', rfl, post _ _ _ _ (hq p (sim.free hp)) (.ref p) (sim.allocM hp ⟨kv, upd_same, h2.mono (upd_new hp)⟩) (Step.allocM hp)⟩
  · exact h.elim
end
/-! ### sorted(d.items()), ints to ints -/
section
open TS
variable {prog : Program} {w : World} {A : Around} {E : Value → Shared → Prop} {s : Shared}
theorem sorted_gen2 {l : Addr} {d : Nat} {B : Int} {Q : Value → Shared → Prop} {G : Heap → List Value → Prop}
    (hcol : ∀ R : List Value → Shared → Prop, (∀ (h' : Heap) (tk : Nat) (vs : List Value), (∀ b o, s.heap.get? b = some o → h'.get? b = some o) → G h' vs → R vs { s with heap := h', toks := tk }) → wpAny (model prog w) A.in1 (collect (.ref l)) R E s)
    (hG : ∀ h' vs, G h' vs → vs.length < 64 ∧ (2 ≤ vs.length → 1 ≤ d) ∧ TupsOk h' d B vs)
    (h : ∀ (h' h2 : Heap) (tk : Nat) (vs : List Value) (out : Array Value) (c : Nat), (∀ b o, s.heap.get? b = some o → h'.get? b = some o) → G h' vs → (∀ b o, h'.get? b = some o → h2.get? b = some o) → h2.get? h'.objs.size = some (seqObj "list" out c) → out.toList.Perm vs →
      out.toList.Pairwise (fun u v => TS.code B (TS.intsOf h' u) ≤ TS.code B (TS.intsOf h' v)) → Q (.ref h'.objs.size) { s with heap := h2, toks := tk }) :
    wpAny (model prog w) A (call (.builtin "sorted") [.ref l]) Q E s := by
  refine Calls.call_function_entry kind_sorted plain_sorted entry_sorted (args_sorted1 _) ?_
  unfold Builtin.«sorted»
  refine wpAny_bind (m := checkCount "sorted" 1 1 _) (wpAny_pure ?_)
  refine wpAny_bind (hcol _ fun h' tk vs k1 g => ?_)
  obtain ⟨h64, hd, x⟩ := hG h' vs g
  refine wpAny_bind (wpAny_newList ?_ (by rw [sizeLine_eq]; omega))
  have hoL : (h'.push (seqObj "list" vs.toArray 0)).get? h'.objs.size = some (seqObj "list" vs.toArray 0) := Heap.get?_push_size _ rfl
  have keep : ∀ b o, h'.get? b = some o → o.cls = .type "tuple" → (h'.push (seqObj "list" vs.toArray 0)).get? b = some o := fun b o q _ => Heap.get?_push_of_some _ q
  refine wpAny_bind (wpAny_holding (wpAny_call_entry (s := { s with heap := h'.push (seqObj "list" vs.toArray 0), toks := tk }) slot_list_sort ⟨_, hoL, rfl⟩ entry_list_sort (sort_tups0 (s := { s with heap := h'.push (seqObj "list" vs.toArray 0), toks := tk }) hoL h64 hd (x.keeps keep) (fun v => TS.code B (TS.intsOf h' v)) (fun v hv ns t => ?_) fun out a1 a2 => ⟨_, rfl, ?_⟩) (args_list_sort _)))
  · obtain ⟨ns0, t0, _⟩ := x v hv
    have e : ns = ns0 := t.ints.symm.trans (t0.keeps keep).ints
    rw [e]
    show TS.code B (TS.intsOf h' v) = TS.code B ns0
    rw [t0.ints]
  · obtain ⟨c, hc⟩ := sortedHeap_at (vs := vs) (out := out) hoL
    refine wpAny_pure ⟨_, rfl, h h' _ tk vs out c k1 g (fun b u q => ?_) hc a1 a2⟩
    have hlt := Heap.lt_size q
    show (sortedHeap (h'.push (seqObj "list" vs.toArray 0)) h'.objs.size vs out).get? b = some u
    rw [sortedHeap_old (Nat.ne_of_lt hlt) (by rw [size_push']; exact Nat.lt_succ_of_lt hlt)]
    exact Heap.get?_push_of_some _ q
end
/-- many new objects laid at once -/
noncomputable def updL (H : Hp) (as : List Addr) (f : Addr → HO) : Hp := fun b => open Classical in if b ∈ as then some (f b) else H b
theorem updL_in {H : Hp} {as : List Addr} {f : Addr → HO} {b : Addr} (h : b ∈ as) : updL H as f b = some (f b) := by unfold updL; exact if_pos h
theorem updL_out {H : Hp} {as : List Addr} {f : Addr → HO} {b : Addr} (h : b ∉ as) : updL H as f b = H b := by unfold updL; exact if_neg h
theorem Inv.laidL {X : Cx} {pins : List (Addr × Obj)} {σ : St} {H : Hp} {s : Shared} {h' : Heap} {t' : Nat} {as : List Addr} {f : Addr → HO} (I : Inv X pins σ H s) (k : ∀ b u, s.heap.get? b = some u → h'.get? b = some u)
    (hp : ∀ a ∈ as, s.heap.objs.size ≤ a) (new : ∀ a ∈ as, ObjOk X.prog X.w (updL H as f) h' a (f a)) : Inv X pins σ (updL H as f) { s with heap := h', toks := t' } := by
  have nn : ∀ a ∈ as, H a = none := fun a ha => I.hok.fresh (hp a ha)
  have ne : ∀ b u, H b = some u → b ∉ as := fun b u e z => by rw [nn b z] at e; cases e
  have out : ∀ b u, H b = some u → updL H as f b = some u := fun b u e => by rw [updL_out (ne b u e)]; exact e
  refine I.un ⟨fun b o q _ _ _ => k b o q, fun b o q _ _ _ => ⟨o.slots, k b o q⟩, fun b o q n _ => ?_, fun b o q _ => ⟨o, k b o q⟩, fun b xs q => out _ _ q, fun b o u q => out _ _ q, fun b ps q => ⟨#[], by rw [out _ _ q]; simp⟩⟩ fun b u e => ?_
  · rw [updL_out (fun z => absurd (Heap.lt_size q) (Nat.not_lt.mpr (hp b z)))]; exact n
  · by_cases z : b ∈ as
    · rw [updL_in z] at e; cases e; exact new b z
    · rw [updL_out z] at e
      exact (I.hok b u e).stay (fun c v _ q => k c v q) (fun c q => out _ _ q) fun c xs q => out _ _ q
section
variable {X : Cx} {B : Bs}
theorem ev_items {e : Expr} {td : TE} {apos cpos : Pos} (he : PE X e td) (hbase : attributeBase e "items" X.env (eval e X.env) = eval e X.env) (hline : (apos.endLine == cpos.line) = true)
    {pins : List (Addr × Obj)} {s : Shared} {σ : St} {H : Hp} {Q : Addr → Hp → Prop} {R : Value → Shared → Prop} (I : Inv X pins σ H s) (h : td σ H fun x H1 => ∃ d, x = .ref d ∧ Q d H1)
    (rd : ∀ d H1, Q d H1 → ∃ kv, Rd H1 d (.dK kv))
    (fin : ∀ v d H' s', s'.heap.IsItemsView v d → Inv X pins σ H' s' → Q d H' → R (.ref v) s') :
    wpAny (model X.prog X.w) X.A (eval (.Call (.Attribute e "items" apos) [] [] cpos) X.env) R X.xe s := by
  refine wpAny_Call_method (T := "dict") (id := "dict.items") hbase rfl hline F.plainAttrs_dict F.slot_dict_items F.type_dict_items (thn (he.run pins s σ H _ I h) fun u s1 ⟨x, H1, I1, rx, d, ex, q⟩ => ?_)
  subst ex
  obtain rfl : u = Value.ref d := rx
  obtain ⟨kv, h1⟩ := rd d H1 q
  obtain ⟨z, lo, vs, rel, hm⟩ := dk_rd I1.hok h1
  refine ⟨hm.typeIs, hm.mapOf.noDict, ?_⟩
  have I2 : Inv X pins σ H1 { s1 with heap := s1.heap.push { cls := .type "dict_items", data := .fields #[.ref d] } } := I1.kept (t' := s1.toks) fun b ob q => Heap.get?_push_of_some _ q
  have hv : (s1.heap.push { cls := .type "dict_items", data := .fields #[.ref d] }).IsItemsView s1.heap.objs.size d := ⟨_, Heap.get?_push_size _ rfl, rfl, rfl⟩
  show wpAny _ _ (callWith cpos (.builtin "dict.items") [.ref d] [] []) _ X.xe s1
  exact method_meetsIn F.slot_dict_items F.entry_dict_items rfl (PySem.evalArgs_none ⟨rfl, hm.typeIs, F.args_dict_items_1 _, _, meets_dict_items (mixKind X.prog X.w) d lo, ⟨vs, hm⟩, fin _ d H1 _ hv I2 q⟩)
end
end L2.Lh

/-! list(d.items()), sorted(d.items()): new tuples, many at once -/
namespace L2.Lh
open PySem PySem.Spec PyProof.Rows LamX
section
variable {X : Cx} {pins : List (Addr × Obj)} {σ : St} {H : Hp} {s : Shared} {m : Mem} {d : Addr} {kvs : List (Key × D)} {kv : List (Key × V)}
theorem pairs_get {P : Program} {w : World} : ∀ {es : List DictEntry} {vs : List (Key × Value)}, Pairs (mixKind P w) es vs → ∀ {j : Nat} {en : DictEntry}, es[j]? = some en → ∃ p, vs[j]? = some p ∧ keyIs p.1 en.key = true ∧ en.val = p.2
  | _, _, .nil, j, en, e => by simp at e
  | _, _, .cons h1 h2 r, 0, en, e => by
    simp only [List.getElem?_cons_zero, Option.some.injEq] at e
    subst e
    exact ⟨_, rfl, h1, h2⟩
  | _, _, .cons h1 h2 r, j + 1, en, e => by
    simp only [List.getElem?_cons_succ] at e ⊢
    exact pairs_get r e
theorem idx_nd {as : List Addr} (h : as.Pairwise (· < ·)) {j : Nat} {a : Addr} (e : as[j]? = some a) : as.idxOf a = j := by
  obtain ⟨hj, ea⟩ := List.getElem?_eq_some_iff.mp e
  have hm : a ∈ as := by rw [← ea]; exact List.getElem_mem hj
  have hi := List.idxOf_lt_length_iff.mpr hm
  have e2 : as[as.idxOf a] = a := List.getElem_idxOf hi
  have p := List.pairwise_iff_getElem.mp h
  rcases Nat.lt_trichotomy (as.idxOf a) j with z | z | z
  · have := p _ _ hi hj z; rw [e2, ea] at this; exact absurd this (Nat.lt_irrefl _)
  · exact z
  · have := p _ _ hj hi z; rw [e2, ea] at this; exact absurd this (Nat.lt_irrefl _)
noncomputable def tupAt (kv : List (Key × V)) (as : List Addr) (a : Addr) : HO := match kv[as.idxOf a]? with
  | some p => .tup [kV p.1, p.2]
  | none => .tup []
open Classical in
noncomputable def exAt (kv : List (Key × V)) (as : List Addr) (f0 : Addr → HO) (a : Addr) : HO := if a ∈ as then tupAt kv as a else f0 a
theorem items_laidX {ex : List Addr} {f0 : Addr → HO} {vs : List (Key × Value)} {es : Array DictEntry} {h' : Heap} {tk : Nat} {as : List Addr} (I : Inv X pins σ H s) (rk : RepK X.K H kvs kv) (rel : KV kv vs) (pr : Pairs (mixKind X.prog X.w) es.toList vs)
    (k : ∀ b o, s.heap.get? b = some o → h'.get? b = some o) (hl : as.length = es.size) (g : PySem.W.DilG es s.heap.objs.size h' as)
    (hex : ∀ a ∈ ex, s.heap.objs.size ≤ a ∧ a ∉ as ∧ ∀ G : Hp, ObjOk X.prog X.w G h' a (f0 a)) :
    ∃ H2, Inv X pins σ H2 { s with heap := h', toks := tk } ∧ Reps X.K H2 (kvs.map fun p => .tup [keyV p.1, p.2]) (as.map V.ref) ∧ (∀ b u, H b = some u → H2 b = some u) ∧ (∀ b, H2 b = none → H b = none) ∧ ∀ a ∈ ex, H2 a = some (f0 a) := by
  have lo : ∀ a ∈ ex ++ as, s.heap.objs.size ≤ a := fun a ha => by
    rcases List.mem_append.mp ha with ha | ha
    · exact (hex a ha).1
    · exact Nat.le_of_lt (g.above a ha)
  have nn : ∀ a ∈ ex ++ as, H a = none := fun a ha => I.hok.fresh (lo a ha)
  have fin : ∀ a ∈ as, exAt kv as f0 a = tupAt kv as a := fun a ha => by classical exact if_pos ha
  have fex : ∀ a ∈ ex, exAt kv as f0 a = f0 a := fun a ha => by classical exact if_neg (hex a ha).2.1
  have keepH : ∀ b u, H b = some u → updL H (ex ++ as) (exAt kv as f0) b = some u := fun b u e => by
    rw [updL_out (fun z => by rw [nn b z] at e; cases e)]; exact e
  have n1 : es.size = kv.length := by
    have h1 := pr.length
    have h2 : kv.length = vs.length := Paired.length rel
    rw [Array.length_toList] at h1
    omega
  have n2 : kvs.length = kv.length := rk.len
  have at_ : ∀ (j : Nat) (a : Addr), as[j]? = some a → ∃ p u, kv[j]? = some p ∧ es.toList[j]? = some u ∧ RelV (kV p.1) u.key ∧ RelV p.2 u.val := fun j a e => by
    have hj : j < es.size := by rw [← hl]; exact (List.getElem?_eq_some_iff.mp e).1
    have e1 : es.toList[j]? = some es[j] := by rw [List.getElem?_eq_getElem (by rw [Array.length_toList]; exact hj), Array.getElem_toList]
    obtain ⟨p, e2, h3, h4⟩ := pairs_get pr e1
    have e5 : kv[j]? = some (kv[j]'(by omega)) := List.getElem?_eq_getElem (by omega)
    obtain ⟨u, e6, h7⟩ := kv_get (k := (kv[j]'(by omega)).1) (v := (kv[j]'(by omega)).2) rel e5
    rw [e2] at e6
    cases e6
    exact ⟨_, _, e5, e1, relV_key h3, by rw [h4]; exact h7⟩
  refine ⟨updL H (ex ++ as) (exAt kv as f0), Inv.laidL I k lo (fun a ha => ?_), ?_, keepH, fun b e => ?_, fun a ha => by rw [updL_in (List.mem_append_left _ ha), fex a ha]⟩
  · rcases List.mem_append.mp ha with ha | ha
    · rw [fex a ha]; exact (hex a ha).2.2 _
    rw [fin a ha]
    obtain ⟨j, ej⟩ := List.mem_iff_getElem?.mp ha
    obtain ⟨p, u, e1, e2, r1, r2⟩ := at_ j a ej
    obtain ⟨hj, e3⟩ := g.pairs j a ej
    unfold tupAt
    rw [idx_nd g.rise ej, e1]
    have eu : u = es[j] := by
      rw [List.getElem?_eq_getElem (by rw [Array.length_toList]; exact hj), Array.getElem_toList] at e2
      exact (Option.some.inj e2).symm
    subst eu
    exact ⟨by rw [sizeLine_eq]; show 2 ≤ _; omega, [es[j].key, es[j].val], .cons r1 (.cons r2 .nil), _, e3, rfl, 0, rfl⟩
  · have key : ∀ (n : Nat) (kvs' : List (Key × D)) (as' : List Addr), kvs' = kvs.drop n → as' = as.drop n → Reps X.K (updL H (ex ++ as) (exAt kv as f0)) (kvs'.map fun p => D.tup [keyV p.1, p.2]) (as'.map V.ref) := by
      intro n kvs' 
      induction kvs' generalizing n with
      | nil =>
        intro as' e1 e2
        have : kvs.length ≤ n := by
          have := congrArg List.length e1
          rw [List.length_nil, List.length_drop] at this; omega
        have e3 : as' = [] := by rw [e2]; exact List.drop_eq_nil_iff.mpr (by omega)
        rw [e3]; exact .nil
      | cons p r ih =>
        intro as' e1 e2
        have hn : n < kvs.length := by
          have := congrArg List.length e1
          rw [List.length_cons, List.length_drop] at this; omega
        rw [List.drop_eq_getElem_cons hn] at e1
        obtain ⟨ep, er⟩ := List.cons.inj e1
        have hn2 : n < as.length := by omega
        rw [List.drop_eq_getElem_cons hn2] at e2
        rw [e2, List.map_cons, List.map_cons]
        have ea : as[n]? = some as[n] := List.getElem?_eq_getElem hn2
        obtain ⟨q, u, g1, g2, r1, r2⟩ := at_ n _ ea
        obtain ⟨v, k1, k2⟩ := repK_get rk (i := n) (p := p) (by rw [ep]; exact List.getElem?_eq_getElem hn)
        rw [g1] at k1
        cases k1
        refine .cons (.tup (vs := [kV p.1, v]) ?_ (.cons (keyV_rep _) (.cons (k2.mono ⟨fun b xs e => keepH b _ e, fun b o u e => keepH b _ e, fun b q e => keepH b _ e⟩) .nil))) (ih (n + 1) _ er rfl)
        rw [updL_in (List.mem_append_right _ (List.getElem_mem hn2)), fin _ (List.getElem_mem hn2)]
        unfold tupAt
        rw [idx_nd g.rise ea, g1]
    exact key 0 _ _ rfl rfl
  · by_cases z : b ∈ ex ++ as
    · rw [updL_in z] at e; cases e
    · rw [updL_out z] at e; exact e
theorem items_laid {vs : List (Key × Value)} {es : Array DictEntry} {h' : Heap} {tk : Nat} {as : List Addr} (I : Inv X pins σ H s) (rk : RepK X.K H kvs kv) (rel : KV kv vs) (pr : Pairs (mixKind X.prog X.w) es.toList vs)
    (k : ∀ b o, s.heap.get? b = some o → h'.get? b = some o) (hl : as.length = es.size) (g : PySem.W.DilG es s.heap.objs.size h' as) :
    ∃ H2, Inv X pins σ H2 { s with heap := h', toks := tk } ∧ Reps X.K H2 (kvs.map fun p => .tup [keyV p.1, p.2]) (as.map V.ref) ∧ (∀ b u, H b = some u → H2 b = some u) ∧ (∀ b, H2 b = none → H b = none) := by
  obtain ⟨H2, h1, h2, h3, h4, _⟩ := items_laidX (ex := []) (f0 := fun _ => .tup []) (tk := tk) I rk rel pr k hl g (fun _ h => nomatch h)
  exact ⟨H2, h1, h2, h3, h4⟩
theorem ext_of {H H2 : Hp} (k : ∀ b u, H b = some u → H2 b = some u) : Ext H H2 := ⟨fun b _ e => k b _ e, fun b _ _ e => k b _ e, fun b _ e => k b _ e⟩
theorem step_of {H H2 : Hp} {m : Mem} (k : ∀ b u, H b = some u → H2 b = some u) (n : ∀ b, H2 b = none → H b = none) : Step H m H2 m := ⟨ext_of k, n, fun b o _ e => k b o e, fun b o h _ => h⟩
theorem sim_of {K : PySem.W.Frag} {H H2 : Hp} {m : Mem} (s : Sim K H m) (k : ∀ b u, H b = some u → H2 b = some u) : Sim K H2 m := fun a o e => (s a o e).mono (ext_of k) fun u h => k a u h
end
def itemD (p : Key × D) : D := .tup [keyV p.1, p.2]
/-- a dict and what it holds, at the end of an expression -/
def dRdD (t : DTE) (k : List (Key × D) → List D → Mem → Prop) : DEnv → Mem → Prop := fun ρ m => t ρ m fun d m1 => ∃ a kvs, d = .ref a ∧ dictAt m1 a kvs ∧ k kvs (kvs.map itemD) m1
section
variable {X : Cx} {B : Bs}
theorem raw_mix {P : Program} {w : World} {h : Heap} {a : Addr} {vs : List (Key × Value)} (hm : h.DictOf (mixKind P w) a vs) : ∃ es ep, h.DictRaw a es ep ∧ Pairs (mixKind P w) es.toList vs := by
  obtain ⟨o, es, ep, h1, h2, h3, h4, h5, h6⟩ := hm
  exact ⟨es, ep, ⟨o, h1, h2, h3⟩, h5⟩
/-- list(d.items()) -/
def dListItems (t : DTE) : DTL := fun ρ m q => dRdD t (fun _ ds m1 => q ds m1) ρ m
theorem dl_listItems {e : Expr} {te : DTE} {p apos cpos pos : Pos} (hc : X.calm = true) (hg : Gl X "list") (hm : X.mg "list" = none) (he : DE B X e te) (hbase : attributeBase e "items" X.env (eval e X.env) = eval e X.env := by rfl) (hline : (apos.endLine == cpos.line) = true := by rfl)
    (na : starEach [.Call (.Attribute e "items" apos) [] [] cpos] X.env = (false, eval (.Call (.Attribute e "items" apos) [] [] cpos) X.env) :: starEach [] X.env := by rfl) :
    DL B X (.Call (.Name "list" p) [.Call (.Attribute e "items" apos) [] [] cpos] [] pos) (dListItems te) := by
  refine ⟨fun pins s σ H Q I ⟨ρ, m, q, pr, h, post⟩ => ?_⟩
  refine Call_ (ld_blt I hg hm boot_list (PyProof.Rows.callWith_type1 (args_cons (ev_items (Q := fun d H1 => ∃ kvs m1, dictAt m1 d kvs ∧ q (kvs.map itemD) m1 ∧ Sim X.K H1 m1 ∧ Step H m H1 m1) he hbase hline I
    ⟨ρ, m, _, pr, h, fun d m1 v H1 ⟨a, kvs, e1, e2, h1⟩ r1 s1 t1 => by subst e1; cases r1; exact ⟨a, rfl, kvs, m1, e2, h1, s1, t1⟩⟩ (fun d H1 ⟨kvs, m1, hd, _, sim, _⟩ => let ⟨kv, h1, _⟩ := hd.rd sim; ⟨kv, h1⟩)
    fun v d H1 s1 hv I1 ⟨kvs, m1, hd, hq, sim, st⟩ => args_nil ?_) na) na))
  obtain ⟨kv, h1, h2⟩ := hd.rd sim
  obtain ⟨z, lo, vs, rel, hm1⟩ := dk_rd I1.hok h1
  obtain ⟨es, ep, hraw, prs⟩ := raw_mix hm1
  have nz : es.size = kv.length := by
    have g1 := prs.length
    have g2 : kv.length = vs.length := Paired.length rel
    rw [Array.length_toList] at g1; omega
  refine PySem.W.dil_call (I1.ok.hd hc) hv hraw (by rw [nz]; exact z) fun h' tk acc c as hk hl hn g hacc => ?_
  have nL : s1.heap.objs.size ∉ as := fun z => absurd (g.above _ z) (Nat.lt_irrefl _)
  have hz : (as.map V.ref).length ≤ sizeLine := by rw [List.length_map, hn, nz]; exact z
  obtain ⟨H2, I2, reps, kH, nH, hL⟩ := items_laidX (ex := [s1.heap.objs.size]) (f0 := fun _ => .lst (as.map V.ref)) (tk := tk) I1 h2 rel prs hk hn g (fun a ha => by
    rw [List.mem_singleton.mp ha]
    exact ⟨Nat.le_refl _, nL, fun G => ⟨hz, as.map Value.ref, c, vals_of_map fun x _ => rfl, by rw [← hacc, Array.toArray_toList]; exact hl⟩⟩)
  have n1 : H1 s1.heap.objs.size = none := I1.hok.fresh (Nat.le_refl _)
  exact ⟨.ref s1.heap.objs.size, H2, I2, rfl, post _ m1 _ _ _ hq (hL _ (List.mem_singleton.mpr rfl)) reps (sim.free n1) (st.dom _ n1) (sim_of sim kH) (st.trans (step_of kH nH))⟩
/-- sorted(d.items()), ints to ints -/
def dSortItems (t : DTE) : DTL := fun ρ m q => dRdD t (fun kvs _ m1 => ∃ ps : List (Int × Int), kvs = ps.map (fun p => ((.inl p.1 : Key), D.int p.2)) ∧ ps.length < 64 ∧ ∃ bd : Int, (∀ p ∈ ps, TS.Bd bd [p.1, p.2]) ∧
  ∀ qs : List (Int × Int), qs.Perm ps → qs.Pairwise (fun x y => TS.code bd [x.1, x.2] ≤ TS.code bd [y.1, y.2]) → q (qs.map fun p => D.tup [.int p.1, .int p.2]) m1) ρ m
theorem repU_pairs {K : PySem.W.Frag} {H : Hp} : ∀ {ds : List (Int × Int)} {vs : List Value}, Two (fun (p : Int × Int) v => RepU K H (.tup [.int p.1, .int p.2]) v) ds vs → Two (RepU K H) (ds.map fun p => D.tup [.int p.1, .int p.2]) vs
  | _, _, .nil => .nil
  | _, _, .cons r t => .cons r (repU_pairs t)
theorem repU_back {K : PySem.W.Frag} {H : Hp} : ∀ {ds : List (Int × Int)} {vs : List Value}, Two (RepU K H) (ds.map fun p => D.tup [.int p.1, .int p.2]) vs → Two (fun (p : Int × Int) v => RepU K H (.tup [.int p.1, .int p.2]) v) ds vs
  | [], _, .nil => .nil
  | _ :: _, _, .cons r t => .cons r (repU_back t)
theorem dl_sortItems {e : Expr} {te : DTE} {p apos cpos pos : Pos} (hc : X.calm = true) (hg : Gl X "sorted") (hm : X.mg "sorted" = none) (hv0 : bootBuiltins "sorted" = some (.builtin "sorted")) (he : DE B X e te) (hbase : attributeBase e "items" X.env (eval e X.env) = eval e X.env := by rfl) (hline : (apos.endLine == cpos.line) = true := by rfl)
    (na : starEach [.Call (.Attribute e "items" apos) [] [] cpos] X.env = (false, eval (.Call (.Attribute e "items" apos) [] [] cpos) X.env) :: starEach [] X.env := by rfl) :
    DL B X (.Call (.Name "sorted" p) [.Call (.Attribute e "items" apos) [] [] cpos] [] pos) (dSortItems te) := by
  refine ⟨fun pins s σ H Q I ⟨ρ, m, q, pr, h, post⟩ => ?_⟩
  refine wpAny_Call_Name_kw (ld_blt I hg hm hv0 ?_ (by decide) (by decide))
  refine PyProof.Rows.callWith_builtin1 (args_cons (ev_items (Q := fun d H1 => ∃ (ps : List (Int × Int)) (bd : Int) (m1 : Mem), dictAt m1 d (ps.map (fun p => ((.inl p.1 : Key), D.int p.2))) ∧ ps.length < 64 ∧ (∀ p ∈ ps, TS.Bd bd [p.1, p.2]) ∧
      (∀ qs : List (Int × Int), qs.Perm ps → qs.Pairwise (fun x y => TS.code bd [x.1, x.2] ≤ TS.code bd [y.1, y.2]) → q (qs.map fun p => D.tup [.int p.1, .int p.2]) m1) ∧ Sim X.K H1 m1 ∧ Step H m H1 m1) he hbase hline I
    ⟨ρ, m, _, pr, h, fun d m1 v H1 ⟨a, kvs, e1, e2, ps, e3, h64, bd, hb, h1⟩ r1 s1 t1 => by subst e1 e3; cases r1; exact ⟨a, rfl, ps, bd, m1, e2, h64, hb, h1, s1, t1⟩⟩ (fun d H1 ⟨ps, bd, m1, hd, _, _, _, sim, _⟩ => let ⟨kv, h1, _⟩ := hd.rd sim; ⟨kv, h1⟩)
    fun v d H1 s1 hv I1 ⟨ps, bd, m1, hd, h64, hb, hq, sim, st⟩ => args_nil ?_) na) na
  obtain ⟨kv, h1, h2⟩ := hd.rd sim
  obtain ⟨z, lo, vs, rel, hm1⟩ := dk_rd I1.hok h1
  obtain ⟨es, ep, hraw, prs⟩ := raw_mix hm1
  have nz : es.size = ps.length := by
    have g1 := prs.length
    have g2 : kv.length = vs.length := Paired.length rel
    have g3 := h2.len
    rw [List.length_map] at g3
    rw [Array.length_toList] at g1; omega
  have laid := fun (h' : Heap) (tk : Nat) (as : List Addr) hk hn g => items_laid (h' := h') (tk := tk) (as := as) I1 h2 rel prs hk hn g
  have eq0 : (ps.map (fun p => ((.inl p.1 : Key), D.int p.2))).map (fun p => D.tup [keyV p.1, p.2]) = ps.map fun p => D.tup [.int p.1, .int p.2] := by rw [List.map_map]; rfl
  refine sorted_gen2 (d := 2) (B := bd) (G := fun h' us => ∃ as, us = as.map Value.ref ∧ as.length = es.size ∧ PySem.W.DilG es s1.heap.objs.size h' as ∧ (∀ b o, s1.heap.get? b = some o → h'.get? b = some o)) (fun R hR => ?_) (fun h' us ⟨as, e1, e2, g, hk⟩ => ?_) fun h' h3 tk us out c k1 ⟨as, e1, e2, g, _⟩ k2 hc' pm pw => ?_
  · exact PySem.W.dil_collect (I1.ok.hd hc) hv hraw (by rw [nz]; exact small64 h64) fun h' tk as hk hn g => hR h' tk _ hk ⟨as, rfl, hn, g, hk⟩
  · subst e1
    obtain ⟨H2, I2, reps, kH, nH⟩ := laid h' s1.toks as hk e2 g
    rw [eq0] at reps
    refine ⟨by rw [List.length_map]; omega, fun _ => by decide, fun v hv => ?_⟩
    have t := repU_of (zs := as.map V.ref) (vs := as.map Value.ref) reps (vals_of_map fun x _ => rfl)
    obtain ⟨x, hx, rx⟩ := t.mem hv
    obtain ⟨p, hp, rfl⟩ := List.mem_map.mp hx
    exact ⟨[p.1, p.2], repU_row I2 rx rfl, rfl, hb p hp⟩
  · subst e1
    obtain ⟨H2, I2, reps, kH, nH⟩ := laid h' tk as k1 e2 g
    rw [eq0] at reps
    have t := repU_back (repU_of (zs := as.map V.ref) (vs := as.map Value.ref) reps (vals_of_map fun x _ => rfl))
    obtain ⟨ys, ty, py⟩ := t.perm pm
    obtain ⟨zs', r1, r2⟩ := repU_to (repU_pairs ty)
    have up : ys.Pairwise (fun x y => TS.code bd [x.1, x.2] ≤ TS.code bd [y.1, y.2]) := ty.pairs pw fun x u y v rx ry hle => by
      rw [← (repU_row I2 rx (ns := [x.1, x.2]) rfl).ints, ← (repU_row I2 ry (ns := [y.1, y.2]) rfl).ints]
      exact hle
    have hlen : zs'.length ≤ sizeLine := by rw [r2.length, pm.length_eq, List.length_map, e2, nz]; exact small64 h64
    have n3 : H2 h'.objs.size = none := I2.hok.fresh (Nat.le_refl _)
    have n1 : H1 h'.objs.size = none := nH _ n3
    have n0 : H h'.objs.size = none := st.dom _ n1
    refine ⟨.ref h'.objs.size, upd H2 h'.objs.size (.lst zs'), I2.laid (t' := tk) k2 (Nat.le_refl _) ⟨hlen, out.toList, c, r2, hc'⟩, rfl, ?_⟩
    exact post _ m1 h'.objs.size zs' _ (hq ys py up) upd_same (r1.mono (upd_new n3)) (sim.free n1) n0 ((sim_of sim kH).alloc n3) ((st.trans (step_of kH nH)).trans (Step.alloc n3))
end
end L2.Lh

/-! defs with defaults -/
namespace L2.Lh
open PySem PySem.Spec PyProof.Rows LamX
abbrev FunDf (K : PySem.W.Frag) (x qual : Str) (st : Stmt) (f : Addr) (fd : FuncData) (dvs : List V) : Prop := FunD K x qual (defArgs st) (defBody st) (defScope st) dvs [] f fd
section
variable {K : PySem.W.Frag}
theorem funDf_mk {x qual : Str} {st : Stmt} {f T : Addr} {o : Obj} {oc : Value} {od an : Option Addr} {osl : Array (Option Value)} {kV doc pm cdv ct : Value} {its : List Value} {n : Nat} {dvs : List V}
    (l : K.lookup f = some ⟨oc, od, .func (PySem.W.fnOf x qual (defArgs st) (defBody st) (defScope st) (.ref T) kV doc pm an cdv ct), osl⟩) (c : PySem.W.codeIn K cdv qual = true) (k : PySem.W.keepIn K (.ref f) = true)
    (lT : K.lookup T = some o) (dT : o.data = .seq its.toArray n) (hv : Vals dvs its) (ne : dvs ≠ []) : FunDf K x qual st f (PySem.W.fnOf x qual (defArgs st) (defBody st) (defScope st) (.ref T) kV doc pm an cdv ct) dvs :=
  ⟨⟨oc, od, .ref T, kV, doc, pm, an, cdv, ct, osl, rfl, l, c, .inr ⟨ne, T, o, its, n, rfl, lT, dT, hv⟩, .inl rfl⟩, k⟩
variable {x qual : Str} {st : Stmt} {f : Addr} {fd : FuncData} {dvs : List V} {ps ks : List Str} {ix : List Nat}
theorem bindsD_all (F : FunDf K x qual st f fd dvs) (hd : dvs ≠ [])
    (h : ∀ (T : Addr) (kV doc pm : Value) (an : Option Addr) (cdv ct : Value) (us its : List Value), us.length = ps.length → its.length = dvs.length →
      ∃ k, bindArgs (PySem.W.fnOf x qual (defArgs st) (defBody st) (defScope st) (.ref T) kV doc pm an cdv ct) ⟨us, []⟩ = seqItems? (.ref T) >>= k ∧ k (some its.toArray) = pure (ps.zip us)) : Binds K fd ps [] := by
  obtain ⟨ds, h1, h2⟩ := F.binds1 (ps := ps) ps.length dvs.length hd (by omega) fun T kV doc pm an cdv ct us its hl hi => by
    obtain ⟨k, e1, e2⟩ := h T kV doc pm an cdv ct us its hl hi
    refine ⟨k, e1, ?_⟩
    rw [List.drop_of_length_le (by omega), List.append_nil]
    exact e2
  rw [List.drop_of_length_le (Nat.le_refl _)] at h1
  cases h1
  exact h2
theorem bindsD_df (F : FunDf K x qual st f fd dvs) (hd : dvs ≠ []) (n : Nat) (hn : n + dvs.length = ps.length)
    (h : ∀ (T : Addr) (kV doc pm : Value) (an : Option Addr) (cdv ct : Value) (us its : List Value), us.length = n → its.length = dvs.length →
      ∃ k, bindArgs (PySem.W.fnOf x qual (defArgs st) (defBody st) (defScope st) (.ref T) kV doc pm an cdv ct) ⟨us, []⟩ = seqItems? (.ref T) >>= k ∧ k (some its.toArray) = pure (ps.zip (us ++ its))) : ∃ ds, Vals dvs ds ∧ Binds K fd ps ds := by
  obtain ⟨ds, h1, h2⟩ := F.binds1 (ps := ps) n 0 hd (by omega) fun T kV doc pm an cdv ct us its hl hi => by
    obtain ⟨k, e1, e2⟩ := h T kV doc pm an cdv ct us its hl hi
    exact ⟨k, e1, by rw [List.drop_zero]; exact e2⟩
  rw [List.drop_zero] at h1
  exact ⟨ds, h1, h2⟩
end
section
variable {P : Program} {w : World} {K : PySem.W.Frag} {mg : Str → Option Value} {base : Heap}
theorem fnD_ofD {x qual : Str} {st : Stmt} {f : Addr} {fd : FuncData} {N ps : List Str} {k : Nat} {sp : DSp} {dvs : List V} (F : FunDf K x qual st f fd dvs) (S : FnScope N ps (defScope st)) (len : ∀ {ds m q qe}, sp ds m q qe → ds.length = ps.length)
    (body : ∀ (cdv : Value) (A : Around) (outer : List Env) (s : Shared) (H : Hp) (E : XK) (B : Bs) (qe : Value → Mem → Prop),
      Room k (A.deeper (envOfC qual (defScope st) s.heap.objs.size f cdv)) →
      Takes (cxOf (L2.CX P w) P w K mg base N qual (defScope st) f cdv A outer s H E) (upW K B fun cls _ m => qe cls m) →
      PassesOwn (model P w) (cxOf (L2.CX P w) P w K mg base N qual (defScope st) f cdv A outer s H E).A (cxOf (L2.CX P w) P w K mg base N qual (defScope st) f cdv A outer s H E).env (cxOf (L2.CX P w) P w K mg base N qual (defScope st) f cdv A outer s H E).xe →
      ∃ t, DSs B (cxOf (L2.CX P w) P w K mg base N qual (defScope st) f cdv A outer s H E) (defBody st) t ∧ ∀ ds m q, sp ds m q qe → t (defEnds q) (startD N ds) m) : FnD P w K mg base (k + 1) f fd ps sp := by
  refine F.ok S (fun vs H Q E h => ?_) (fun cdv A outer s H vs Q E hr h => ?_)
  · obtain ⟨ds, m, q, qe, r, _, h, _⟩ := h
    rw [← r.length]
    exact len h
  · obtain ⟨ds, m, q, qe, r, sim, h, post, hE⟩ := h
    have tk : Takes (cxOf (L2.CX P w) P w K mg base N qual (defScope st) f cdv A outer s H E) (upW K ⟨H, m⟩ fun cls _ m => qe cls m) :=
      (takes_of (E := E) rfl rfl rfl rfl).imp fun cls d σ H' ⟨e, ρ, m', p, q'⟩ => by
        subst e
        exact hE cls m' H' q' p.sim p.st
    obtain ⟨t, ht, hq⟩ := body cdv A outer s H E ⟨H, m⟩ qe hr tk (passes_of (K := fun e s'' => L2.CX P w outer H s E e s'') rfl)
    refine ⟨_, ht, startD N ds, m, defEnds q, ⟨start_ok r, sim, Step.refl _ _⟩, hq ds m q h, ?_⟩
    exact ⟨fun ρ' m' σ' H' ⟨m2, hle, hq⟩ env s2 st => post .non m2 .non H' hq .non (s2.forget hle) (st.forget hle), fun d m' v H' ⟨m2, hle, hq⟩ rd s2 st => post d m2 v H' hq rd (s2.forget hle) (st.forget hle),
      fun _ _ _ _ z => False.elim z, fun _ _ _ _ z => False.elim z⟩
theorem kwB_ofD {x qual : Str} {st : Stmt} {f : Addr} {fd : FuncData} {ps ks : List Str} {ix : List Nat} {dvs : List V} (F : FunDf K x qual st f fd dvs) (hd : dvs ≠ [])
    (h : ∀ (T : Addr) (kV doc pm : Value) (an : Option Addr) (cdv ct : Value) (ws its : List Value), ws.length = ks.length → its.length = dvs.length →
      ∃ k, bindArgs (PySem.W.fnOf x qual (defArgs st) (defBody st) (defScope st) (.ref T) kV doc pm an cdv ct) ⟨[], ks.zip ws⟩ = seqItems? (.ref T) >>= k ∧ k (some its.toArray) = pure (ps.zip (ix.map fun i => ws.getD i .none))) :
    ∀ (s : Shared) (ws : List Value), K.In s.heap → ws.length = ks.length → BindsTo s fd ⟨[], ks.zip ws⟩ (ps.zip (ix.map fun i => ws.getD i .none)) := by
  obtain ⟨oc, od, dV, kV, doc, pm, an, cdv, ct, osl, rfl, lk, hcd, hD, hK⟩ := F.ex
  rcases hD with ⟨e, _⟩ | ⟨_, T, o, its, m, rfl, lT, oT, rT⟩
  · exact absurd e hd
  · intro s ws X hl
    obtain ⟨k, e1, e2⟩ := h T kV doc pm an cdv ct ws its hl rT.length.symm
    refine BindsTo.of_looks fun M => ?_
    rw [e1]
    exact looks_items X lT oT (.of_pure e2)
end
section
variable {X : Cx} {B : Bs} {k : Nat} {ps : List Str} {sp : DSp} {we : DWX} {x : Str} {p pos : Pos} {e : Expr} {es : List Expr} {t : DTA} {ds0 : List D} {vs0 : List V}
def dCallDf (sp : DSp) (we : DWX) (ds0 : List D) (t : DTA) : DTE := fun ρ m q => t ρ m fun ds m1 => sp (ds ++ ds0) m1 q fun cls m2 => we cls ρ m2
theorem run_fnSD {CX : CXT} {f : Addr} {fd : FuncData} {sp : Sp} {E : St → XK} {pins : List (Addr × Obj)} {σ : St} {H : Hp} {s : Shared} {Q : VK} {us us0 : List Value} {vs vs0 : List V} (F : FnOk X.prog X.w X.K X.mg X.base CX k f fd ps sp) (hr : Room k X.A) (hb : Binds X.K fd ps us0) (r0 : Vals vs0 us0) (hx : PassesAt CX X σ (E σ))
    (I : Inv X pins σ H s) (r : Vals vs us) (h : sp (vs ++ vs0) H Q (E σ)) : wpAny (model X.prog X.w) X.A (call (.ref f) us) (EP X pins σ Q) X.xe s := by
  have ra : Vals (vs ++ vs0) (us ++ us0) := r.append r0
  have hl : (us ++ us0).length = ps.length := by rw [← ra.length]; exact F.len _ _ _ _ h
  have b := hb s us I.kIn hl
  refine wpAny_call (codeAny_mono (F.run X.A X.stack s H ⟨us, []⟩ (us ++ us0) (vs ++ vs0) Q (E σ) hr I.env0 b ra h) fun r s' hq => ?_)
  cases r with
  | error e => exact hx pins H s e s' I hq
  | ok fl =>
    cases fl with
    | ret u => exact I.after hq
    | next => exact False.elim hq
    | brk => exact False.elim hq
    | cont => exact False.elim hq
theorem de_callDf (d : DefAt X.prog X.w X.K X.mg X.base k x ps sp) (hb : ∃ us0, Vals vs0 us0 ∧ Binds X.K d.fd ps us0) (r0 : ∀ H, Reps X.K H ds0 vs0) (hr : Room k X.A) (hg : Gl X x) (tk : Takes X (upW X.K B we)) (ha : DA B X (e :: es) t) (hdb : (x == ("__debug__" : Str)) = false := by decide)
    (he : starEach (e :: es) X.env = (false, eval e X.env) :: starEach es X.env := by rfl) (hpl : (backTo pos (starEach es X.env)).any (·.1) = false := by rfl) : DE B X (.Call (.Name x p) (e :: es) [] pos) (dCallDf sp we ds0 t) := by
  obtain ⟨us0, g1, g2⟩ := hb
  refine ⟨fun pins s σ H Q I ⟨ρ, m, q, pr, h, post⟩ => ?_⟩
  refine wpAny_Call_Name_kw (ld_glob I hg d.g ?_ hdb)
  refine PySem.W.callWith_K (h₀ := X.base) I.ok.mod.kin d.kp (thn (ha.run pos pins s σ H (fun vs H1 => ∃ ds m1, Reps X.K H1 ds vs ∧ Sim X.K H1 m1 ∧ Step H m H1 m1 ∧ sp (ds ++ ds0) m1 q fun cls m2 => we cls ρ m2) I ⟨ρ, m, _, pr, h, fun ds m1 vs H1 h1 r1 s1 t1 => ⟨ds, m1, r1, s1, t1, h1⟩⟩) fun us s1 ⟨vs, H1, I1, r, ds, m1, r1, s1', t1, h1⟩ => ⟨I1.kIn, ?_⟩) he hpl
  refine run_fnSD (E := WE (upW X.K B we)) d.ok hr g2 g1 (passAt tk σ) I1 r ⟨ds ++ ds0, m1, q, _, r1.append (r0 H1), s1', h1, fun d2 m2 v2 H2 h2 r2 s2 t2 => post d2 m2 v2 H2 h2 r2 s2 (t1.trans t2), fun cls m2 H2 hq s2 t2 => ⟨rfl, ρ, m2, pr.next s2 (t1.trans t2), hq⟩⟩
end
section
variable {X : Cx} {B : Bs} {k : Nat} {ps ks : List Str} {ix : List Nat} {sp : DSp} {we : DWX} {x : Str} {p pos kpos : Pos} {e : Expr} {kws : List Keyword} {te : DTE} {t : DTA} {f : Addr} {fd : FuncData} {nm : Option Str}
def KwBI (K : PySem.W.Frag) (fd : FuncData) (ps ks : List Str) (ix : List Nat) : Prop := ∀ (s : Shared) (ws : List Value), K.In s.heap → ws.length = ks.length → BindsTo s fd ⟨[], ks.zip ws⟩ (ps.zip (ix.map fun i => ws.getD i .none))
theorem de_callKI (R : Runs X f fd ps (upSp X.K sp)) (hkb : KwBI X.K fd ps ks ix) (hix : ∀ i ∈ ix, i < ks.length) (hg : Gl X x) (hm : X.mg x = some (.ref f)) (hk : PySem.W.keepIn X.K (.ref f) = true) (tk : Takes X (upW X.K B we)) (hkw : DK B X kws t)
    (hall : (backToKw pos (keywordEach kws X.env)).all (·.1.isSome) = true := by rfl) (hks : (backToKw pos (keywordEach kws X.env)).filterMap (·.1) = ks := by rfl) (hdb : (x == ("__debug__" : Str)) = false := by decide)
    (hpl : ((backTo pos (starEach [] X.env)).any (·.1) || (backToKw pos (keywordEach kws X.env)).any (·.1.isNone)) = false := by rfl) :
    DE B X (.Call (.Name x p) [] kws pos) (dCallK sp we ks.length ix t) := by
  refine ⟨fun pins s σ H Q I ⟨ρ, m, q, pr, h, post⟩ => ?_⟩
  refine wpAny_Call_Name_kw (ld_glob I hg hm ?_ hdb)
  refine PySem.W.callWith_KW0 (h₀ := X.base) I.ok.mod.kin hk hall ?_ hpl
  refine thn (hkw.run pos pins s σ H (fun vs H1 => vs.length = ks.length ∧ upSp X.K sp (ix.map fun i => vs.getD i .non) H1 Q (WE (upW X.K B we) σ)) I ⟨ρ, m, _, pr, h, fun ds m1 vs H1 h1 r1 s1 t1 => ?_⟩) fun ws s2 ⟨zs, H2, I2, rz, hl, q2⟩ => ⟨I2.kIn, ?_⟩
  · obtain ⟨hl, h1⟩ := h1
    refine ⟨by rw [← r1.length]; exact hl, _, m1, q, _, reps_perm r1 (by rw [hl]; exact hix), s1, h1, fun d2 m2 v2 H2 h2 r2 s2 t2 => post d2 m2 v2 H2 h2 r2 s2 (t1.trans t2), fun cls m2 H2 hq s2 t2 => ⟨rfl, ρ, m2, pr.next s2 (t1.trans t2), hq⟩⟩
  · rw [hks]
    exact R _ pins σ H2 s2 Q ⟨[], ks.zip ws⟩ _ _ I2 (passAt tk σ) (hkb s2 ws I2.kIn (by rw [← rz.length]; exact hl)) (vals_perm rz (by rw [hl]; exact hix)) q2
end
end L2.Lh

/-! a part of a tuple whose very object is known *)
-/
namespace L2.Lh
open PySem PySem.Spec PyProof.Rows LamX
def slF (d : D) (lo hi : Option Int) (m : Mem) (q : DQ) : Prop := match d with
  | .ftup xs => (cutL xs lo hi).length < xs.length ∧ q (.tup (cutL xs lo hi)) m
  | _ => slD d lo hi m q
def dSlF (te : DTE) (tl th : DTO) : DTE := fun ρ m q => te ρ m fun x m1 => tl ρ m1 fun l m2 => th ρ m2 fun u m3 => slF x l u m3 q
theorem slF_f {xs : List D} {lo hi : Option Int} {m : Mem} {q : DQ} : slF (.ftup xs) lo hi m q = ((cutL xs lo hi).length < xs.length ∧ q (.tup (cutL xs lo hi)) m) := rfl
section
variable {X : Cx} {B : Bs} {e : Expr} {te : DTE} {tl th : DTO} {lo hi : Option Expr} {pos p2 : Pos}
theorem d_slF : SlR X (fun x lo hi H Q => ∃ d m q, Rep X.K H d x ∧ Sim X.K H m ∧ slF d lo hi m q ∧ PostE X.K H m q Q) := by
  intro pins s σ H x v vl vu lo hi sl Q I rx hs pl pu ⟨d, m, q, r, sim, h, post⟩
  cases d with
  | ftup xs =>
    obtain ⟨hl, h⟩ := h
    cases r with
    | ftup h1 hn q1 =>
      refine sl_tupA pins s σ H _ v vl vu lo hi sl Q I rx hs pl pu ⟨_, _, rfl, .inl (.inr ⟨_, h1⟩), fun e => ?_, fun _ p hp => post.tup h hp (q1.cut lo hi) sim⟩
      rw [← q1.length] at e
      rw [cut_whole e] at hl
      exact absurd hl (Nat.lt_irrefl _)
  | _ => exact d_sl pins s σ H x v vl vu lo hi sl Q I rx hs pl pu ⟨_, m, q, r, sim, h, post⟩
theorem de_sliceF (he : DE B X e te) (hl : DO B X lo tl) (hu : DO B X hi th) : DE B X (.Subscript e (.Slice lo hi none p2) pos) (dSlF te tl th) :=
  pe_imp (pe_slice d_slF he hl hu) fun σ H Q ⟨ρ, m, q, p, h, post⟩ => ⟨ρ, m, _, p, h, fun d m1 v H1 h1 r1 s1 t1 => ⟨ρ, m1, _, p.next s1 t1, h1, fun l m2 H2 h2 s2 t2 =>
    ⟨ρ, m2, _, (p.next s1 t1).next s2 t2, h2, fun u m3 H3 h3 s3 t3 => ⟨d, m3, q, (r1.mono t2.ext).mono t3.ext, s3, h3, fun d4 m4 v4 H4 h4 r4 s4 t4 => post d4 m4 v4 H4 h4 r4 s4 (t1.trans (t2.trans (t3.trans t4)))⟩⟩⟩⟩
end
end L2.Lh

/-! parts of a tuple whose very object is known, the whole too; such tuples put together -/
namespace L2.Lh
open PySem PySem.Spec PyProof.Rows LamX
def slW (d : D) (lo hi : Option Int) (m : Mem) (q : DQ) : Prop := match d with
  | .ftup xs => (HT.sIx xs.length 0 lo = 0 ∧ HT.sIx xs.length xs.length hi = xs.length → q (.ftup xs) m) ∧ (¬ (HT.sIx xs.length 0 lo = 0 ∧ HT.sIx xs.length xs.length hi = xs.length) → q (.tup (cutL xs lo hi)) m)
  | _ => slD d lo hi m q
def dSlW (te : DTE) (tl th : DTO) : DTE := fun ρ m q => te ρ m fun x m1 => tl ρ m1 fun l m2 => th ρ m2 fun u m3 => slW x l u m3 q
def addF3 : DR2 := fun x y m q => ∃ xs ys, itemsTp x = some xs ∧ itemsTp y = some ys ∧ xs ≠ [] ∧ xs.length + ys.length ≤ sizeLine ∧ (ys = [] → q x m) ∧ (ys ≠ [] → q (.ftup (xs ++ ys)) m)
section
variable {X : Cx} {B : Bs} {e : Expr} {te : DTE} {tl th : DTO} {lo hi : Option Expr} {pos p2 : Pos}
theorem d_slW : SlR X (fun x lo hi H Q => ∃ d m q, Rep X.K H d x ∧ Sim X.K H m ∧ slW d lo hi m q ∧ PostE X.K H m q Q) := by
  intro pins s σ H x v vl vu lo hi sl Q I rx hs pl pu ⟨d, m, q, r, sim, h, post⟩
  cases d with
  | ftup xs =>
    obtain ⟨hw, hp⟩ := h
    cases r with
    | ftup h1 hn q1 =>
      refine sl_tupA pins s σ H _ v vl vu lo hi sl Q I rx hs pl pu ⟨_, _, rfl, .inl (.inr ⟨_, h1⟩), fun e => ?_, fun e p hp' => ?_⟩
      · rw [← q1.length] at e
        exact post.here (hw e) (.ftup h1 hn q1) sim
      · rw [← q1.length] at e
        exact post.tup (hp e) hp' (q1.cut lo hi) sim
  | _ => exact d_sl pins s σ H x v vl vu lo hi sl Q I rx hs pl pu ⟨_, m, q, r, sim, h, post⟩
theorem de_sliceW (he : DE B X e te) (hl : DO B X lo tl) (hu : DO B X hi th) : DE B X (.Subscript e (.Slice lo hi none p2) pos) (dSlW te tl th) :=
  pe_imp (pe_slice d_slW he hl hu) fun σ H Q ⟨ρ, m, q, p, h, post⟩ => ⟨ρ, m, _, p, h, fun d m1 v H1 h1 r1 s1 t1 => ⟨ρ, m1, _, p.next s1 t1, h1, fun l m2 H2 h2 s2 t2 =>
    ⟨ρ, m2, _, (p.next s1 t1).next s2 t2, h2, fun u m3 H3 h3 s3 t3 => ⟨d, m3, q, (r1.mono t2.ext).mono t3.ext, s3, h3, fun d4 m4 v4 H4 h4 r4 s4 t4 => post d4 m4 v4 H4 h4 r4 s4 (t1.trans (t2.trans (t3.trans t4)))⟩⟩⟩⟩
theorem d_addF3 : OpD X (binaryOp .Add) addF3 := by
  intro pins s σ H x y v u Q I rx ry ⟨dx, dy, m, q, r1, r2, sim, h, post⟩
  obtain ⟨xs, ys, ex, ey, hx, hz, h0, h1'⟩ := h
  obtain ⟨a, vs, rfl, h1, q1⟩ := itemsTp_sq r1 ex
  obtain ⟨b, ws, rfl, h2, q2⟩ := itemsTp_sq r2 ey
  cases rx
  cases ry
  obtain ⟨its, e1, p1, _⟩ := I.tuple h1
  obtain ⟨its2, e2, p2, _⟩ := I.tuple h2
  have n1 : its ≠ [] := fun z => by
    subst z; cases e1; cases q1; exact hx rfl
  have l1 := e1.length
  have l2 := e2.length
  have l3 := q1.length
  have l4 := q2.length
  by_cases hy : ys = []
  · have n2 : its2 = [] := by
      subst hy; cases q2; cases e2; rfl
    refine HT.cat_tup p1 p2 n1 (fun _ => ?_) (fun z => absurd n2 z) (by omega)
    exact ⟨.ref a, H, I, rfl, post.here (h0 hy) r1 sim⟩
  · have n2 : its2 ≠ [] := fun z => by
      subst z; cases e2; cases q2; exact hy rfl
    refine HT.cat_tup p1 p2 n1 (fun z => absurd z n2) (fun _ => ?_) (by omega)
    have nw : H s.heap.objs.size = none := I.hok.fresh (Nat.le_refl _)
    have I2 : Inv X pins σ (upd H s.heap.objs.size (.frz { cls := .type "tuple", data := .seq (its ++ its2).toArray } (.tup (vs ++ ws)))) { s with heap := s.heap.push { cls := .type "tuple", data := .seq (its ++ its2).toArray } } :=
      I.laid (t' := s.toks) (fun b o e => Heap.get?_push_of_some _ e) (Nat.le_refl _) (show ObjOk X.prog X.w _ _ _ (.frz _ (.tup (vs ++ ws))) from ⟨Heap.get?_push_size _ rfl, by rw [List.length_append]; omega, its ++ its2, e1.append e2, IsTup.new _ _⟩)
    exact ⟨.ref _, _, I2, rfl, post (.ftup (xs ++ ys)) m _ _ (h1' hy) (.ftup upd_same rfl ((q1.append q2).mono (upd_new nw))) (sim.alloc nw) (Step.alloc nw)⟩
end
end L2.Lh

/-! products of two great numbers -/
namespace L2.Lh
open PySem PySem.Spec PyProof.Rows LamX
section
variable {X : Cx}
abbrev mulW : DR2 := iiD CMulW fun i j => .int (i * j)
theorem d_mulW : OpD X (binaryOp .Mult) mulW := d_ii op_mulW
theorem mulW_ii {i j : Int} {m : Mem} {q : DQ} : mulW (.int i) (.int j) m q = (CMulW i j ∧ q (.int (i * j)) m) := rfl
end
end L2.Lh

/-! {k: v, l: w, ..}: a dict of int and text keys, told at once -/
namespace L2.Lh
open PySem PySem.Spec PyProof.Rows LamX
abbrev DPr := List (DTE × DTE)
def dPairsK : DPr → DEnv → Mem → (List (Key × D) → Mem → Prop) → Prop
  | [], _, m, q => q [] m
  | (tk, tv) :: r, ρ, m, q => tk ρ m fun y m1 => tv ρ m1 fun z m2 => match keyK y with
    | some k => dPairsK r ρ m2 fun kvs m3 => q ((k, z) :: kvs) m3
    | none => False
def dDispK (ts : DPr) : DTE := fun ρ m q => dPairsK ts ρ m fun kvs m1 => (kvs.map (·.1)).Nodup ∧ kvs.length ≤ 15 ∧ ∀ p, m1 p = none → q (.ref p) (m1.set p (.dK kvs))
abbrev DPPs (B : Bs) (X : Cx) (pos : Pos) (ks : List (Option Expr)) (vs : List Expr) (ts : DPr) : Prop := PPs X pos ks vs (ts.map fun t => (upE X.K B t.1, upE X.K B t.2))
theorem pairs_lift {K : PySem.W.Frag} {B : Bs} : ∀ (ts : DPr) {ρ : DEnv} {m : Mem} {σ : St} {H : Hp} (p : Pre K B ρ m σ H) {q : List (Key × D) → Mem → Prop} (h : dPairsK ts ρ m q) {R : List (V × V) → Hp → Prop}
    (post : ∀ kvs m' kv H', q kvs m' → RepK K H' kvs kv → Sim K H' m' → Step H m H' m' → R (kv.map fun x => (kV x.1, x.2)) H'), tPairs (ts.map fun t => (upE K B t.1, upE K B t.2)) σ H R
  | [], _, m, _, H, p, _, h, _, post => post [] m [] H h .nil p.sim (Step.refl _ _)
  | (tk, tv) :: ts, ρ, m, σ, H, p, q, h, R, post => by
    refine ⟨ρ, m, _, p, h, fun y m1 v H1 h1 r1 s1 t1 => ⟨ρ, m1, _, p.next s1 t1, h1, fun z m2 vz H2 h2 r2 s2 t2 => ?_⟩⟩
    split at h2
    · rename_i k ek
      have ey := keyK_rep r1 ek
      subst ey
      exact pairs_lift ts ((p.next s1 t1).next s2 t2) h2 fun kvs m3 kv H3 h3 rk s3 t3 => post ((k, z) :: kvs) m3 ((k, vz) :: kv) H3 h3 (.cons ⟨rfl, r2.mono t3.ext⟩ rk) s3 (t1.trans (t2.trans t3))
    · exact h2.elim
theorem merge_nd : ∀ (kvs acc : List (Key × V)), ((acc ++ kvs).map (·.1)).Nodup → mergeK acc kvs = acc ++ kvs
  | [], acc, _ => by rw [List.append_nil]; rfl
  | (k, v) :: kvs, acc, h => by
    show mergeK (putK acc k v) kvs = _
    have hn : k ∉ acc.map (·.1) := fun hk => by
      rw [List.map_append, List.nodup_append] at h
      exact h.2.2 k hk k List.mem_cons_self rfl
    have e : putK acc k v = acc ++ [(k, v)] := by
      unfold putK
      rw [if_neg]
      intro z
      obtain ⟨x, hx, hd⟩ := List.any_eq_true.mp z
      exact hn (of_decide_eq_true hd ▸ List.mem_map_of_mem hx)
    rw [e, merge_nd kvs (acc ++ [(k, v)]) (by rw [List.append_assoc]; exact h), List.append_assoc]
    rfl
theorem repK_fst {K : PySem.W.Frag} {H : Hp} : ∀ {kvs : List (Key × D)} {kv : List (Key × V)}, RepK K H kvs kv → kv.map (·.1) = kvs.map (·.1)
  | _, _, .nil => rfl
  | _, _, .cons h r => by rw [List.map_cons, List.map_cons, h.1, repK_fst r]
section
variable {X : Cx} {B : Bs} {ke ve : Expr} {tk tv : DTE} {pos : Pos} {ks : List (Option Expr)} {vs : List Expr} {ts : DPr}
theorem dpps_nil : DPPs B X pos [] [] [] := pps_nil
theorem dpps_cons (hk : DE B X ke tk) (hv : DE B X ve tv) (h : DPPs B X pos ks vs ts) : DPPs B X pos (some ke :: ks) (ve :: vs) ((tk, tv) :: ts) := pps_cons hk hv h
theorem de_dispK (h : DPPs B X pos ks vs ts) (hall : ks.all (·.isSome) = true := by rfl) (hl : ks.length = vs.length := by rfl) (h0 : ks ≠ [] := by intro z; cases z) (h15 : ks.length ≤ 15 := by decide) : DE B X (.Dict ks vs pos) (dDispK ts) :=
  pe_imp (pe_disp h hall hl h0 h15) fun σ H Q ⟨ρ, m, q, p, h, post⟩ a nw => by
    have st0 : Step H m (upd H a (.dK [])) m := Step.alloc nw
    refine pairs_lift ts (p.next (p.sim.alloc nw) st0) h fun kvs m2 kv H2 ⟨nd, h15, h2⟩ rk s2 tt => ?_
    have hm0 : m a = none := p.sim.free nw
    have ha2 : H2 a = some (.dK []) := tt.keep a _ hm0 upd_same
    have hm2 : m2 a = none := tt.new a _ hm0 upd_same
    have em : mergeK [] kv = kv := merge_nd kv [] (by rw [List.nil_append, repK_fst rk]; exact nd)
    refine ⟨ha2, kv, rfl, by rw [← List.length_map (f := (·.1)), repK_fst rk, List.length_map]; exact h15, ?_⟩
    rw [em]
    have ex0 : Ext H2 (upd H2 a (.dK kv)) := ⟨fun b xs h => by rw [upd_ne (fun z => by subst z; rw [ha2] at h; cases h)]; exact h, fun b ob x h => by rw [upd_ne (fun z => by subst z; rw [ha2] at h; cases h)]; exact h, fun b q h => by rw [upd_ne (fun z => by subst z; rw [ha2] at h; unfold LamX.CodeO at h; cases h)]; exact h⟩
    obtain ⟨_, g2, g3⟩ := late_sim (o' := .dK kv) (w := .dK kvs) nw ha2 (fun _ z => nomatch z) (fun _ _ z => nomatch z) (fun _ _ z => by unfold LamX.CodeO at z; cases z) hm2 s2 (st0.trans tt) ⟨_, upd_same, rk.mono ex0⟩
    exact post _ _ _ _ (h2 a hm2) (.ref a) g2 g3
end
end L2.Lh

namespace L2.Lh
open PySem PySem.Spec PyProof.Rows LamX
/-! ### sorted(), any number -/
section
variable {prog : Program} {w : World} {A : Around} {E : Value → Shared → Prop} {s : Shared}
theorem sorted_gen3 {l : Addr} {Q : Value → Shared → Prop} {G : Heap → List Value → Prop} (ltv : Heap → Value → Value → Bool) (O : ∀ h', SrtO.Swo (ltv h'))
    (hcol : ∀ R : List Value → Shared → Prop, (∀ (h' : Heap) (tk : Nat) (vs : List Value), (∀ b o, s.heap.get? b = some o → h'.get? b = some o) → G h' vs → R vs { s with heap := h', toks := tk }) → wpAny (model prog w) A.in1 (collect (.ref l)) R E s)
    (hG : ∀ h' vs, G h' vs → vs.length ≤ sizeLine ∧ (2 ≤ vs.length → ∀ (h2 : Heap) (a : Addr) (tk : Nat), (∀ b o, h'.get? b = some o → h2.get? b = some o) → h2.get? a = some (seqObj "list" vs.toArray 0) → SrtO.SortableO prog w A.in1.in1 { s with heap := h2, toks := tk } a vs (ltv h')))
    (h : ∀ (h' h2 : Heap) (tk : Nat) (vs : List Value) (out : Array Value) (c : Nat), (∀ b o, s.heap.get? b = some o → h'.get? b = some o) → G h' vs → (∀ b o, h'.get? b = some o → h2.get? b = some o) → h2.get? h'.objs.size = some (seqObj "list" out c) →
      SrtO.Srtd (ltv h') out.toList → SrtO.Stb (ltv h') out.toList vs → Q (.ref h'.objs.size) { s with heap := h2, toks := tk }) :
    wpAny (model prog w) A (call (.builtin "sorted") [.ref l]) Q E s := by
  refine Calls.call_function_entry kind_sorted plain_sorted entry_sorted (args_sorted1 _) ?_
  unfold Builtin.«sorted»
  refine wpAny_bind (m := checkCount "sorted" 1 1 _) (wpAny_pure ?_)
  refine wpAny_bind (hcol _ fun h' tk vs k1 g => ?_)
  obtain ⟨hz, hS⟩ := hG h' vs g
  refine wpAny_bind (wpAny_newList ?_ hz)
  have hoL : (h'.push (seqObj "list" vs.toArray 0)).get? h'.objs.size = some (seqObj "list" vs.toArray 0) := Heap.get?_push_size _ rfl
  have keep : ∀ b o, h'.get? b = some o → (h'.push (seqObj "list" vs.toArray 0)).get? b = some o := fun b o q => Heap.get?_push_of_some _ q
  refine wpAny_bind (wpAny_holding (wpAny_call_entry (s := { s with heap := h'.push (seqObj "list" vs.toArray 0), toks := tk }) slot_list_sort ⟨_, hoL, rfl⟩ entry_list_sort (SrtO.list_sort_ord (s := { s with heap := h'.push (seqObj "list" vs.toArray 0), toks := tk }) (O h') hoL hz (fun h2 => hS h2 _ _ tk keep hoL) fun out a1 a2 => ⟨_, rfl, ?_⟩) (args_list_sort _)))
  obtain ⟨c, hc⟩ := sortedHeap_at (vs := vs) (out := out.toArray) hoL
  refine wpAny_pure ⟨_, rfl, h h' _ tk vs out.toArray c k1 g (fun b u q => ?_) hc a1 a2⟩
  have hlt := Heap.lt_size q
  show (sortedHeap (h'.push (seqObj "list" vs.toArray 0)) h'.objs.size vs out.toArray).get? b = some u
  rw [sortedHeap_old (Nat.ne_of_lt hlt) (by rw [size_push']; exact Nat.lt_succ_of_lt hlt)]
  exact Heap.get?_push_of_some _ q
/-- the pair that a value is -/
def pkV (h : Heap) (v : Value) : Int × Int := ((TS.intsOf h v).getD 0 0, (TS.intsOf h v).getD 1 0)
theorem pkV_of {h : Heap} {v : Value} {x y : Int} (t : TS.TupInts h v [x, y]) : pkV h v = (x, y) ∧ Srt.IsPair h v x y := by
  refine ⟨by unfold pkV; rw [t.ints]; rfl, ?_⟩
  obtain ⟨a, xs, e, ⟨o, ho, hc, n, hd⟩, i⟩ := t
  obtain ⟨l⟩ := xs
  change IntsAre l _ at i
  cases i with
  | cons x t1 r =>
    cases r with
    | cons y t2 r2 =>
      cases r2
      exact ⟨a, o, t1, t2, n, e, ho, hc, hd⟩
theorem seq_not_tuple {vs : Array Value} {o : Obj} (e : some o = some (seqObj "list" vs 0)) : o.cls ≠ .type "tuple" := by
  cases e
  intro c
  exact absurd (Value.type.inj c) (by decide)
end
section
variable {X : Cx} {B : Bs}
/-- sorted(d.items()), ints to ints, any number of them -/
def dSortItemsO (t : DTE) : DTL := fun ρ m q => dRdD t (fun kvs _ m1 => ∃ ps : List (Int × Int), kvs = ps.map (fun p => ((.inl p.1 : Key), D.int p.2)) ∧
  ∀ qs : List (Int × Int), qs.Perm ps → qs.Pairwise (fun x y => SrtO.lexB y x = false) → q (qs.map fun p => D.tup [.int p.1, .int p.2]) m1) ρ m
theorem dl_sortItemsO {e : Expr} {te : DTE} {p apos cpos pos : Pos} (hc : X.calm = true) (hg : Gl X "sorted") (hm : X.mg "sorted" = none) (hv0 : bootBuiltins "sorted" = some (.builtin "sorted")) (he : DE B X e te) (hbase : attributeBase e "items" X.env (eval e X.env) = eval e X.env := by rfl) (hline : (apos.endLine == cpos.line) = true := by rfl)
    (na : starEach [.Call (.Attribute e "items" apos) [] [] cpos] X.env = (false, eval (.Call (.Attribute e "items" apos) [] [] cpos) X.env) :: starEach [] X.env := by rfl) :
    DL B X (.Call (.Name "sorted" p) [.Call (.Attribute e "items" apos) [] [] cpos] [] pos) (dSortItemsO te) := by
  refine ⟨fun pins s σ H Q I ⟨ρ, m, q, pr, h, post⟩ => ?_⟩
  refine wpAny_Call_Name_kw (ld_blt I hg hm hv0 ?_ (by decide) (by decide))
  refine PyProof.Rows.callWith_builtin1 (args_cons (ev_items (Q := fun d H1 => ∃ (ps : List (Int × Int)) (m1 : Mem), dictAt m1 d (ps.map (fun p => ((.inl p.1 : Key), D.int p.2))) ∧
      (∀ qs : List (Int × Int), qs.Perm ps → qs.Pairwise (fun x y => SrtO.lexB y x = false) → q (qs.map fun p => D.tup [.int p.1, .int p.2]) m1) ∧ Sim X.K H1 m1 ∧ Step H m H1 m1) he hbase hline I
    ⟨ρ, m, _, pr, h, fun d m1 v H1 ⟨a, kvs, e1, e2, ps, e3, h1⟩ r1 s1 t1 => by subst e1 e3; cases r1; exact ⟨a, rfl, ps, m1, e2, h1, s1, t1⟩⟩ (fun d H1 ⟨ps, m1, hd, _, sim, _⟩ => let ⟨kv, h1, _⟩ := hd.rd sim; ⟨kv, h1⟩)
    fun v d H1 s1 hv I1 ⟨ps, m1, hd, hq, sim, st⟩ => args_nil ?_) na) na
  obtain ⟨kv, h1, h2⟩ := hd.rd sim
  obtain ⟨z, lo, vs, rel, hm1⟩ := dk_rd I1.hok h1
  obtain ⟨es, ep, hraw, prs⟩ := raw_mix hm1
  have nz : es.size = ps.length := by
    have g1 := prs.length
    have g2 : kv.length = vs.length := Paired.length rel
    have g3 := h2.len
    rw [List.length_map] at g3
    rw [Array.length_toList] at g1; omega
  have hz : ps.length ≤ sizeLine := by
    have g3 := h2.len
    rw [List.length_map] at g3
    rw [g3]; exact z
  have laid := fun (h' : Heap) (tk : Nat) (as : List Addr) hk hn g => items_laid (h' := h') (tk := tk) (as := as) I1 h2 rel prs hk hn g
  have eq0 : (ps.map (fun p => ((.inl p.1 : Key), D.int p.2))).map (fun p => D.tup [keyV p.1, p.2]) = ps.map fun p => D.tup [.int p.1, .int p.2] := by rw [List.map_map]; rfl
  refine sorted_gen3 (G := fun h' us => ∃ as, us = as.map Value.ref ∧ as.length = es.size ∧ PySem.W.DilG es s1.heap.objs.size h' as ∧ (∀ b o, s1.heap.get? b = some o → h'.get? b = some o)) (fun h' v u => SrtO.lexB (pkV h' v) (pkV h' u)) (fun h' => SrtO.swo_lex (pkV h')) (fun R hR => ?_) (fun h' us ⟨as, e1, e2, g, hk⟩ => ?_) fun h' h3 tk us out c k1 ⟨as, e1, e2, g, _⟩ k2 hc' pw pm => ?_
  · exact PySem.W.dil_collect (I1.ok.hd hc) hv hraw (by rw [nz]; exact hz) fun h' tk as hk hn g => hR h' tk _ hk ⟨as, rfl, hn, g, hk⟩
  · subst e1
    obtain ⟨H2, I2, reps, kH, nH⟩ := laid h' s1.toks as hk e2 g
    rw [eq0] at reps
    refine ⟨by rw [List.length_map]; omega, fun h2 h4 a tk hkk hoL => ?_⟩
    refine SrtO.pairs_sortableO (k := pkV h') (by omega) (fun v hv => ?_) fun o e => seq_not_tuple (e.symm.trans hoL)
    have t := repU_of (zs := as.map V.ref) (vs := as.map Value.ref) reps (vals_of_map fun x _ => rfl)
    obtain ⟨x, hx, rx⟩ := t.mem hv
    obtain ⟨p, hp, rfl⟩ := List.mem_map.mp hx
    obtain ⟨q1, q2⟩ := pkV_of (repU_row I2 rx (ns := [p.1, p.2]) rfl)
    rw [q1]
    exact q2.keeps fun b o e _ => hkk b o e
  · subst e1
    obtain ⟨H2, I2, reps, kH, nH⟩ := laid h' tk as k1 e2 g
    rw [eq0] at reps
    have t := repU_back (repU_of (zs := as.map V.ref) (vs := as.map Value.ref) reps (vals_of_map fun x _ => rfl))
    obtain ⟨ys, ty, py⟩ := t.perm pm.perm
    obtain ⟨zs', r1, r2⟩ := repU_to (repU_pairs ty)
    have up : ys.Pairwise (fun x y => SrtO.lexB y x = false) := ty.pairs pw fun x u y v rx ry hle => by
      have q1 : pkV h' u = (x.1, x.2) := (pkV_of (repU_row I2 rx (ns := [x.1, x.2]) rfl)).1
      have q2 : pkV h' v = (y.1, y.2) := (pkV_of (repU_row I2 ry (ns := [y.1, y.2]) rfl)).1
      change SrtO.lexB (pkV h' v) (pkV h' u) = false at hle
      rw [q1, q2] at hle
      exact hle
    have hlen : zs'.length ≤ sizeLine := by rw [r2.length, pm.perm.length_eq, List.length_map, e2, nz]; exact hz
    have n3 : H2 h'.objs.size = none := I2.hok.fresh (Nat.le_refl _)
    have n1 : H1 h'.objs.size = none := nH _ n3
    have n0 : H h'.objs.size = none := st.dom _ n1
    refine ⟨.ref h'.objs.size, upd H2 h'.objs.size (.lst zs'), I2.laid (t' := tk) k2 (Nat.le_refl _) ⟨hlen, out.toList, c, r2, hc'⟩, rfl, ?_⟩
    exact post _ m1 h'.objs.size zs' _ (hq ys py up) upd_same (r1.mono (upd_new n3)) (sim.free n1) n0 ((sim_of sim kH).alloc n3) ((st.trans (step_of kH nH)).trans (Step.alloc n3))
/-- sorted(d), keys ints, any number of them -/
def sortKO : DRL := fun d m q => ∃ (a : Addr) (kvs : List (Key × D)) (ns : List Int), d = .ref a ∧ dictAt m a kvs ∧ kvs.map (·.1) = ns.map (fun n => (.inl n : Key)) ∧
  ∀ ns' : List Int, ns'.Perm ns → ns'.Pairwise (· ≤ ·) → q (ns'.map D.int) m
theorem l_sortKO (hc : X.calm = true) : CallR X (.builtin "sorted") (upCL X.K sortKO) := by
  intro pins s σ H xs us Q I r ⟨d, v, m, q, e, rd, sim, ⟨a, kvs, ns, e0, hd, ek, hq⟩, post⟩
  subst e e0
  cases rd
  rw [Vals.ref1 r]
  obtain ⟨kv, h1, h2⟩ := hd.rd sim
  obtain ⟨z, lo, vs, rel, od, es, ep, g1, g2⟩ := dk_rd I.hok h1
  have hm : s.heap.DictAt (mixKind X.prog X.w) a vs ep := by
    exact ⟨od, es, g1, g2⟩
  have ekv : kv.map (fun p => kV p.1) = ns.map V.int := by
    have h3 : kvs.map (·.1) = kv.map (·.1) := repK_keys h2
    rw [ek] at h3
    have := congrArg (List.map kV) h3
    rw [List.map_map, List.map_map] at this
    exact this.symm
  have nlen : ns.length = kv.length := by
    have := congrArg List.length ekv
    rw [List.length_map, List.length_map] at this
    exact this.symm
  refine sorted_gen3 (G := fun _ us => IntsAre us ns) (fun _ => SrtO.ltIv) (fun _ => SrtO.swo_int) (fun R hR => ?_) (fun h' us g => ?_) fun h' h3 tk us out c k1 g k2 hc' pw pm => ?_
  · refine PySem.W.kdu_collect (PySem.W.kdl_dict lo) (I.ok.hd hc) hm (by rw [← rel.length]; exact z) fun h' tk acc hk hi => hR h' tk _ hk ?_
    have hv : Vals (kv.map fun p => kV p.1) acc.toList := by
      refine vals_of_get (by
        have h5 : acc.toList.length = acc.size := Array.length_toList
        have h6 : acc.size = vs.length := hi.1
        rw [List.length_map, h5, h6]; exact Paired.length rel) fun i x u hx hu => ?_
      obtain ⟨k, y, e1, e2⟩ := hi.2 i u (by rw [← Array.getElem?_toList]; exact hu)
      rw [List.getElem?_map] at hx
      cases hp : kv[i]? with
      | none => rw [hp] at hx; cases hx
      | some p =>
        rw [hp] at hx
        cases hx
        obtain ⟨u2, g3, _⟩ := kv_get rel hp
        rw [g3] at e1
        cases e1
        exact relV_key e2
    rw [ekv] at hv
    exact hv.ints
  · refine ⟨by rw [g.length, nlen]; exact z, fun h2 h4 b tk _ _ => SrtO.ints_sortable g h2⟩
  · obtain ⟨o1, o2, o3⟩ := SrtO.ints_out g pw pm
    have I1 : Inv X pins σ H { s with heap := h', toks := tk } := I.kept k1
    have hlen : ((out.toList.map SrtO.iv).map V.int).length ≤ sizeLine := by rw [List.length_map, o2.length_eq, nlen]; exact z
    exact ⟨.ref h'.objs.size, upd H h'.objs.size (.lst ((out.toList.map SrtO.iv).map V.int)), I1.laid (t' := tk) k2 (Nat.le_refl _) ⟨hlen, out.toList, c, vals_of_ints o1, hc'⟩, rfl, post.lst (hq _ o2 o3) (I1.hok.fresh (Nat.le_refl _)) (Reps.ints _) sim⟩
end
end L2.Lh

/-! try with several clauses, none of which names its error -/
namespace L2.Lh
open PySem PySem.Spec PyProof.Rows LamX
abbrev DHd := CT × Value × DTS
def wManyD (we : DWX) (E : DEnds) : List DHd → DWX
  | [], cls, ρ, m => we cls ρ m
  | (xt, c, ts) :: r, cls, ρ, m => ∃ b, (cls, c, b) ∈ xt ∧ (b = true → ts E ρ m) ∧ (b = false → wManyD we E r cls ρ m)
def dTryM (tb : DWX → DTS) (hs : List DHd) (we : DWX) : DTS := fun E ρ m => tb (wManyD we E hs) E ρ m
section
variable {X : Cx} {B : Bs}
inductive DHds (X : Cx) : List ExceptHandler → List DHd → Prop
  | nil : DHds X [] []
  | cons {x : Str} {c : Value} {xt : CT} {ts : DTS} {b₀ : Stmt} {suite : List Stmt} {np pos' : Pos} {hds : List ExceptHandler} {l : List DHd} (xo : ExOk X.K xt)
      (hSuite : ∀ (B' : Bs) (a : Addr) (pn : List (Addr × Obj)), DSs B' (X.suite a pn) (b₀ :: suite) ts) (hc : Names X x c) (r : DHds X hds l) :
      DHds X (.ExceptHandler (some (.Name x np)) none (b₀ :: suite) pos' :: hds) ((xt, c, ts) :: l)
def hdsT (K : PySem.W.Frag) (l : List DHd) : List (Value × (Addr → Value → Option Addr → TS)) := l.map fun h => (h.2.1, fun _ _ _ F σ H => ∃ B', upS K B' h.2.2 F σ H)
theorem DHds.ok {hds : List ExceptHandler} {l : List DHd} (h : DHds X hds l) : HdsOk X hds (hdsT X.K l) := by
  induction h with
  | nil => exact .nil
  | cons xo hs hc r ih => exact .cons hc (fun a oe cls d pn hz hd => ⟨fun pins s σ H F I ⟨B', h⟩ => (hs B' a _).run pins s σ H F I h⟩) ih
theorem DHds.wish {hds : List ExceptHandler} {l : List DHd} (h : DHds X hds l) {we : DWX} {E : DEnds} {F : Ends} {H0 : Hp} {m0 : Mem} (eo : EndsOk X.K H0 m0 E F) (stB : Step B.H B.m H0 m0) :
    ∀ cls d σ' H', upW X.K ⟨H0, m0⟩ (wManyD we E l) cls d σ' H' → wMany X.K (upW X.K B we) F (hdsT X.K l) cls d σ' H' := by
  induction h with
  | nil =>
    rintro cls d σ' H' ⟨dn, ρ1, m1, p1, w⟩
    exact ⟨dn, ρ1, m1, ⟨p1.env, p1.sim, stB.trans p1.st⟩, w⟩
  | @cons x c xt ts b₀ suite np pos' hds l xo hs hc r ih =>
    rintro cls d σ' H' ⟨dn, ρ1, m1, p1, b, hb, hyes, hno⟩
    exact ⟨b, xo _ hb, fun e a ha => ⟨⟨H', m1⟩, ρ1, m1, E, ⟨p1.env, p1.sim, Step.refl _ _⟩, hyes e, eo.next p1.st⟩, fun e => ih cls d σ' H' ⟨dn, ρ1, m1, p1, hno e⟩⟩
theorem ds_tryM {body : List Stmt} {h₀ : ExceptHandler} {hds : List ExceptHandler} {l : List DHd} {pos : Pos} {tb : DWX → DTS} {we : DWX}
    (hs : X.stack = X.env :: X.outer) (hf : X.env.frame = some X.env.locals) (tk : Takes X (upW X.K B we))
    (hBody : ∀ (B' : Bs) (we' : DWX) (pn : List (Addr × Obj)) (xe : Value → Shared → Prop), Step B.H B.m B'.H B'.m → Takes (X.tr pn xe) (upW X.K B' we') → PassesOwn (model X.prog X.w) X.A X.env xe → DSs B' (X.tr pn xe) body (tb we'))
    (hh : DHds X (h₀ :: hds) l) : DS B X (.Try body (h₀ :: hds) [] [] pos) (dTryM tb l we) := by
  refine ps_imp (ps_try_many (tb := fun W F σ H => ∃ ρ m E we', Step B.H B.m H m ∧ Pre X.K ⟨H, m⟩ ρ m σ H ∧ (∀ cls d σ' H', upW X.K ⟨H, m⟩ we' cls d σ' H' → W cls d σ' H') ∧ tb we' E ρ m ∧ EndsOk X.K H m E F) hs hf tk ?_ hh.ok) ?_
  · intro W pn xe tk' po'
    refine ⟨fun pins s σ H F I ⟨ρ, m, E, we', stB, p, hw, ht, eo⟩ => ?_⟩
    exact (hBody ⟨H, m⟩ we' pn xe stB (tk'.imp fun cls d σ' H' z => hw cls d σ' H' z) po').run pins s σ H F I ⟨ρ, m, E, p, ht, eo⟩
  · rintro F σ H ⟨ρ, m, E, p, h, eo⟩
    exact ⟨ρ, m, E, _, p.st, ⟨p.env, p.sim, Step.refl _ _⟩, hh.wish eo p.st, h, eo⟩
end
end L2.Lh

/-! own __eq__, __len__ and __str__ -/
namespace L2.Lh
open PySem PySem.Spec PyProof.Rows LamX
section
variable {X : Cx} {k : Nat} {fa C : Addr} {fd : FuncData} {ps : List Str} {sp : DSp} {A : Around} {pins : List (Addr × Obj)} {σ : St} {H : Hp} {s : Shared} {Q : VK} {us : List Value} {vs : List V}
structure SubA (X : Cx) (k : Nat) (A : Around) : Prop where
  room : Room k A
  fr : A.frames = X.A.frames
theorem callAt (sb : SubA X k A) (F : FnD X.prog X.w X.K X.mg X.base k fa fd ps sp) (b : Binds X.K fd ps []) (I : Inv X pins σ H s) (r : Vals vs us) (h : upSp X.K sp vs H Q fun _ _ _ => False) :
    wpAny (model X.prog X.w) A (call (.ref fa) us) (EP X pins σ Q) X.xe s := by
  have hl : us.length = ps.length := by rw [← r.length]; exact F.len _ _ _ _ h
  have bb := b s us I.kIn (by rw [List.append_nil]; exact hl)
  rw [List.append_nil] at bb
  have e0 : Env0 X.prog X.w X.K X.mg X.base A X.stack s H := by
    have e := I.env0
    exact ⟨by rw [sb.fr]; exact e.frames, e.mod, e.bs, e.bsz, e.funs, e.frf, e.hok, e.bare⟩
  refine wpAny_call (codeAny_mono (F.run A X.stack s H ⟨us, []⟩ us vs Q (fun _ _ _ => False) sb.room e0 bb r h) fun r s' hq => ?_)
  match r, hq with
  | .error e, hq => obtain ⟨_, _, _, _, _, _, _, _, _, _, _, z⟩ := hq; exact (by first | exact z.elim | exact z.2.elim | exact z.2.2.elim)
  | .ok (.ret u), hq => exact I.after hq
/-- what an own == may be asked against -/
def othO (C : Addr) (m : Mem) (y : D) : Prop := (∃ T, tyS m y = some T) ∨ ∃ b fs, y = .ref b ∧ m b = some (.ins C fs)
def eqO (C : Addr) (sp : DSp) : DR2 := fun x y m q => ∃ a fs, x = .ref a ∧ m a = some (.ins C fs) ∧ othO C m y ∧ sp [x, y] m (fun d m' => ∃ b, d = .bl b ∧ q d m') fun _ _ => False
theorem tyS_in {m : Mem} {y : D} {T : String} (h : tyS m y = some T) : T ∈ ["NoneType", "bool", "int", "str", "tuple", "list", "dict"] := by
  cases y with
  | ref a =>
    have h : (match m a with | some (.lst _) => some "list" | some (.dK _) => some "dict" | some (.dF _) => some "dict" | _ => none) = some T := h
    cases e : m a with
    | none => rw [e] at h; cases h
    | some o => rw [e] at h; cases o <;> cases h <;> simp
  | ty n => cases h
  | _ => cases h; simp
theorem notFirst_ty {K : PySem.W.Frag} {C : Addr} {m : Mem} {y : D} {T : String} (h : tyS m y = some T) : PySem.W.notFirst K C (.type T) = true := by
  have key : ∀ T ∈ ["NoneType", "bool", "int", "str", "tuple", "list", "dict"], (PySem.W.subIn K (.type T) (.ref C) == some false) = true := by
    intro T hT
    simp only [List.mem_cons, List.not_mem_nil, or_false] at hT
    rcases hT with rfl | rfl | rfl | rfl | rfl | rfl | rfl <;> rfl
  unfold PySem.W.notFirst
  rw [key T (tyS_in h), Bool.or_true]
theorem d_eqO (d : MethAt X.prog X.w X.K X.mg X.base k C "__eq__" ps sp) (hr : Room k X.A) : OpD X (compareOp .Eq) (eqO C sp) := by
  intro pins s σ H x y v u Q I rx ry ⟨dx, dy, m, q, r1, r2, sim, ⟨a, fs, ex, ea, oth, hsp⟩, post⟩
  subst ex
  cases r1
  cases rx
  obtain ⟨dxa, fv, e1, rf⟩ := sim a _ ea
  obtain ⟨mA, J, _⟩ := ins_get I.hok e1
  obtain ⟨od, J, _⟩ := J.look
  obtain ⟨mm, hF⟩ := I.fr
  have go : wpAny (model X.prog X.w) X.A (call (.ref d.f) [.ref a, u]) (PySem.W.CmpBack (EP X pins σ Q)) X.xe s := by
    refine wpAny_mono (callAt (Q := fun w H' => (∃ b, w = .bl b) ∧ Q w H') ⟨hr, rfl⟩ d.ok d.b I (.cons (show RelV (.ref a) (.ref a) from rfl) (.cons ry .nil)) ⟨[.ref a, dy], m, _, _, .cons (.ref a) (.cons r2 .nil), sim, hsp, fun d3 m3 v3 H3 ⟨b, eb, h3⟩ r3 s3 t3 => ?_, fun _ _ _ z _ _ => z⟩) (fun w s' ⟨w', H', I', rw', ⟨b, eb⟩, hq⟩ => ?_) fun _ _ z => z
    · subst eb
      cases r3
      exact ⟨⟨b, rfl⟩, post _ m3 _ H3 h3 (.bl b) s3 t3⟩
    · subst eb
      cases rw'
      exact ⟨.bl b, H', I', rfl, hq⟩
  show wpAny (model X.prog X.w) X.A (richCompare .Eq (.ref a) u) (EP X pins σ Q) X.xe s
  rcases oth with ⟨T, hT⟩ | ⟨b, fs2, ey, eb⟩
  · obtain ⟨P, kx, px, _⟩ := kit_of I ry (tyS_ok sim r2 hT)
    exact PySem.W.cmp_K (op := .Eq) (tb := .type T) (by have := hr.un; omega) hF I.ok.mod.kin J (kx.ty _ _ I.kIn px) (notFirst_ty hT) d.me.at_ d.me.fn go
  · subst ey
    cases r2
    cases ry
    obtain ⟨dxb, fvb, e2, rfb⟩ := sim b _ eb
    obtain ⟨mB, J', _⟩ := ins_get I.hok e2
    obtain ⟨od', J', _⟩ := J'.look
    exact PySem.W.cmp_K (op := .Eq) (tb := .ref C) (by have := hr.un; omega) hF I.ok.mod.kin J J'.type (by simp [PySem.W.notFirst]) d.me.at_ d.me.fn go
/-- len(x), x an instance with its own __len__ -/
def lenO (C : Addr) (sp : DSp) : DRC := fun ds m q => ∃ a fs, ds = [.ref a] ∧ m a = some (.ins C fs) ∧ sp [.ref a] m (fun d m' => ∃ n : Nat, d = .int (n : Nat) ∧ n ≤ sizeLine ∧ q d m') fun _ _ => False
theorem c_lenO (d : MethAt X.prog X.w X.K X.mg X.base k C "__len__" ps sp) (hr : Room (k + 1) X.A) : CallD X (.builtin "len") (lenO C sp) := by
  intro pins s σ H xs us Q I r ⟨ds, m, q, rs, sim, ⟨a, fs, ex, ea, hsp⟩, post⟩
  subst ex
  cases rs with
  | cons r1 rs =>
  cases rs
  cases r1
  cases r with
  | @cons _ u _ us ru rr =>
  cases rr
  cases (show u = Value.ref a from ru)
  obtain ⟨dxa, fv, e1, rf⟩ := sim a _ ea
  obtain ⟨mA, J, _⟩ := ins_get I.hok e1
  obtain ⟨od, J, _⟩ := J.look
  obtain ⟨mm, hF⟩ := I.fr
  refine PySem.W.len_K hF I.ok.mod.kin J d.me.at_ d.me.fn (wpAny_mono (callAt (A := X.A.in1) (Q := fun w H' => (∃ n : Nat, w = .int (n : Nat) ∧ n ≤ sizeLine) ∧ Q w H') ⟨hr.in1, rfl⟩ d.ok d.b I (.cons (show RelV (.ref a) (.ref a) from rfl) .nil) ⟨[.ref a], m, _, _, .cons (.ref a) .nil, sim, hsp, fun d3 m3 v3 H3 ⟨n, eb, hn, h3⟩ r3 s3 t3 => ?_, fun _ _ _ z _ _ => z⟩) (fun w s' ⟨w', H', I', rw', ⟨n, eb, hn⟩, hq⟩ => ?_) fun _ _ z => z)
  · subst eb
    cases r3
    exact ⟨⟨n, rfl, hn⟩, post _ m3 _ H3 h3 (.int _) s3 t3⟩
  · subst eb
    obtain ⟨t, rfl⟩ := (show ∃ t, w = Value.int n t from rw')
    have hs : sizeLine = 16777216 := sizeLine_eq
    exact ⟨⟨by omega, by omega⟩, .int n, H', I'.tok _, ⟨_, rfl⟩, hq⟩
/-- str(x), x an instance with its own __str__ -/
def strO (C : Addr) (sp : DSp) : DRC := fun ds m q => ∃ a fs, ds = [.ref a] ∧ m a = some (.ins C fs) ∧ sp [.ref a] m (fun d m' => ∃ t : Str, d = .str t ∧ q d m') fun _ _ => False
theorem c_strO (d : MethAt X.prog X.w X.K X.mg X.base k C "__str__" ps sp) (hr : Room (k + 2) X.A) : CallD X (.type "str") (strO C sp) := by
  intro pins s σ H xs us Q I r ⟨ds, m, q, rs, sim, ⟨a, fs, ex, ea, hsp⟩, post⟩
  subst ex
  cases rs with
  | cons r1 rs =>
  cases rs
  cases r1
  cases r with
  | @cons _ u _ us ru rr =>
  cases rr
  cases (show u = Value.ref a from ru)
  obtain ⟨dxa, fv, e1, rf⟩ := sim a _ ea
  obtain ⟨mA, J, _⟩ := ins_get I.hok e1
  obtain ⟨od, J, _⟩ := J.look
  refine PySem.W.kso_call (by have := hr.in1.in1.un; omega) I.kIn J d.me.at_ d.me.fn (wpAny_mono (callAt (A := X.A.in1.in1) (Q := fun w H' => (∃ t : Str, w = .str t) ∧ Q w H') ⟨hr.in1.in1, rfl⟩ d.ok d.b I (.cons (show RelV (.ref a) (.ref a) from rfl) .nil) ⟨[.ref a], m, _, _, .cons (.ref a) .nil, sim, hsp, fun d3 m3 v3 H3 ⟨t, eb, h3⟩ r3 s3 t3 => ?_, fun _ _ _ z _ _ => z⟩) (fun w s' ⟨w', H', I', rw', ⟨t, eb⟩, hq⟩ => ?_) fun _ _ z => z)
  · subst eb
    cases r3
    exact ⟨⟨t, rfl⟩, post _ m3 _ H3 h3 (.str _) s3 t3⟩
  · subst eb
    obtain ⟨tk, rfl⟩ := (show ∃ tk, w = Value.str t tk from rw')
    exact ⟨.str t, H', I', ⟨tk, rfl⟩, hq⟩
end
end L2.Lh

/-! isinstance against an own class, of plain things and of instances -/
namespace L2.Lh
open PySem PySem.Spec PyProof.Rows LamX
structure InsC (K : PySem.W.Frag) (D : Addr) : Prop where
  cl : Cls K D
  ha : PySem.W.findIn K (.ref D) "__class__" = some (some (.builtin "object.__class__"))
  hn : PySem.W.specialIn K (.builtin "object.__class__") "__get__" = some (some (.builtin "getset_descriptor.__get__"))
  ht : PySem.W.takesIn K (.builtin "object.__class__") = some true
  hm : PySem.W.mroIn K D (.type "object") = some true
inductive CtI (K : PySem.W.Frag) : CT → Prop
  | nil : CtI K []
  | own {C : Addr} {u : Value} {b : Bool} {r : CT} : InsC K C → PySem.W.kitOne K (.ref C) u = some b → CtI K r → CtI K ((.ref C, u, b) :: r)
  | ty {n : String} {u : Value} {b : Bool} {r : CT} : PySem.W.kitOne K (.type n) u = some b → CtI K r → CtI K ((.type n, u, b) :: r)
theorem CtI.kit {K : PySem.W.Frag} {t u : Value} {b : Bool} : ∀ {tb : CT}, CtI K tb → (t, u, b) ∈ tb → PySem.W.kitOne K t u = some b
  | _, .nil, h => by cases h
  | _, .own _ k r, h => by
    cases h with
    | head => exact k
    | tail _ h => exact r.kit h
  | _, .ty k r, h => by
    cases h with
    | head => exact k
    | tail _ h => exact r.kit h
theorem CtI.ins {K : PySem.W.Frag} {C : Addr} {u : Value} {b : Bool} : ∀ {tb : CT}, CtI K tb → (Value.ref C, u, b) ∈ tb → InsC K C
  | _, .nil, h => by cases h
  | _, .own e k r, h => by
    cases h with
    | head => exact e
    | tail _ h => exact r.ins h
  | _, .ty k r, h => by
    cases h with
    | tail _ h => exact r.ins h
def clsI (m : Mem) (d : D) : Option Value := match tyS m d with
  | some n => some (.type n)
  | none => match d with
    | .ref a => match m a with
      | some (.ins C _) => some (.ref C)
      | _ => none
    | _ => none
def isiO (tb : CT) : DRC
  | [d, c], m, q => match clsI m d, clsA c with
    | some t, some u => ∃ b, (t, u, b) ∈ tb ∧ q (.bl b) m
    | _, _ => False
  | _, _, _ => False
theorem c_isiO {X : Cx} {tb : CT} (ok : CtI X.K tb) : CallD X (.builtin "isinstance") (isiO tb) := by
  intro pins s σ H xs us Q I r ⟨ds, m, q, rs, sim, h, post⟩
  unfold isiO at h
  split at h
  · rename_i d c
    split at h
    · rename_i t u ht hu
      obtain ⟨b, hm, h⟩ := h
      obtain ⟨v, w, rfl, rv, rw'⟩ := reps2 rs
      have k := ok.kit hm
      have kc := clsA_ok rw' hu
      unfold clsI at ht
      split at ht
      · rename_i n en
        cases ht
        exact call_isi pins s σ H _ us Q I r ⟨v, _, _, _, b, rfl, kc, tyS_ok sim rv en, k, post.here h (.bl _) sim⟩
      · split at ht
        · rename_i a hy
          split at ht
          · rename_i C fs ea
            cases ht
            cases rv
            obtain ⟨dx, fv, e1, _⟩ := sim a _ ea
            have E := ok.ins hm
            exact call_isi pins s σ H _ us Q I r ⟨.ref a, _, _, _, b, rfl, kc, .base (.ins e1 E.cl E.ha E.hn E.ht E.hm), k, post.here h (.bl _) sim⟩
          · cases ht
        · cases ht
    · exact h.elim
  · exact h.elim
end L2.Lh
namespace L2.Lh
open PySem PySem.Spec PyProof.Rows
/-- the table that gen.py prints for an own class -/
def tabI (C : Addr) : CT := [(.type "NoneType", .ref C, false), (.type "bool", .ref C, false), (.type "int", .ref C, false), (.type "str", .ref C, false), (.type "tuple", .ref C, false), (.type "list", .ref C, false), (.type "dict", .ref C, false), (.ref C, .ref C, true)]
theorem isiO_of {tb : CT} {C : Addr} {m : Mem} {d : D} {q : DQ} {t : Value} {b : Bool} (e : clsI m d = some t) (h : (t, Value.ref C, b) ∈ tb) (hq : q (.bl b) m) : isiO tb [d, .ref C] m q := by
  simp only [isiO, e, clsA]
  exact ⟨b, h, hq⟩
theorem isiO_no {C : Addr} {m : Mem} {d : D} {q : DQ} {T : String} (h : tyS m d = some T) (hq : q (.bl false) m) : isiO (tabI C) [d, .ref C] m q := by
  refine isiO_of (t := .type T) (b := false) (by unfold clsI; rw [h]) ?_ hq
  have := tyS_in h
  simp only [List.mem_cons, List.not_mem_nil, or_false] at this
  unfold tabI
  rcases this with rfl | rfl | rfl | rfl | rfl | rfl | rfl <;> simp
theorem isiO_yes {C a : Addr} {m : Mem} {fs : List (Str × D)} {q : DQ} (h : m a = some (.ins C fs)) (hq : q (.bl true) m) : isiO (tabI C) [.ref a, .ref C] m q := by
  refine isiO_of (t := .ref C) (b := true) ?_ (by unfold tabI; simp) hq
  have e : tyS m (.ref a) = none := by show (match m a with | some (.lst _) => some "list" | some (.dK _) => some "dict" | some (.dF _) => some "dict" | _ => none) = none; rw [h]
  unfold clsI
  rw [e]
  show (match m a with | some (.ins C _) => some (Value.ref C) | _ => none) = some (.ref C)
  rw [h]
end L2.Lh

namespace L2.Lh
open PySem PySem.Spec PyProof.Rows LamX
noncomputable section
local macro_rules | `(tactic| walk_at "rd") => `(tactic| try simp only [dSeq, dNext, dRet, dIfS, dAsg, gNm, dDrop, dVar, dC, dOp, dUn, dCB, dCN, dCL, dCNL, dCons, dNil, dTup, dLst, dNew, dAnd, dOr, dNot, dAndV, dOrV, dNotV, dIf, dTest, dTruth, dChain, dCall, dFor, dComp, dYes, iSeq, iNew, itOf, iRange1, iEnumL, gTp, gCn, gNl, dListRg, dTupRg, dRg1, dSl, dPart, dNoPart, slD, dEqNN, dBM, dAugIx, dSetIx, setD, wipeD, listD, sortD, tupleD, lenD, absD, max2D, min2D, isiD, tyS, isaB, truD, itemsOf, itemsL, reprD, minD, ixD, addD, ii0, iiD, subD, fdivD, modD, powD, ltD, leD, gtD, geD, dNil?, negD, mulD, eqD, neD, allN, anyN, List.getElem?_cons_zero, List.getElem?_cons_succ, List.set_cons_zero, List.set_cons_succ, if_true, if_false, Bool.false_eq_true, Bool.not_true, Bool.not_false, reduceIte, Option.map_some, beq_self_eq_true, List.length_cons, List.length_nil, Nat.zero_add, Nat.reduceAdd, true_and])

local macro_rules | `(tactic| walk_at "re") => `(tactic| try simp only [dSeq, dNext, dRet, dRetN, dIfS, dAsg, gNm, dDrop, dVar, dC, dOp, dUn, dCB, dCN, dCL, dCNL, dCons, dNil, dTup, dLst, dNew, dAnd, dOr, dNot, dAndV, dOrV, dNotV, dIf, dTest, dTruth, dChain, dCall, dCallK, dFor, dComp, dYes, iSeq, iNew, iRange1, iRange2, iEnumL, gTp_t, gCn_c, gNl_n, dListRg, dTupRg, dTupRgF, ftupleD_f, dRg1, dSl, dPart, dNoPart, dEqNN, dBM, dAugIx, dSetIx, dAug, wipeD, allN, anyN, dNil?, subD, fdivD, modD, powD, ltD, leD, gtD, geD,
  addD_ii, addD_ss, addD_tt, addD_rr, iiD_ii, ii0_ii, mulD_ii, mulD_ri, mulD_ti, negD_i, absD_i, max2D_ii, min2D_ii, eqD_ii, neD_ii, eqD_ss, neD_ss, reprD_i, reprD_t, reprD_r, reprD_o, itemsOf_t, itemsOf_o, itemsOf_f, lenD_f, tupleD_f, listD_f, itOf_f, isi_ftup_tuple, reprD_f, sortD_f, itemsL_o, lenD_t, lenD_o, lenD_s, tupleD_t, tupleD_o, listD_t, listD_o, minD_t, slD_t, slD_o, itOf_t, itOf_o, sortD_t, isi_int_int, isi_int_bool, isi_int_tuple, isi_tup_tuple, isi_tup_list, isi_tup_int, truD_b, truD_t, intsOf_map,
  List.getElem?_cons_zero, List.getElem?_cons_succ, List.set_cons_zero, List.set_cons_succ, List.map_cons, List.map_nil, List.getD_cons_zero, List.getD_cons_succ, if_true, if_false, Bool.false_eq_true, Bool.not_true, Bool.not_false, reduceIte, Option.map_some, beq_self_eq_true, List.length_cons, List.length_nil, List.length_map, Nat.zero_add, Nat.reduceAdd, true_and, Mem.set_same, decide_true, Int.toNat_natCast])

local macro_rules | `(tactic| walk_at "rf") => `(tactic| try simp only [dSeq, dNext, dRet, dRetN, dIfS, dAsg, gNm, dDrop, dVar, dC, dOp, dUn, dCB, dCN, dCL, dCNL, dCons, dNil, dTup, dLst, dNew, dAnd, dOr, dNot, dAndV, dOrV, dNotV, dIf, dTest, dTruth, dChain, dCall, dCallK, dFor, dComp, dYes, iSeq, iNew, iRange1, iRange2, iEnumL, iEnum, dSetG, dDisp1N, dDisp1K, dGet1, dGet2, dSetdef, lenG_t, ltG_ii, lenG_f, lenG_o, gTp_t, gCn_c, gNl_n, dListRg, dTupRg, dTupRgF, ftupleD_f, dRg1, dSl, dPart, dNoPart, dEqNN, dBM, dAugIx, dSetIx, dAug, wipeD, allN, anyN, dNil?, subD, fdivD, modD, powD, ltD, leD, gtD, geD,
  addD_ii, addD_ss, addD_tt, addD_rr, iiD_ii, ii0_ii, mulD_ii, mulD_ri, mulD_ti, negD_i, absD_i, max2D_ii, min2D_ii, eqD_ii, neD_ii, eqD_ss, neD_ss, reprD_i, reprD_t, reprD_r, reprD_o, itemsOf_t, itemsOf_o, itemsOf_f, lenD_f, tupleD_f, listD_f, itOf_f, isi_ftup_tuple, reprD_f, sortD_f, itemsL_o, lenD_t, lenD_o, lenD_s, tupleD_t, tupleD_o, listD_t, listD_o, minD_t, slD_t, slD_o, itOf_t, itOf_o, sortD_t, isi_int_int, isi_int_bool, isi_int_tuple, isi_tup_tuple, isi_tup_list, isi_tup_int, truD_b, truD_t, intsOf_map,
  List.getElem?_cons_zero, List.getElem?_cons_succ, List.set_cons_zero, List.set_cons_succ, List.map_cons, List.map_nil, List.getD_cons_zero, List.getD_cons_succ, if_true, if_false, Bool.false_eq_true, Bool.not_true, Bool.not_false, reduceIte, Option.map_some, beq_self_eq_true, List.length_map, Nat.reduceAdd, true_and, Mem.set_same, decide_true, Int.toNat_natCast])
local macro_rules | `(tactic| walk_at "mem") => `(tactic| grind [Mem.set, Mem.le])
local macro_rules | `(tactic| walk_at "sz") => `(tactic| first | exact sized (by decide) | exact sized' (by decide) | exact sized (by omega) | exact sized' (by omega) | (refine sized ?_; simp; done) | (refine sized' ?_; simp; done) | (refine sized ?_; simp; omega) | (refine sized' ?_; simp; omega))

/-! ### k05: books, or what is nearly one -/
abbrev Prs := List (List Int × List Int)
def pairD (p : List Int × List Int) : D := .tup [.tup (p.1.map D.int), .tup (p.2.map D.int)]
structure IsPair (many hands : Nat) (p : List Int × List Int) : Prop where
  turn : isTurnL p.1 = true
  len1 : p.1.length = many
  len2 : p.2.length = many
  on : ∀ s ∈ p.2, -(hands : Int) ≤ s ∧ s ≤ hands
structure IsBook (many : Nat) (P : Prs) : Prop where
  two : 2 ≤ many
  four : many ≤ 4
  most : P.length ≤ 6
  pair : ∀ p ∈ P, IsPair many P.length p
def OddD (m : Mem) (d : D) : Prop := (∃ b, d = .bl b) ∨ d = .non ∨ d = .str "1" ∨ d = .str "" ∨ d = .tup [.int 1] ∨ (∃ a, d = .ref a ∧ m a = some (.lst [.int 0])) ∨ (∃ a, d = .ref a ∧ m a = some (.dK [])) ∨ ∃ i : Int, d = .int i ∧ -1000 ≤ i ∧ i ≤ 2000000000000
/-- a part of a hand -/
def PartT (m : Mem) (d : D) : Prop := (∃ xs, d = .tup xs ∧ xs.length ≤ 6 ∧ ∀ x ∈ xs, OddD m x) ∨ (kn m d ∧ isA d m "tuple" = some false)
def HandT (m : Mem) (d : D) : Prop := (∃ t o, d = .tup [t, o] ∧ PartT m t ∧ PartT m o) ∨ (∃ xs, d = .tup xs ∧ xs.length ≠ 2) ∨ (kn m d ∧ isA d m "tuple" = some false)
/-- what stands for the hands, and its things -/
def RowsT (m : Mem) (d : D) (ds : List D) : Prop := (d = .tup ds ∨ ∃ a, d = .ref a ∧ m a = some (.lst ds)) ∧ ds.length ≤ 12 ∧ ∀ h ∈ ds, HandT m h
def NoRows (m : Mem) (d : D) : Prop := kn m d ∧ isA d m "tuple" = some false ∧ isA d m "list" = some false
def partsB (many hands : Nat) (t o : D) : Bool := match t with
  | .tup xs => match o with
    | .tup os => isTurnD (.tup xs) && decide (xs.length = many) && (decide (os.length = many) && os.all fun d => betw d (-(hands : Int)) hands)
    | _ => false
  | _ => false
def handL (many hands : Nat) (ds : List D) : Bool := match ds with
  | [t, o] => partsB many hands t o
  | _ => false
def handB (many hands : Nat) (d : D) : Bool := match d with
  | .tup ds => handL many hands ds
  | _ => false
def rowsB (many : Nat) (ds : List D) : Bool := decide (ds.length ≤ 6) && ds.all (handB many ds.length)
def sizeB (d : D) : Bool := betw d 2 4
def sizeN : D → Nat
  | .int i => i.toNat
  | _ => 0
def bookF (many : Nat) (b : Addr) : List (Str × D) := [("many", .int (many : Nat)), ("pairs", .ref b)]
def BookAt (C : Addr) (m : Mem) (d : D) (many : Nat) (P : Prs) : Prop := ∃ a b, d = .ref a ∧ m a = some (.ins C (bookF many b)) ∧ m b = some (.lst (P.map pairD))
def sp_is_hand : DSp := sp3 fun d a b m q _ => ∃ many hands : Nat, HandT m d ∧ a = .int (many : Nat) ∧ b = .int (hands : Nat) ∧ q (.bl (handB many hands d)) m
def sp_are_hands : DSp := sp2 fun d a m q _ => ∃ many : Nat, a = .int (many : Nat) ∧ ((∃ ds, RowsT m d ds ∧ q (.bl (rowsB many ds)) m) ∨ (NoRows m d ∧ q (.bl false) m))
/-- whether letters and hands are a book's -/
def BookB (m : Mem) (e f : D) (b : Bool) : Prop := (∃ ds, RowsT m f ds ∧ b = (sizeB e && rowsB (sizeN e) ds)) ∨ (NoRows m f ∧ b = false)
def sp_Book___init__ (C X : Addr) : DSp := sp3 fun d e f m q qe => ∃ (a : Addr) (b : Bool), d = .ref a ∧ m a = some (.ins C []) ∧ OddD m e ∧ BookB m e f b ∧
  (∀ (many : Nat) (P : Prs), e = .int (many : Nat) → RowsT m f (P.map pairD) → IsBook many P → b = true → ∀ r, m r = none → q .non ((m.set r (.lst (P.map pairD))).set a (.ins C (bookF many r)))) ∧ (b = false → qe (.ref X) m)
def sp_Book_letters (C : Addr) : DSp := sp1 fun d m q _ => ∃ many P, BookAt C m d many P ∧ q (.int (many : Nat)) m
def sp_Book_told (C : Addr) : DSp := sp1 fun d m q _ => ∃ many P, BookAt C m d many P ∧ ∀ a, m a = none → q (.ref a) (m.set a (.lst (P.map pairD)))
def sp_law_state : DSp := sp2 fun d k m q _ => ∃ (ns : List Int) (i : Nat), d = .rol (ns.map D.int) ∧ k = .int (i : Nat) ∧ ∀ (n : Int) (a : Addr), m a = none → q (.ref a) (m.set a (.lst [.int n]))
def sp_law_next : DSp := sp2 fun d k m q _ => ∃ (a : Addr) (n : Int) (i : Int), d = .ref a ∧ m a = some (.lst [.int n]) ∧ k = .int i ∧ 0 < i ∧ i < 1073741824 ∧ ∀ r n' : Int, 0 ≤ r → r < i → q (.int r) (m.set a (.lst [.int n']))
def sp_law_turn : DSp := sp2 fun d k m q _ => ∃ (a : Addr) (n : Int) (i : Nat), d = .ref a ∧ m a = some (.lst [.int n]) ∧ k = .int (i : Nat) ∧ i ≤ 4 ∧ ∀ (ns : List Int) (n' : Int), ns.Perm (rngI i) → q (.tup (ns.map D.int)) (m.set a (.lst [.int n']))
def sp_law_pairs : DSp := sp1 fun d m q _ => ∃ (a : Addr) (n : Int), d = .ref a ∧ m a = some (.lst [.int n]) ∧ ∀ (many : Nat) (P : Prs) (n' : Int) (p : Addr), IsBook many P → m p = none → q (.tup [.int (many : Nat), .ref p]) ((m.set a (.lst [.int n'])).set p (.lst (P.map pairD)))
/-- the drawn cell moves on, all else that was known stays -/
structure KpS (m M : Mem) (a : Addr) : Prop where
  cell : ∃ n, M a = some (.lst [.int n])
  keep : ∀ b o, b ≠ a → m b = some o → M b = some o
def sp_law_odd : DSp := sp1 fun d m q _ => ∃ (a : Addr) (n : Int), d = .ref a ∧ m a = some (.lst [.int n]) ∧ ∀ (T : D) (M : Mem), KpS m M a → OddD M T → T ≠ .ref a → q T M
def sp_law_spoilt : DSp := sp3 fun d e f m q _ => ∃ (a : Addr) (n : Int) (many hands : Nat) (p : List Int × List Int), d = .ref a ∧ m a = some (.lst [.int n]) ∧ e = pairD p ∧ IsPair many hands p ∧ 2 ≤ many ∧ many ≤ 4 ∧ hands ≤ 6 ∧ f = .int (hands : Nat) ∧ ∀ (T : D) (M : Mem), KpS m M a → HandT M T → q T M
def sp_law_thing : DSp := sp1 fun d m q _ => ∃ (a : Addr) (n : Int), d = .ref a ∧ m a = some (.lst [.int n]) ∧ ∀ (S R : D) (M : Mem), KpS m M a → OddD M S → ((∃ ds, RowsT M R ds) ∨ NoRows M R) → q (.tup [S, R]) M
def sp_law_whole : DSp := sp3 fun d e f m q _ => ∃ i j : Int, kn m d ∧ e = .int i ∧ f = .int j ∧ q (.bl (betw d i j)) m
def sp_law_is_hand : DSp := sp3 fun d a b m q _ => ∃ many hands : Nat, HandT m d ∧ a = .int (many : Nat) ∧ 2 ≤ many ∧ many ≤ 4 ∧ b = .int (hands : Nat) ∧ hands ≤ 6 ∧ q (.bl (handB many hands d)) m
def sp_law_is_book : DSp := sp2 fun d e m q _ => OddD m d ∧ ∃ b, BookB m d e b ∧ q (.bl b) m
/-- told, or the refusal that is taken -/
def sp_law_told (C_NoBook : Addr) : DSpL := fun dl m q => ∀ (k : DQ) (ke : Value → Mem → Prop), (∀ d m', q (.tup [.str "told", d]) m' → k d m') → (∀ (c : Addr) (nm : Str) m', (c, nm) ∈ [(C_NoBook, ("NoBook" : Str))] → q (.tup [.str "refused", .str nm]) m' → ke (.ref c) m') → dl m k ke

abbrev sp_law : DSp := spLawD 63

def N_is_whole : List Str := ["thing"]
def rd_is_whole (we : DWX) : DTS :=
  (dRet (dAndV (dCB isiD (dCons (dVar 0) (dCons (dC (.ty "int")) dNil))) (dNotV (dCB isiD (dCons (dVar 0) (dCons (dC (.ty "bool")) dNil))))))
def N_is_between : List Str := ["thing", "least", "most"]
def rd_is_between (we : DWX) : DTS :=
  (dRet (dAndV (dCall sp_is_whole we (dCons (dVar 0) dNil)) (dChain leD leD (dVar 1) (dVar 0) (dVar 2))))
def N_is_turn : List Str := ["thing", "letter"]
def rd_is_turn (we : DWX) : DTS :=
  (dSeq (dIfS (dOr (dNot (dTruth (dCB isiD (dCons (dVar 0) (dCons (dC (.ty "tuple")) dNil))))) (dNot (dTest (dChain leD leD (dC (.int 2)) (dCB lenD (dCons (dVar 0) dNil)) (dC (.int 4)))))) (dRet (dC (.bl false))) dNext)
  (dSeq (dIfS (dNot (dTruth (dCN allN (dComp (iSeq (dVar 0)) (gNm 1) dYes (dCall sp_is_between we0 (dCons (dVar 1) (dCons (dC (.int 0)) (dCons (dOp subD (dCB lenD (dCons (dVar 0) dNil)) (dC (.int 1))) dNil)))) [1])))) (dRet (dC (.bl false))) dNext)
  (dRet (dEqNN false (dCL sortD (dVar 0)) (dListRg (dCB lenD (dCons (dVar 0) dNil)))))))
def N_is_hand : List Str := ["thing", "many", "hands", "step"]
def rd_is_hand (we : DWX) : DTS :=
  (dSeq (dIfS (dOr (dNot (dTruth (dCB isiD (dCons (dVar 0) (dCons (dC (.ty "tuple")) dNil))))) (dOr (dTest (dOp neD (dCB lenD (dCons (dVar 0) dNil)) (dC (.int 2)))) (dOr (dNot (dTruth (dCall sp_is_turn we (dCons (dOp ixD (dVar 0) (dC (.int 0))) dNil)))) (dTest (dOp neD (dCB lenD (dCons (dOp ixD (dVar 0) (dC (.int 0))) dNil)) (dVar 1)))))) (dRet (dC (.bl false))) dNext)
  (dSeq (dIfS (dOr (dNot (dTruth (dCB isiD (dCons (dOp ixD (dVar 0) (dC (.int 1))) (dCons (dC (.ty "tuple")) dNil))))) (dTest (dOp neD (dCB lenD (dCons (dOp ixD (dVar 0) (dC (.int 1))) dNil)) (dVar 1)))) (dRet (dC (.bl false))) dNext)
  (dRet (dCN allN (dComp (iSeq (dOp ixD (dVar 0) (dC (.int 1)))) (gNm 3) dYes (dCall sp_is_between we0 (dCons (dVar 3) (dCons (dUn negD (dVar 2)) (dCons (dVar 2) dNil)))) [3])))))
def N_are_hands : List Str := ["thing", "many", "one"]
def rd_are_hands (we : DWX) : DTS :=
  (dSeq (dIfS (dOr (dNot (dTruth (dCB isiD (dCons (dVar 0) (dCons (dTup (dCons (dC (.ty "list")) (dCons (dC (.ty "tuple")) dNil))) dNil))))) (dTest (dOp gtD (dCB lenD (dCons (dVar 0) dNil)) (dC (.int 6))))) (dRet (dC (.bl false))) dNext)
  (dRet (dCN allN (dComp (iSeq (dVar 0)) (gNm 2) dYes (dCall sp_is_hand we0 (dCons (dVar 2) (dCons (dVar 1) (dCons (dCB lenD (dCons (dVar 0) dNil)) dNil)))) [2]))))
def N_Book___init__ : List Str := ["self", "many", "hands"]
def rd_Book___init__ (C_Book : Addr) (C_NoBook : Addr) (we : DWX) : DTS :=
  (dSeq (dIfS (dOr (dNot (dTruth (dCall sp_is_between we (dCons (dVar 1) (dCons (dC (.int 2)) (dCons (dC (.int 4)) dNil)))))) (dNot (dTruth (dCall sp_are_hands we (dCons (dVar 2) (dCons (dVar 1) dNil)))))) (dRaise we C_NoBook) dNext)
  (dSeq (dSetF C_Book "many" (dVar 1) (dVar 0))
  (dSetF C_Book "pairs" (dNew (dCL listD (dVar 2))) (dVar 0))))
def N_Book_letters : List Str := ["self"]
def rd_Book_letters (C_Book : Addr) (we : DWX) : DTS :=
  (dRet (dFld C_Book "many" (dVar 0)))
def N_Book_told : List Str := ["self"]
def rd_Book_told (C_Book : Addr) (we : DWX) : DTS :=
  (dRet (dNew (dCL listD (dFld C_Book "pairs" (dVar 0)))))
def N_law_state : List Str := ["_law_script", "_law_k", "_law_cell", "_law_primes", "_law_found", "_law_j", "_law_prime", "_law_one"]
def rd_law_state_2 (we : DWX) : DTS :=
  (dSeq (dAsg (dNew (dLst (dCons (dC (.int 2147483629)) (dCons (dC (.int 2147483587)) (dCons (dC (.int 2147483579)) (dCons (dC (.int 2147483563)) (dCons (dC (.int 2147483549)) (dCons (dC (.int 2147483543)) (dCons (dC (.int 2147483497)) (dCons (dC (.int 2147483489)) dNil)))))))))) (gNm 3))
  (dSeq (dAsg (dOp addD (dVar 3) (dNew (dLst (dCons (dC (.int 2147483477)) (dCons (dC (.int 2147483423)) (dCons (dC (.int 2147483399)) (dCons (dC (.int 2147483353)) (dCons (dC (.int 2147483323)) (dCons (dC (.int 2147483269)) (dCons (dC (.int 2147483249)) dNil)))))))))) (gNm 3))
  (dSeq (dAsg (dC (.int 0)) (gNm 4))
  (dSeq (dFor (iEnumL (dVar 3)) (gTp 2 (gCn (gNm 5) (gCn (gNm 6) gNl))) (dSeq (dAsg (dOp modD (dOp addD (dOp addD (dOp addD (dVar 2) (dOp mulD (dC (.int 104729)) (dVar 1))) (dOp mulD (dC (.int 1299709)) (dVar 5))) (dC (.int 17))) (dVar 6)) (gNm 7))
  (dAsg (dOp addD (dOp mulD (dVar 4) (dC (.int 2147483647))) (dOp modD (dOp mulD (dVar 7) (dOp addD (dOp addD (dOp mulD (dVar 7) (dVar 7)) (dOp mulD (dC (.int 2)) (dVar 5))) (dC (.int 3)))) (dVar 6))) (gNm 4))))
  (dRet (dNew (dLst (dCons (dVar 4) dNil))))))))
def rd_law_state_1 (we : DWX) : DTS :=
  (dSeq (dIfS (dAnd (dTest (dOp geD (dVar 2) (dOp powD (dC (.int 10)) (dC (.int 18))))) (dTest (dOp ltD (dVar 1) (dCB lenD (dCons (dVar 0) dNil))))) (dRet (dNew (dLst (dCons (dOp subD (dVar 2) (dOp powD (dC (.int 10)) (dC (.int 18)))) dNil)))) dNext)
  (rd_law_state_2 we))
def rd_law_state (we : DWX) : DTS :=
  (dSeq (dAsg (dIf (dTest (dNil? true (dVar 0))) (dCB absD (dCons (dOp ixD (dVar 0) (dOp modD (dVar 1) (dCB lenD (dCons (dVar 0) dNil)))) dNil)) (dC (.int 0))) (gNm 2))
  (rd_law_state_1 we))
def N_law_next : List Str := ["_law_state_here", "_law_size", "_law_found"]
def rd_law_next (we : DWX) : DTS :=
  (dSeq (dAsg (dOp modD (dOp ixD (dVar 0) (dC (.int 0))) (dVar 1)) (gNm 2))
  (dSeq (dSetIx (dOp fdivD (dOp ixD (dVar 0) (dC (.int 0))) (dVar 1)) (dVar 0) (dC (.int 0)))
  (dRet (dVar 2))))
def N_law_turn : List Str := ["_law_state_here", "_law_size", "_law_left", "_law_k"]
def rd_law_turn (we : DWX) : DTS :=
  (dSeq (dAsg (dNew (dListRg (dVar 1))) (gNm 2))
  (dRet (dCN (fun ds m q => q (.tup ds) m) (dComp (iRange1 (dVar 1)) (gNm 3) dYes (dBM popAtD (dVar 2) (dCons (dOp modD (dOp addD (dCall sp_law_next we0 (dCons (dVar 0) (dCons (dCB lenD (dCons (dVar 2) dNil)) dNil))) (dC (.int 1))) (dCB lenD (dCons (dVar 2) dNil))) dNil)) [3]))))
def N_law_pairs : List Str := ["_law_state_here", "_law_size", "_law_rows", "_law_pairs_here", "_law_k", "_law_turn_here", "_law_j", "_law_onward"]
def rd_law_pairs (we : DWX) : DTS :=
  (dSeq (dAsg (dOp ixD (dNew (dLst (dCons (dC (.int 2)) (dCons (dC (.int 2)) (dCons (dC (.int 3)) (dCons (dC (.int 4)) dNil)))))) (dCall sp_law_next we (dCons (dVar 0) (dCons (dC (.int 4)) dNil)))) (gNm 1))
  (dSeq (dAsg (dOp ixD (dNew (dLst (dCons (dC (.int 1)) (dCons (dC (.int 2)) (dCons (dC (.int 3)) (dCons (dC (.int 0)) (dCons (dC (.int 4)) (dCons (dC (.int 5)) (dCons (dC (.int 6)) (dCons (dC (.int 2)) dNil)))))))))) (dCall sp_law_next we (dCons (dVar 0) (dCons (dC (.int 8)) dNil)))) (gNm 2))
  (dSeq (dAsg (dNew (dLst dNil)) (gNm 3))
  (dSeq (dFor (iRange1 (dVar 2)) (gNm 4) (dSeq (dAsg (dCall sp_law_turn we (dCons (dVar 0) (dCons (dVar 1) dNil))) (gNm 5))
  (dSeq (dAsg (dNew (dComp (iRange1 (dVar 1)) (gNm 6) dYes (dOp mulD (dCall sp_law_next we0 (dCons (dVar 0) (dCons (dC (.int 2)) dNil))) (dOp subD (dCall sp_law_next we0 (dCons (dVar 0) (dCons (dOp addD (dOp mulD (dC (.int 2)) (dVar 2)) (dC (.int 1))) dNil))) (dVar 2))) [6])) (gNm 7))
  (dDrop (dBM appendD (dVar 3) (dCons (dTup (dCons (dVar 5) (dCons (dCB tupleD (dCons (dVar 7) dNil)) dNil))) dNil))))))
  (dRet (dTup (dCons (dVar 1) (dCons (dVar 3) dNil))))))))
def N_law_odd : List Str := ["_law_state_here", "_law_some"]
def rd_law_odd_1 (we : DWX) : DTS :=
  (dRet (dOp ixG (dVar 1) (dCall sp_law_next we (dCons (dVar 0) (dCons (dC (.int 10)) dNil)))))
def rd_law_odd (we : DWX) : DTS :=
  (dSeq (dAsg (dNew (dLst (dCons (dC (.bl true)) (dCons (dC (.bl false)) (dCons (dC .non) (dCons (dC (.str "1")) (dCons (dC (.str "")) (dCons (dTup (dCons (dC (.int 1)) dNil)) (dCons (dNew (dLst (dCons (dC (.int 0)) dNil))) (dCons dDict0 (dCons (dOp addD (dOp powD (dC (.int 10)) (dC (.int 12))) (dCall sp_law_next we (dCons (dVar 0) (dCons (dOp powD (dC (.int 10)) (dC (.int 9))) dNil)))) (dCons (dUn negD (dC (.int 7))) dNil)))))))))))) (gNm 1))
  (rd_law_odd_1 we))
def N_law_spoilt : List Str := ["_law_state_here", "_law_hand", "_law_rows", "_law_choice", "_law_at", "_law_odd_here", "_law_number", "_law_turn_here", "_law_onward"]
def rd_law_spoilt_12 (we : DWX) : DTS :=
  (dRet (dIf (dTest (dOp eqD (dVar 3) (dC (.int 7)))) (dTup (dCons (dVar 8) (dCons (dVar 7) dNil))) (dVar 1)))
def rd_law_spoilt_11 (we : DWX) : DTS :=
  (dSeq (dIfS (dTest (dOp eqD (dVar 3) (dC (.int 6)))) (dRet (dTup (dCons (dVar 7) (dCons (dOp ixD (dNew (dLst (dCons (dNew (dCL listD (dVar 8))) (dCons (dOp addD (dVar 8) (dTup (dCons (dC (.int 0)) dNil))) (dCons (dSl (dVar 8) (dPart (dC (.int 1))) dNoPart) (dCons (dVar 5) dNil)))))) (dOp modD (dVar 6) (dC (.int 4)))) dNil)))) dNext)
  (rd_law_spoilt_12 we))
def rd_law_spoilt_10 (we : DWX) : DTS :=
  (dSeq (dIfS (dTest (dOp eqD (dVar 3) (dC (.int 5)))) (dRet (dTup (dCons (dVar 7) (dCons (dOp addD (dOp addD (dSl (dVar 8) dNoPart (dPart (dVar 4))) (dTup (dCons (dVar 5) dNil))) (dSl (dVar 8) (dPart (dOp addD (dVar 4) (dC (.int 1)))) dNoPart)) dNil)))) dNext)
  (rd_law_spoilt_11 we))
def rd_law_spoilt_9 (we : DWX) : DTS :=
  (dSeq (dIfS (dTest (dOp eqD (dVar 3) (dC (.int 4)))) (dRet (dTup (dCons (dVar 7) (dCons (dOp addD (dOp addD (dSl (dVar 8) dNoPart (dPart (dVar 4))) (dTup (dCons (dOp ixD (dNew (dLst (dCons (dOp addD (dVar 2) (dC (.int 1))) (dCons (dOp subD (dUn negD (dC (.int 1))) (dVar 2)) (dCons (dVar 2) (dCons (dUn negD (dVar 2)) dNil)))))) (dOp modD (dVar 6) (dC (.int 4)))) dNil))) (dSl (dVar 8) (dPart (dOp addD (dVar 4) (dC (.int 1)))) dNoPart)) dNil)))) dNext)
  (rd_law_spoilt_10 we))
def rd_law_spoilt_8 (we : DWX) : DTS :=
  (dSeq (dIfS (dTest (dOp eqD (dVar 3) (dC (.int 3)))) (dRet (dTup (dCons (dOp ixD (dNew (dLst (dCons (dNew (dCL listD (dVar 7))) (dCons (dOp addD (dVar 7) (dTup (dCons (dCB lenD (dCons (dVar 7) dNil)) dNil))) (dCons (dSl (dVar 7) dNoPart (dPart (dUn negD (dC (.int 1))))) dNil))))) (dOp modD (dVar 6) (dC (.int 3)))) (dCons (dVar 8) dNil)))) dNext)
  (rd_law_spoilt_9 we))
def rd_law_spoilt_7 (we : DWX) : DTS :=
  (dSeq (dIfS (dTest (dOp eqD (dVar 3) (dC (.int 2)))) (dRet (dTup (dCons (dOp addD (dOp addD (dSl (dVar 7) dNoPart (dPart (dVar 4))) (dTup (dCons (dVar 5) dNil))) (dSl (dVar 7) (dPart (dOp addD (dVar 4) (dC (.int 1)))) dNoPart)) (dCons (dVar 8) dNil)))) dNext)
  (rd_law_spoilt_8 we))
def rd_law_spoilt_6 (we : DWX) : DTS :=
  (dSeq (dIfS (dTest (dOp eqD (dVar 3) (dC (.int 1)))) (dRet (dTup (dCons (dOp addD (dOp addD (dSl (dVar 7) dNoPart (dPart (dVar 4))) (dTup (dCons (dOp subD (dVar 6) (dC (.int 1))) dNil))) (dSl (dVar 7) (dPart (dOp addD (dVar 4) (dC (.int 1)))) dNoPart)) (dCons (dVar 8) dNil)))) dNext)
  (rd_law_spoilt_7 we))
def rd_law_spoilt_5 (we : DWX) : DTS :=
  (dSeq (dIfS (dTest (dOp eqD (dVar 3) (dC (.int 0)))) (dRet (dOp ixD (dNew (dLst (dCons (dNew (dCL listD (dVar 1))) (dCons (dVar 5) (dCons (dOp addD (dVar 1) (dTup (dCons (dC (.int 0)) dNil))) (dCons (dTup (dCons (dVar 7) dNil)) dNil)))))) (dOp modD (dVar 6) (dC (.int 4))))) dNext)
  (rd_law_spoilt_6 we))
def rd_law_spoilt_4 (we : DWX) : DTS :=
  (dSeq (dAsg (dVar 1) (gTp 2 (gCn (gNm 7) (gCn (gNm 8) gNl))))
  (rd_law_spoilt_5 we))
def rd_law_spoilt_3 (we : DWX) : DTS :=
  (dSeq (dAsg (dCall sp_law_next we (dCons (dVar 0) (dCons (dC (.int 6)) dNil))) (gNm 6))
  (rd_law_spoilt_4 we))
def rd_law_spoilt_2 (we : DWX) : DTS :=
  (dSeq (dAsg (dCall sp_law_odd we (dCons (dVar 0) dNil)) (gNm 5))
  (rd_law_spoilt_3 we))
def rd_law_spoilt_1 (we : DWX) : DTS :=
  (dSeq (dAsg (dCall sp_law_next we (dCons (dVar 0) (dCons (dCB lenD (dCons (dOp ixD (dVar 1) (dC (.int 0))) dNil)) dNil))) (gNm 4))
  (rd_law_spoilt_2 we))
def rd_law_spoilt (we : DWX) : DTS :=
  (dSeq (dAsg (dCall sp_law_next we (dCons (dVar 0) (dCons (dC (.int 9)) dNil))) (gNm 3))
  (rd_law_spoilt_1 we))
def N_law_thing : List Str := ["_law_state_here", "_law_choice", "_law_at", "_law_odd_here", "_law_number", "_law_as_list", "_law_size", "_law_pairs_here"]
def rd_law_thing_9t1 (we : DWX) : DTS :=
  (dAsg (dOp addD (dOp addD (dSl (dVar 7) dNoPart (dPart (dVar 2))) (dNew (dLst (dCons (dCall sp_law_spoilt we (dCons (dVar 0) (dCons (dOp ixD (dVar 7) (dVar 2)) (dCons (dCB lenD (dCons (dVar 7) dNil)) dNil)))) dNil)))) (dSl (dVar 7) (dPart (dOp addD (dVar 2) (dC (.int 1)))) dNoPart)) (gNm 7))
def rd_law_thing_9t (we : DWX) : DTS :=
  (dSeq (dAsg (dOp modD (dVar 2) (dCB lenD (dCons (dVar 7) dNil))) (gNm 2))
  (rd_law_thing_9t1 we))
def rd_law_thing_10 (we : DWX) : DTS :=
  (dRet (dTup (dCons (dVar 6) (dCons (dIf (dTruth (dVar 5)) (dVar 7) (dCB tupleD (dCons (dVar 7) dNil))) dNil))))
def rd_law_thing_9 (we : DWX) : DTS :=
  (dSeq (dIfS (dAnd (dTest (dOp gtD (dVar 1) (dC (.int 3)))) (dTest (dNil? true (dVar 7)))) (rd_law_thing_9t we) dNext)
  (rd_law_thing_10 we))
def rd_law_thing_8 (we : DWX) : DTS :=
  (dSeq (dIfS (dTest (dOp eqD (dVar 1) (dC (.int 2)))) (dAsg (dOp addD (dVar 7) (dOp mulG (dNew (dLst (dCons (dTup (dCons (dSl (dTup (dCons (dC (.int 1)) (dCons (dC (.int 0)) (dCons (dC (.int 2)) (dCons (dC (.int 3)) dNil))))) dNoPart (dPart (dVar 6))) (dCons (dOp mulG (dTup (dCons (dC (.int 0)) dNil)) (dVar 6)) dNil))) dNil))) (dOp subD (dOp addD (dC (.int 5)) (dOp modD (dVar 2) (dC (.int 3)))) (dCB lenD (dCons (dVar 7) dNil))))) (gNm 7)) dNext)
  (rd_law_thing_9 we))
def rd_law_thing_7 (we : DWX) : DTS :=
  (dSeq (dIfS (dTest (dOp eqD (dVar 1) (dC (.int 1)))) (dRet (dTup (dCons (dVar 6) (dCons (dVar 3) dNil)))) dNext)
  (rd_law_thing_8 we))
def rd_law_thing_6 (we : DWX) : DTS :=
  (dSeq (dIfS (dTest (dOp eqD (dVar 1) (dC (.int 0)))) (dAsg (dOp ixD (dNew (dLst (dCons (dVar 4) (dCons (dVar 3) dNil)))) (dOp modD (dVar 2) (dC (.int 2)))) (gNm 6)) dNext)
  (rd_law_thing_7 we))
def rd_law_thing_5 (we : DWX) : DTS :=
  (dSeq (dAsg (dCall sp_law_pairs we (dCons (dVar 0) dNil)) (gTp 2 (gCn (gNm 6) (gCn (gNm 7) gNl))))
  (rd_law_thing_6 we))
def rd_law_thing_4 (we : DWX) : DTS :=
  (dSeq (dAsg (dOp eqD (dCall sp_law_next we (dCons (dVar 0) (dCons (dC (.int 2)) dNil))) (dC (.int 0))) (gNm 5))
  (rd_law_thing_5 we))
def rd_law_thing_3 (we : DWX) : DTS :=
  (dSeq (dAsg (dCall sp_law_next we (dCons (dVar 0) (dCons (dC (.int 7)) dNil))) (gNm 4))
  (rd_law_thing_4 we))
def rd_law_thing_2 (we : DWX) : DTS :=
  (dSeq (dAsg (dCall sp_law_odd we (dCons (dVar 0) dNil)) (gNm 3))
  (rd_law_thing_3 we))
def rd_law_thing_1 (we : DWX) : DTS :=
  (dSeq (dAsg (dCall sp_law_next we (dCons (dVar 0) (dCons (dC (.int 8)) dNil))) (gNm 2))
  (rd_law_thing_2 we))
def rd_law_thing (we : DWX) : DTS :=
  (dSeq (dAsg (dCall sp_law_next we (dCons (dVar 0) (dCons (dC (.int 8)) dNil))) (gNm 1))
  (rd_law_thing_1 we))
def N_law_whole : List Str := ["_law_thing_here", "_law_low", "_law_most"]
def rd_law_whole (we : DWX) : DTS :=
  (dRet (dAndV (dCB isiD (dCons (dVar 0) (dCons (dC (.ty "int")) dNil))) (dAndV (dNotV (dCB isiD (dCons (dVar 0) (dCons (dC (.ty "bool")) dNil)))) (dChain leD leD (dVar 1) (dVar 0) (dVar 2)))))
def N_law_is_hand : List Str := ["_law_thing_here", "_law_size", "_law_rows", "_law_turn_here", "_law_onward", "_law_one", "_law_k", "_law_step"]
def rd_law_is_hand_4 (we : DWX) : DTS :=
  (dRet (dCN allN (dComp (iSeq (dVar 4)) (gNm 7) dYes (dCall sp_law_whole we0 (dCons (dVar 7) (dCons (dUn negD (dVar 2)) (dCons (dVar 2) dNil)))) [7])))
def rd_law_is_hand_3 (we : DWX) : DTS :=
  (dSeq (dIfS (dTest (dEqNN true (dCNL sortNS (dComp (iSeq (dVar 3)) (gNm 5) dYes (dCB reprX (dCons (dVar 5) dNil)) [5])) (dComp (iRange1 (dVar 1)) (gNm 6) dYes (dCB strD (dCons (dVar 6) dNil)) [6]))) (dRet (dC (.bl false))) dNext)
  (rd_law_is_hand_4 we))
def rd_law_is_hand_2 (we : DWX) : DTS :=
  (dSeq (dIfS (dOr (dNot (dTruth (dCB isiD (dCons (dVar 3) (dCons (dC (.ty "tuple")) dNil))))) (dOr (dNot (dTruth (dCB isiD (dCons (dVar 4) (dCons (dC (.ty "tuple")) dNil))))) (dTest (dOp neD (dTup (dCons (dCB lenD (dCons (dVar 3) dNil)) (dCons (dCB lenD (dCons (dVar 4) dNil)) dNil))) (dTup (dCons (dVar 1) (dCons (dVar 1) dNil))))))) (dRet (dC (.bl false))) dNext)
  (rd_law_is_hand_3 we))
def rd_law_is_hand_1 (we : DWX) : DTS :=
  (dSeq (dAsg (dVar 0) (gTp 2 (gCn (gNm 3) (gCn (gNm 4) gNl))))
  (rd_law_is_hand_2 we))
def rd_law_is_hand (we : DWX) : DTS :=
  (dSeq (dIfS (dOr (dNot (dTruth (dCB isiD (dCons (dVar 0) (dCons (dC (.ty "tuple")) dNil))))) (dTest (dOp neD (dCB lenD (dCons (dVar 0) dNil)) (dC (.int 2))))) (dRet (dC (.bl false))) dNext)
  (rd_law_is_hand_1 we))
def N_law_is_book : List Str := ["_law_size", "_law_rows", "_law_one"]
def rd_law_is_book (we : DWX) : DTS :=
  (dSeq (dIfS (dOr (dNot (dTruth (dCall sp_law_whole we (dCons (dVar 0) (dCons (dC (.int 2)) (dCons (dC (.int 4)) dNil)))))) (dOr (dNot (dTruth (dCB isiD (dCons (dVar 1) (dCons (dTup (dCons (dC (.ty "list")) (dCons (dC (.ty "tuple")) dNil))) dNil))))) (dTest (dOp gtD (dCB lenD (dCons (dVar 1) dNil)) (dC (.int 6)))))) (dRet (dC (.bl false))) dNext)
  (dRet (dCN allN (dComp (iSeq (dVar 1)) (gNm 2) dYes (dCall sp_law_is_hand we0 (dCons (dVar 2) (dCons (dVar 0) (dCons (dCB lenD (dCons (dVar 1) dNil)) dNil)))) [2]))))
def N_law_told : List Str := ["_law_work", "_law_found", "_law_error", "e", "_law_marks", "_law_name", "_law_there"]
def rd_law_told_5 (C_NoBook : Addr) (C_HandError : Addr) (C_NoText : Addr) (C_NoDeed : Addr) (C_InUse : Addr) (C_NoName : Addr) (C_TooMany : Addr) (C_NoNumber : Addr) (C_NoMachine : Addr) (C_NoRow : Addr) (C_NoWord : Addr) (C_NoTurn : Addr) (f : Addr) (dl : DLm) (we : DWX) : DTS :=
  (dRet (dTup (dCons (dC (.str "refused")) (dCons (dJoin (dC (.str " ")) (dNew (dComp (iSeq (dVar 4)) (gTp 2 (gCn (gNm 5) (gCn (gNm 6) gNl))) (dTruth (dVar 6)) (dVar 5) [5, 6]))) dNil))))
def rd_law_told_4 (C_NoBook : Addr) (C_HandError : Addr) (C_NoText : Addr) (C_NoDeed : Addr) (C_InUse : Addr) (C_NoName : Addr) (C_TooMany : Addr) (C_NoNumber : Addr) (C_NoMachine : Addr) (C_NoRow : Addr) (C_NoWord : Addr) (C_NoTurn : Addr) (f : Addr) (dl : DLm) (we : DWX) : DTS :=
  (dSeq (dAsg (dNew (dLst (dCons (dTup (dCons (dC (.str "NoTurn")) (dCons (dCB (isiE [((.type "NoneType"), (.ref C_NoTurn), false), ((.ref C_NoBook), (.ref C_NoTurn), false)]) (dCons (dVar 2) (dCons (dC (.ref C_NoTurn)) dNil))) dNil))) (dCons (dTup (dCons (dC (.str "NoBook")) (dCons (dCB (isiE [((.type "NoneType"), (.ref C_NoBook), false), ((.ref C_NoBook), (.ref C_NoBook), true)]) (dCons (dVar 2) (dCons (dC (.ref C_NoBook)) dNil))) dNil))) (dCons (dTup (dCons (dC (.str "NoWord")) (dCons (dCB (isiE [((.type "NoneType"), (.ref C_NoWord), false), ((.ref C_NoBook), (.ref C_NoWord), false)]) (dCons (dVar 2) (dCons (dC (.ref C_NoWord)) dNil))) dNil))) (dCons (dTup (dCons (dC (.str "NoRow")) (dCons (dCB (isiE [((.type "NoneType"), (.ref C_NoRow), false), ((.ref C_NoBook), (.ref C_NoRow), false)]) (dCons (dVar 2) (dCons (dC (.ref C_NoRow)) dNil))) dNil))) (dCons (dTup (dCons (dC (.str "NoMachine")) (dCons (dCB (isiE [((.type "NoneType"), (.ref C_NoMachine), false), ((.ref C_NoBook), (.ref C_NoMachine), false)]) (dCons (dVar 2) (dCons (dC (.ref C_NoMachine)) dNil))) dNil))) (dCons (dTup (dCons (dC (.str "NoNumber")) (dCons (dCB (isiE [((.type "NoneType"), (.ref C_NoNumber), false), ((.ref C_NoBook), (.ref C_NoNumber), false)]) (dCons (dVar 2) (dCons (dC (.ref C_NoNumber)) dNil))) dNil))) (dCons (dTup (dCons (dC (.str "TooMany")) (dCons (dCB (isiE [((.type "NoneType"), (.ref C_TooMany), false), ((.ref C_NoBook), (.ref C_TooMany), false)]) (dCons (dVar 2) (dCons (dC (.ref C_TooMany)) dNil))) dNil))) (dCons (dTup (dCons (dC (.str "NoName")) (dCons (dCB (isiE [((.type "NoneType"), (.ref C_NoName), false), ((.ref C_NoBook), (.ref C_NoName), false)]) (dCons (dVar 2) (dCons (dC (.ref C_NoName)) dNil))) dNil))) (dCons (dTup (dCons (dC (.str "InUse")) (dCons (dCB (isiE [((.type "NoneType"), (.ref C_InUse), false), ((.ref C_NoBook), (.ref C_InUse), false)]) (dCons (dVar 2) (dCons (dC (.ref C_InUse)) dNil))) dNil))) (dCons (dTup (dCons (dC (.str "NoDeed")) (dCons (dCB (isiE [((.type "NoneType"), (.ref C_NoDeed), false), ((.ref C_NoBook), (.ref C_NoDeed), false)]) (dCons (dVar 2) (dCons (dC (.ref C_NoDeed)) dNil))) dNil))) (dCons (dTup (dCons (dC (.str "NoText")) (dCons (dCB (isiE [((.type "NoneType"), (.ref C_NoText), false), ((.ref C_NoBook), (.ref C_NoText), false)]) (dCons (dVar 2) (dCons (dC (.ref C_NoText)) dNil))) dNil))) dNil))))))))))))) (gNm 4))
  (rd_law_told_5 C_NoBook C_HandError C_NoText C_NoDeed C_InUse C_NoName C_TooMany C_NoNumber C_NoMachine C_NoRow C_NoWord C_NoTurn f dl we))
def rd_law_told_3 (C_NoBook : Addr) (C_HandError : Addr) (C_NoText : Addr) (C_NoDeed : Addr) (C_InUse : Addr) (C_NoName : Addr) (C_TooMany : Addr) (C_NoNumber : Addr) (C_NoMachine : Addr) (C_NoRow : Addr) (C_NoWord : Addr) (C_NoTurn : Addr) (f : Addr) (dl : DLm) (we : DWX) : DTS :=
  (dSeq (dIfS (dTest (dOp (isND false) (dVar 2) (dC .non))) (dRet (dTup (dCons (dC (.str "told")) (dCons (dVar 1) dNil)))) dNext)
  (rd_law_told_4 C_NoBook C_HandError C_NoText C_NoDeed C_InUse C_NoName C_TooMany C_NoNumber C_NoMachine C_NoRow C_NoWord C_NoTurn f dl we))
def rd_law_told_2 (C_NoBook : Addr) (C_HandError : Addr) (C_NoText : Addr) (C_NoDeed : Addr) (C_InUse : Addr) (C_NoName : Addr) (C_TooMany : Addr) (C_NoNumber : Addr) (C_NoMachine : Addr) (C_NoRow : Addr) (C_NoWord : Addr) (C_NoTurn : Addr) (f : Addr) (dl : DLm) (we : DWX) : DTS :=
  (dSeq (dTryK (fun we => (dAsg (dAct f dl we) (gNm 1))) [((.ref C_NoBook), (.ref C_HandError), true)] (.ref C_HandError) 3 (dAsg (dVar 3) (gNm 2)) we)
  (rd_law_told_3 C_NoBook C_HandError C_NoText C_NoDeed C_InUse C_NoName C_TooMany C_NoNumber C_NoMachine C_NoRow C_NoWord C_NoTurn f dl we))
def rd_law_told_1 (C_NoBook : Addr) (C_HandError : Addr) (C_NoText : Addr) (C_NoDeed : Addr) (C_InUse : Addr) (C_NoName : Addr) (C_TooMany : Addr) (C_NoNumber : Addr) (C_NoMachine : Addr) (C_NoRow : Addr) (C_NoWord : Addr) (C_NoTurn : Addr) (f : Addr) (dl : DLm) (we : DWX) : DTS :=
  (dSeq (dAsg (dC .non) (gNm 2))
  (rd_law_told_2 C_NoBook C_HandError C_NoText C_NoDeed C_InUse C_NoName C_TooMany C_NoNumber C_NoMachine C_NoRow C_NoWord C_NoTurn f dl we))
def rd_law_told (C_NoBook : Addr) (C_HandError : Addr) (C_NoText : Addr) (C_NoDeed : Addr) (C_InUse : Addr) (C_NoName : Addr) (C_TooMany : Addr) (C_NoNumber : Addr) (C_NoMachine : Addr) (C_NoRow : Addr) (C_NoWord : Addr) (C_NoTurn : Addr) (f : Addr) (dl : DLm) (we : DWX) : DTS :=
  (dSeq (dAsg (dC .non) (gNm 1))
  (rd_law_told_1 C_NoBook C_HandError C_NoText C_NoDeed C_InUse C_NoName C_TooMany C_NoNumber C_NoMachine C_NoRow C_NoWord C_NoTurn f dl we))
def N_law : List Str := ["_law_script", "_law_k", "_law_state_here", "_law_named", "_law_size", "_law_rows", "_law_word", "_law_book"]
def rd_law_0f4 (C_Book : Addr) (C_NoBook : Addr) (P_law : Addr) (we : DWX) : DTS :=
  (dIfS (dNot (dTruth (dCall sp_law_is_book we (dCons (dVar 4) (dCons (dVar 5) dNil))))) (dIfS (dTest (dOp neD (dTup (dCons (dVar 6) (dCons (dVar 7) dNil))) (dTup (dCons (dC (.str "refused")) (dCons (dC (.str "NoBook")) dNil))))) (dRet (dC (.bl false))) dNext) (dIfS (dOr (dTest (dOp neD (dVar 6) (dC (.str "told")))) (dTest (dOp neD (dCB reprX (dCons (dTup (dCons (dMeth C_Book "letters" (sp_Book_letters C_Book) we (dVar 7) dNil) (dCons (dMeth C_Book "told" (sp_Book_told C_Book) we (dVar 7) dNil) dNil))) dNil)) (dCB reprX (dCons (dTup (dCons (dVar 4) (dCons (dNew (dCL listD (dVar 5))) dNil))) dNil))))) (dRet (dC (.bl false))) dNext))
def rd_law_0f3 (C_Book : Addr) (C_NoBook : Addr) (P_law : Addr) (we : DWX) : DTS :=
  (dSeq (dIfS (dTruth (dVar 3)) (dAsg (dLam (sp_law_told C_NoBook) P_law (lamQ "law") (fun we => (dMakeK C_Book (sp_Book___init__ C_Book C_NoBook) we 2 [1, 0] (dCons (dVar 5) (dCons (dVar 4) dNil))))) (gTp 2 (gCn (gNm 6) (gCn (gNm 7) gNl)))) (dAsg (dLam (sp_law_told C_NoBook) P_law (lamQ "law") (fun we => (dMake C_Book (sp_Book___init__ C_Book C_NoBook) we (dCons (dVar 4) (dCons (dVar 5) dNil))))) (gTp 2 (gCn (gNm 6) (gCn (gNm 7) gNl)))))
  (rd_law_0f4 C_Book C_NoBook P_law we))
def rd_law_0f2 (C_Book : Addr) (C_NoBook : Addr) (P_law : Addr) (we : DWX) : DTS :=
  (dSeq (dAsg (dCall sp_law_thing we (dCons (dVar 2) dNil)) (gTp 2 (gCn (gNm 4) (gCn (gNm 5) gNl))))
  (rd_law_0f3 C_Book C_NoBook P_law we))
def rd_law_0f1 (C_Book : Addr) (C_NoBook : Addr) (P_law : Addr) (we : DWX) : DTS :=
  (dSeq (dAsg (dOp eqD (dCall sp_law_next we (dCons (dVar 2) (dCons (dC (.int 2)) dNil))) (dC (.int 1))) (gNm 3))
  (rd_law_0f2 C_Book C_NoBook P_law we))
def rd_law_0f (C_Book : Addr) (C_NoBook : Addr) (P_law : Addr) (we : DWX) : DTS :=
  (dSeq (dAsg (dCall sp_law_state we (dCons (dVar 0) (dCons (dVar 1) dNil))) (gNm 2))
  (rd_law_0f1 C_Book C_NoBook P_law we))
def rd_law_1 (C_Book : Addr) (C_NoBook : Addr) (P_law : Addr) (we : DWX) : DTS :=
  (dRet (dC (.bl true)))
def rd_law (C_Book : Addr) (C_NoBook : Addr) (P_law : Addr) (we : DWX) : DTS :=
  (dSeq (dFor (iRange1 (dCB max2D (dCons (dC (.int 1)) (dCons (dCB lenD (dCons (dVar 0) dNil)) dNil)))) (gNm 1) (rd_law_0f C_Book C_NoBook P_law we))
  (rd_law_1 C_Book C_NoBook P_law we))

theorem rdok_is_whole {ds m q qe} (h : sp_is_whole ds m q qe) : rd_is_whole (fun cls _ m => qe cls m) (defEnds q) (startD N_is_whole ds) m := by
  obtain ⟨d, e0, h1, hq⟩ := sp1_at h
  clear h
  subst e0
  show rd_is_whole _ (defEnds q) [some d] m
  unfold kn at h1
  cases d with
  | ref a =>
    cases e : m a with
    | none => simp [tyS, e] at h1
    | some o =>
      cases o with
      | lst xs => unfold rd_is_whole; walk_at "rd"; simp only [e]; exact defEnds_here hq
      | dK kvs => unfold rd_is_whole; walk_at "rd"; simp only [e]; exact defEnds_here hq
      | dF kvs => unfold rd_is_whole; walk_at "rd"; simp only [e]; exact defEnds_here hq
      | _ => simp [tyS, e] at h1
  | ty n => simp [tyS] at h1
  | _ => unfold rd_is_whole; walk_at "rd"; exact defEnds_here hq
theorem rdok_is_between {ds m q qe} (h : sp_is_between ds m q qe) : rd_is_between (fun cls _ m => qe cls m) (defEnds q) (startD N_is_between ds) m := by
  obtain ⟨d, l, u, e0, h1, i, j, e1, e2, hq⟩ := sp3_at h
  clear h
  subst e0 e1 e2
  show rd_is_between _ (defEnds q) [some d, some (.int i), some (.int j)] m
  unfold rd_is_between
  walk_at "rd"
  refine ⟨h1, ?_⟩
  cases d with
  | int k =>
    simp only [isWhole, if_true]
    walk_at "rd"
    by_cases e : i ≤ k
    · simp only [e, decide_true, if_true]
      refine defEnds_here ?_
      simpa [betw, e] using hq
    · simp only [e, decide_false, Bool.false_eq_true, if_false]
      refine defEnds_here ?_
      simpa [betw, e] using hq
  | _ => exact defEnds_here hq
theorem isTurnD_tup {xs : List D} (h : ¬ (2 ≤ xs.length ∧ xs.length ≤ 4)) : isTurnD (.tup xs) = false := by
  cases e : intsOf xs with
  | none => simp only [isTurnD, e]
  | some ns =>
    have := intsOf_ok e
    rw [this, List.length_map] at h
    simp only [isTurnD, e, isTurnL]
    by_cases h1 : 2 ≤ ns.length
    · have h2 : ¬ ns.length ≤ 4 := fun z => h ⟨h1, z⟩
      simp [h2]
    · simp [h1]
theorem isTurnD_ftup {xs : List D} (h : ¬ (2 ≤ xs.length ∧ xs.length ≤ 4)) : isTurnD (.ftup xs) = false := by
  cases e : intsOf xs with
  | none => simp only [isTurnD, e]
  | some ns =>
    have := intsOf_ok e
    rw [this, List.length_map] at h
    simp only [isTurnD, e, isTurnL]
    by_cases h1 : 2 ≤ ns.length
    · have h2 : ¬ ns.length ≤ 4 := fun z => h ⟨h1, z⟩
      simp [h2]
    · simp [h1]
theorem rdok_is_turn {ds m q qe} (h : sp_is_turn ds m q qe) : rd_is_turn (fun cls _ m => qe cls m) (defEnds q) (startD N_is_turn ds) m := by
  obtain ⟨d, e0, h1, hq⟩ := sp1_at h
  clear h
  subst e0
  show rd_is_turn _ (defEnds q) [some d, none] m
  unfold rd_is_turn
  unfold knT at h1
  cases d with
  | ref a =>
    unfold kn at h1
    cases e : m a with
    | none => simp [tyS, e] at h1
    | some o =>
      cases o with
      | lst xs => walk_at "rd"; simp only [e, Bool.not_false, if_true]; exact defEnds_here hq
      | dK kvs => walk_at "rd"; simp only [e, Bool.not_false, if_true]; exact defEnds_here hq
      | dF kvs => walk_at "rd"; simp only [e, Bool.not_false, if_true]; exact defEnds_here hq
      | _ => simp [tyS, e] at h1
  | ty n => simp [kn, tyS] at h1
  | tup xs =>
    have h1 : ∀ e ∈ xs, kn m e := h1
    walk_at "rd"
    by_cases l1 : (2 : Int) ≤ xs.length
    · by_cases l2 : (xs.length : Int) ≤ 4
      · simp only [l1, l2, decide_true, if_true, Bool.not_true, Bool.false_eq_true, if_false]
        refine comp_map (fun d => .bl (betw d 0 (xs.length - 1))) trivial xs [] (fun d hd K hK => ?_) (by rw [List.length_nil]; exact sized (by omega)) ?_
        · walk_at "rd"
          exact ⟨h1 d hd, _, _, rfl, rfl, hK⟩
        · rw [List.nil_append, show (xs.map fun d => D.bl (betw d 0 (xs.length - 1))) = (xs.map fun d => betw d 0 (xs.length - 1)).map D.bl by rw [List.map_map]; rfl, boolsOf_map]
          simp only [List.all_map, Function.comp_def, id]
          by_cases ha : xs.all (fun d => betw d 0 (xs.length - 1)) = true
          · simp only [ha, Bool.not_true, Bool.false_eq_true, if_false]
            obtain ⟨ns, e, hn⟩ := intsOf_all ha
            have ex := intsOf_ok e
            subst ex
            rw [intsOf_map]
            rw [List.length_map] at *
            refine ⟨by omega, fun ns' hp hs => ⟨?_, ?_⟩⟩
            · exact RgOk.of_le (by omega) (by omega) (by omega) (by omega)
            · rw [Int.toNat_natCast, rngD0]
              refine eqLs_ints ?_
              refine defEnds_here ?_
              have hq : q (.bl (isTurnL ns)) m := by
                have := hq
                simp only [isTurnD, intsOf_map] at this
                exact this
              have e2 : isTurnL ns = decide (ns' = rngI ns.length) := by
                have l1' : 2 ≤ ns.length := by omega
                have l2' : ns.length ≤ 4 := by omega
                simp only [isTurnL, l1', l2', decide_true, Bool.true_and]
                by_cases hq : ns.Perm (rngI ns.length)
                · rw [decide_eq_true hq, decide_eq_true (sorted_one (hp.trans hq) hs (rngI_sorted _))]
                · rw [decide_eq_false hq, decide_eq_false (fun z => hq (by rw [z] at hp; exact hp.symm))]
              rw [e2] at hq
              simpa using hq
          · have ha' : xs.all (fun d => betw d 0 (xs.length - 1)) = false := by simpa using ha
            simp only [ha', Bool.not_false, if_true]
            refine defEnds_here ?_
            have e2 : isTurnD (.tup xs) = false := by
              cases e : intsOf xs with
              | none => simp only [isTurnD, e]
              | some ns =>
                have ex := intsOf_ok e
                subst ex
                simp only [isTurnD, e]
                cases ht : isTurnL ns with
                | false => rfl
                | true =>
                  have hb := turn_bounds ht
                  have := all_of_ints (i := 0) (j := ns.length - 1) (fun n hn => by have := hb n hn; omega)
                  rw [List.length_map] at ha'
                  rw [this] at ha'
                  cases ha'
            rw [e2] at hq
            exact hq
      · have e2 := isTurnD_tup (xs := xs) (by omega)
        rw [e2] at hq
        simp only [l1, l2, decide_true, decide_false, if_true, Bool.not_false]
        exact defEnds_here hq
    · have e2 := isTurnD_tup (xs := xs) (by omega)
      rw [e2] at hq
      simp only [l1, decide_false, Bool.false_eq_true, if_false, Bool.not_false, if_true]
      exact defEnds_here hq
  | ftup xs =>
    have h1 : ∀ e ∈ xs, kn m e := h1
    walk_at "rd"
    by_cases l1 : (2 : Int) ≤ xs.length
    · by_cases l2 : (xs.length : Int) ≤ 4
      · simp only [l1, l2, decide_true, if_true, Bool.not_true, Bool.false_eq_true, if_false]
        refine comp_map (fun d => .bl (betw d 0 (xs.length - 1))) trivial xs [] (fun d hd K hK => ?_) (by rw [List.length_nil]; exact sized (by omega)) ?_
        · walk_at "rd"
          exact ⟨h1 d hd, _, _, rfl, rfl, hK⟩
        · rw [List.nil_append, show (xs.map fun d => D.bl (betw d 0 (xs.length - 1))) = (xs.map fun d => betw d 0 (xs.length - 1)).map D.bl by rw [List.map_map]; rfl, boolsOf_map]
          simp only [List.all_map, Function.comp_def, id]
          by_cases ha : xs.all (fun d => betw d 0 (xs.length - 1)) = true
          · simp only [ha, Bool.not_true, Bool.false_eq_true, if_false]
            obtain ⟨ns, e, hn⟩ := intsOf_all ha
            have ex := intsOf_ok e
            subst ex
            rw [intsOf_map]
            rw [List.length_map] at *
            refine ⟨by omega, fun ns' hp hs => ⟨?_, ?_⟩⟩
            · exact RgOk.of_le (by omega) (by omega) (by omega) (by omega)
            · rw [Int.toNat_natCast, rngD0]
              refine eqLs_ints ?_
              refine defEnds_here ?_
              have hq : q (.bl (isTurnL ns)) m := by
                have := hq
                simp only [isTurnD, intsOf_map] at this
                exact this
              have e2 : isTurnL ns = decide (ns' = rngI ns.length) := by
                have l1' : 2 ≤ ns.length := by omega
                have l2' : ns.length ≤ 4 := by omega
                simp only [isTurnL, l1', l2', decide_true, Bool.true_and]
                by_cases hq : ns.Perm (rngI ns.length)
                · rw [decide_eq_true hq, decide_eq_true (sorted_one (hp.trans hq) hs (rngI_sorted _))]
                · rw [decide_eq_false hq, decide_eq_false (fun z => hq (by rw [z] at hp; exact hp.symm))]
              rw [e2] at hq
              simpa using hq
          · have ha' : xs.all (fun d => betw d 0 (xs.length - 1)) = false := by simpa using ha
            simp only [ha', Bool.not_false, if_true]
            refine defEnds_here ?_
            have e2 : isTurnD (.ftup xs) = false := by
              cases e : intsOf xs with
              | none => simp only [isTurnD, e]
              | some ns =>
                have ex := intsOf_ok e
                subst ex
                simp only [isTurnD, e]
                cases ht : isTurnL ns with
                | false => rfl
                | true =>
                  have hb := turn_bounds ht
                  have := all_of_ints (i := 0) (j := ns.length - 1) (fun n hn => by have := hb n hn; omega)
                  rw [List.length_map] at ha'
                  rw [this] at ha'
                  cases ha'
            rw [e2] at hq
            exact hq
      · have e2 := isTurnD_ftup (xs := xs) (by omega)
        rw [e2] at hq
        simp only [l1, l2, decide_true, decide_false, if_true, Bool.not_false]
        exact defEnds_here hq
    · have e2 := isTurnD_ftup (xs := xs) (by omega)
      rw [e2] at hq
      simp only [l1, decide_false, Bool.false_eq_true, if_false, Bool.not_false, if_true]
      exact defEnds_here hq
  | _ => walk_at "rd"; exact defEnds_here hq

theorem at10 (a : D) : atI [a] 0 = some a := atI_nat (j := 0) rfl
theorem at20 (a b : D) : atI [a, b] 0 = some a := atI_nat (j := 0) rfl
theorem at21 (a b : D) : atI [a, b] 1 = some b := atI_nat (j := 1) rfl
theorem ix10 : ixN 1 0 = some 0 := rfl
theorem itemsD (xs : List Int) (i : Nat) (h : i < xs.length) : atI (xs.map D.int) (i : Int) = some (.int (xs.getD i 0)) := by
  refine atI_nat ?_
  rw [List.getElem?_map, List.getElem?_eq_getElem h, List.getD_eq_getElem?_getD, List.getElem?_eq_getElem h]
  rfl
theorem itemsI (xs : List Int) (i : Int) (h0 : 0 ≤ i) (h : i < xs.length) : atI (xs.map D.int) i = some (.int (xs.getD i.toNat 0)) := by
  have := itemsD xs i.toNat (by omega)
  rwa [Int.toNat_of_nonneg h0] at this
theorem map_eraseIdx (l : List Int) (k : Nat) : (l.map D.int).eraseIdx k = (l.eraseIdx k).map D.int := by
  induction l generalizing k with
  | nil => rfl
  | cons x l ih => cases k with
    | zero => rfl
    | succ k => simp only [List.map_cons, List.eraseIdx_cons_succ, ih]
theorem isTurn_of_perm {many : Nat} (h2 : 2 ≤ many) (h4 : many ≤ 4) {ns : List Int} (h : ns.Perm (rngI many)) : isTurnL ns = true ∧ ns.length = many := by
  have hl : ns.length = many := by have := h.length_eq; rwa [rngI_length] at this
  refine ⟨?_, hl⟩
  unfold isTurnL
  rw [hl]
  simp [h2, h4, h]
theorem rdok_law_next {ds m q qe} (h : sp_law_next ds m q qe) : rd_law_next (fun cls _ m => qe cls m) (defEnds q) (startD N_law_next ds) m := by
  obtain ⟨d, k, e0, a, n, i, e1, ha, e2, i0, i1, hq⟩ := sp2_at h
  clear h
  subst e0 e1 e2
  show rd_law_next _ (defEnds q) [some (.ref a), some (.int i), none] m
  unfold rd_law_next
  walk_at "rd"
  simp only [ha, at10, List.length_cons, List.length_nil, Nat.zero_add, ix10]
  exact ⟨i0, ⟨i0, i1⟩, defEnds_here (hq _ _ (Int.emod_nonneg _ (by omega)) (Int.emod_lt_of_pos _ i0))⟩
theorem rdok_law_turn {ds m q qe} (h : sp_law_turn ds m q qe) : rd_law_turn (fun cls _ m => qe cls m) (defEnds q) (startD N_law_turn ds) m := by
  obtain ⟨d, k, e0, a, n, i, e1, ha, e2, i4, hq⟩ := sp2_at h
  clear h
  subst e0 e1 e2
  show rd_law_turn _ (defEnds q) [some (.ref a), some (.int i), none, none] m
  unfold rd_law_turn
  walk_at "rd"
  refine ⟨RgOk.of_le (by omega) (by omega) (by omega) (by omega), fun a1 h1 => ⟨by omega, by omega, ?_⟩⟩
  have na1 : a ≠ a1 := Mem.live_ne ha h1
  have g1 : ∀ x y, ((m.set a x).set a1 y) a = some x := fun x y => by rw [Mem.set_ne na1, Mem.set_same]
  have w1 : ∀ x y x', ((m.set a x).set a1 y).set a x' = (m.set a x').set a1 y := fun x y x' => by rw [Mem.set_comm na1.symm, Mem.set_set]
  refine comp_inv (fun items acc m' => ∃ (left done : List Int) (n' : Int), acc = done.map D.int ∧ left.length = items.length ∧ (left ++ done).Perm (rngI i) ∧ m' = (m.set a (.lst [.int n'])).set a1 (.lst (left.map D.int))) (fun _ _ _ _ => trivial) (fun acc m' hP => ?_) (fun d r acc m' hP N hN => ?_) _ _ _ ?_
  · obtain ⟨left, done, n', rfl, hl, hp, rfl⟩ := hP
    have e : left = [] := List.length_eq_zero_iff.mp hl
    subst e
    rw [List.nil_append] at hp
    exact defEnds_le (Mem.le_set (by rw [Mem.set_ne na1.symm]; exact h1)) (hq done n' hp)
  · obtain ⟨left, done, n', rfl, hl, hp, rfl⟩ := hP
    have hlen : left.length + done.length = i := by have := hp.length_eq; rwa [List.length_append, rngI_length] at this
    rw [List.length_cons] at hl
    walk_at "rd"
    simp only [Mem.set_same]
    refine ⟨⟨a1, _, rfl, Mem.set_same⟩, a, n', _, rfl, g1 _ _, rfl, by rw [List.length_map]; omega, by rw [List.length_map]; omega, fun r n'' r0 rl => ?_⟩
    rw [w1]
    simp only [Mem.set_same, List.length_map]
    have hpos : (0 : Int) < ((left.length : Nat) : Int) := by omega
    refine ⟨hpos, ?_⟩
    have k0 := Int.emod_nonneg (r + 1) (show ((left.length : Nat) : Int) ≠ 0 by omega)
    have k1 := Int.emod_lt_of_pos (r + 1) hpos
    generalize (r + 1) % ((left.length : Nat) : Int) = k at k0 k1
    have hk : k.toNat < left.length := by omega
    unfold popAtD
    refine ⟨_, k.toNat, .int left[k.toNat], Mem.set_same, by omega, by omega, seqIx k0 (by rw [List.length_map]; exact k1), ?_, ?_⟩
    · rw [List.getElem?_map, List.getElem?_eq_getElem hk]; rfl
    · rw [Mem.set_set, map_eraseIdx]
      refine ⟨by exact sized' (by omega), hN _ _ ⟨left.eraseIdx k.toNat, done ++ [left[k.toNat]], n'', by rw [List.map_append]; rfl, ?_, pop_perm hp (List.getElem?_eq_getElem hk), rfl⟩⟩
      rw [List.length_eraseIdx_of_lt hk]
      omega
  · exact ⟨rngI i, [], n, rfl, by rw [rngD_length, Int.toNat_natCast, rngI_length], by simp, by rw [Mem.set_id ha, Int.toNat_natCast, rngD0]⟩
theorem state_go {m : Mem} {q : DQ} {qe : Value → Mem → Prop} {ns : List Int} {i : Nat} (hq : ∀ (n : Int) (a : Addr), m a = none → q (.ref a) (m.set a (.lst [.int n]))) (c : Int) :
    rd_law_state_2 (fun cls _ m => qe cls m) (defEnds q) [some (.rol (ns.map D.int)), some (.int i), some (.int c), none, none, none, none, none] m := by
  unfold rd_law_state_2
  walk_at "rd"
  refine ⟨by exact sized (by decide), fun a1 h1 => ⟨by exact sized (by decide), fun a2 h2 => ?_⟩⟩
  have n12 : a1 ≠ a2 := fun e => by subst e; rw [Mem.set_same] at h2; cases h2
  have e1 : ∀ (M : Mem) (o u : MO), ((M.set a1 o).set a2 u) a1 = some o := fun M o u => by rw [Mem.set_ne n12, Mem.set_same]
  refine ⟨_, _, e1 _ _ _, Mem.set_same, by exact sized (by decide), fun p hp => ?_⟩
  simp only [Mem.set_same]
  generalize hK : ((m.set a1 _).set a2 _).set p _ = K
  have l1 : m.le K := by rw [← hK]; exact Mem.le_trans (Mem.le_trans (Mem.le_set h1) (Mem.le_set h2)) (Mem.le_set hp)
  have kp : K p = some (.lst ([.int 2147483629, .int 2147483587, .int 2147483579, .int 2147483563, .int 2147483549, .int 2147483543, .int 2147483497, .int 2147483489] ++ [.int 2147483477, .int 2147483423, .int 2147483399, .int 2147483353, .int 2147483323, .int 2147483269, .int 2147483249])) := by rw [← hK]; exact Mem.set_same
  refine for_inv (fun items ρ m' => ∃ (j : Nat) (ps : List Int) (number : Int) (x5 x6 x7 : Option D), items = enumFrom j (ps.map D.int) ∧ (∀ x ∈ ps, (0 : Int) < x ∧ x < 2147483648) ∧ j + ps.length ≤ 15 ∧ m' = K ∧
    ρ = [some (.rol (ns.map D.int)), some (.int i), some (.int c), some (.ref p), some (.int number), x5, x6, x7]) (fun _ _ m' hP => ?_) (fun ρ m' hP => ?_) (fun d r ρ m' hP N hN => ?_) _ _ _ ?_
  · obtain ⟨j, ps, number, x5, x6, x7, ei, hps, hj, rfl, rfl⟩ := hP
    exact kp
  · obtain ⟨j, ps, number, x5, x6, x7, ei, hps, hj, rfl, rfl⟩ := hP
    walk_at "rd"
    exact ⟨by exact sized (by decide), fun a ha => defEnds_le (Mem.set_le l1) (hq _ a (Mem.le_none l1 ha))⟩
  · obtain ⟨j, ps, number, x5, x6, x7, ei, hps, hj, rfl, rfl⟩ := hP
    cases ps with
    | nil => cases ei
    | cons p0 ps =>
      rw [List.map_cons, enumFrom] at ei
      cases ei
      have hp0 := hps p0 List.mem_cons_self
      rw [List.length_cons] at hj
      walk_at "rd"
      have m1 := Int.emod_nonneg (c + 104729 * (i : Int) + 1299709 * (j : Int) + 17) (show p0 ≠ 0 by omega)
      have m2 := Int.emod_lt_of_pos (c + 104729 * (i : Int) + 1299709 * (j : Int) + 17) hp0.1
      generalize (c + 104729 * (i : Int) + 1299709 * (j : Int) + 17) % p0 = z at m1 m2
      exact ⟨cmulL _ (by omega), cmulL _ (by omega), hp0.1, cmulR _ (by omega), cmulL _ (by omega), cmulL _ (by omega), cmulL _ (by omega), hp0.1, dn_here (hN _ _ ⟨j + 1, ps, _, _, _, _, rfl, fun x hx => hps x (List.mem_cons_of_mem _ hx), by omega, rfl, rfl⟩)⟩
  · refine ⟨0, [2147483629, 2147483587, 2147483579, 2147483563, 2147483549, 2147483543, 2147483497, 2147483489, 2147483477, 2147483423, 2147483399, 2147483353, 2147483323, 2147483269, 2147483249], 0, none, none, none, rfl, ?_, by decide, rfl, rfl⟩
    decide
theorem state_main {m : Mem} {q : DQ} {qe : Value → Mem → Prop} {ns : List Int} {i : Nat} (hq : ∀ (n : Int) (a : Addr), m a = none → q (.ref a) (m.set a (.lst [.int n]))) (c : Int) :
    rd_law_state_1 (fun cls _ m => qe cls m) (defEnds q) [some (.rol (ns.map D.int)), some (.int i), some (.int c), none, none, none, none, none] m := by
  unfold rd_law_state_1
  walk_at "rd"
  refine ⟨cpow18, ?_⟩
  have go := state_go (qe := qe) (ns := ns) (i := i) hq c
  by_cases h1 : (10 : Int) ^ (18 : Int).toNat ≤ c
  · rw [decide_eq_true h1]
    by_cases h2 : (i : Int) < (((ns.map D.int).length : Nat) : Int)
    · rw [decide_eq_true h2]
      simp only [if_true]
      exact ⟨cpow18, by exact sized (by decide), fun a ha => defEnds_here (hq _ a ha)⟩
    · rw [decide_eq_false h2]
      simp only [if_true, Bool.false_eq_true, if_false]
      exact go
  · rw [decide_eq_false h1]
    simp only [Bool.false_eq_true, if_false]
    exact go
theorem rdok_law_state {ds m q qe} (h : sp_law_state ds m q qe) : rd_law_state (fun cls _ m => qe cls m) (defEnds q) (startD N_law_state ds) m := by
  obtain ⟨d, k, e0, ns, i, e1, e2, hq⟩ := sp2_at h
  clear h
  subst e0 e1 e2
  show rd_law_state _ (defEnds q) [some (.rol (ns.map D.int)), some (.int i), none, none, none, none, none, none] m
  unfold rd_law_state
  walk_at "rd"
  refine ⟨nilOk_ints ns, ?_⟩
  cases ns with
  | nil => exact state_main (qe := qe) (ns := []) hq 0
  | cons n ns =>
    simp only [List.map_cons, List.isEmpty_cons, Bool.not_false, if_true]
    have hpos : (0 : Int) < (((D.int n :: ns.map D.int).length : Nat) : Int) := by rw [List.length_cons]; omega
    refine ⟨by simpa using hpos, ?_⟩
    have e := itemsI (n :: ns) ((i : Int) % ((D.int n :: ns.map D.int).length : Nat)) (Int.emod_nonneg _ (by omega)) (by have := Int.emod_lt_of_pos (i : Int) hpos; simpa using this)
    rw [List.map_cons] at e
    simp only [List.length_cons, List.length_map] at e ⊢
    rw [e]
    exact state_main (qe := qe) (ns := n :: ns) hq (if ((n :: ns).getD (↑i % ((ns.length + 1 : Nat) : Int)).toNat 0) < 0 then -((n :: ns).getD (↑i % ((ns.length + 1 : Nat) : Int)).toNat 0) else ((n :: ns).getD (↑i % ((ns.length + 1 : Nat) : Int)).toNat 0))

/-! ### reprs of equal things -/
theorem ne_str {s : Str} {m : Mem} {q : DQ} (h : q (.bl false) m) : neD (.str s) (.str s) m q := by
  show q (.bl (!decide (s = s))) m
  rw [decide_eq_true rfl]
  exact h
def okRepr (p : PyData) : Bool := p.showable && !p.hasDict && decide (p.depth ≤ 50) && p.leavesShort 8 && decide (p.weight ≤ 100000)
theorem reprOf_ok {d : D} {m : Mem} {q : DQ} {p : PyData} (e : pyD m d = some p) (ok : okRepr p = true) (h : q (.str p.shown) m) : reprOf d m q := by
  unfold reprOf
  simp only [okRepr, Bool.and_eq_true, decide_eq_true_eq, Bool.not_eq_true'] at ok
  rw [e]
  exact ⟨ok.1.1.1.1, ok.1.1.1.2, ok.1.1.2, PyData.shown_fits (by decide) (by decide) ok.1.2 (Nat.le_trans ok.2 (by decide)), h⟩
def pyT (r : List Int) : PyData := .tuple (r.map PyData.int)
theorem pyWs_tups (f : Addr → Option PyData) : ∀ R : List (List Int), pyWs f (R.map fun r => D.tup (r.map D.int)) = some (R.map pyT)
  | [] => rfl
  | r :: R => by
    simp only [List.map_cons, pyWs, pyW, pyWs_ints f r, pyWs_tups f R, Option.map_some]
    rfl
theorem pyD_refTups {m : Mem} {a : Addr} {R : List (List Int)} (h : m a = some (.lst (R.map fun r => D.tup (r.map D.int)))) : pyD m (.ref a) = some (.list (R.map pyT)) := by
  show pyA m 3 a = _
  unfold pyA
  rw [h]
  show (pyWs (pyA m 2) (R.map fun r => D.tup (r.map D.int))).map PyData.list = _
  rw [pyWs_tups]
  rfl

/-! ### all turns -/
theorem fin_of {n : Nat} {x : Int} (h0 : 0 ≤ x) (h1 : x < n) : ∃ i : Fin n, x = ((i.1 : Nat) : Int) := ⟨⟨x.toNat, by omega⟩, by simp; omega⟩
theorem turn_cases {p : List Int → Bool} (h2 : ∀ a b : Fin 2, isTurnL [((a.1 : Nat) : Int), ((b.1 : Nat) : Int)] = true → p [((a.1 : Nat) : Int), ((b.1 : Nat) : Int)] = true)
    (h3 : ∀ a b c : Fin 3, isTurnL [((a.1 : Nat) : Int), ((b.1 : Nat) : Int), ((c.1 : Nat) : Int)] = true → p [((a.1 : Nat) : Int), ((b.1 : Nat) : Int), ((c.1 : Nat) : Int)] = true)
    (h4 : ∀ a b c d : Fin 4, isTurnL [((a.1 : Nat) : Int), ((b.1 : Nat) : Int), ((c.1 : Nat) : Int), ((d.1 : Nat) : Int)] = true → p [((a.1 : Nat) : Int), ((b.1 : Nat) : Int), ((c.1 : Nat) : Int), ((d.1 : Nat) : Int)] = true)
    {ns : List Int} (ok : isTurnL ns = true) : p ns = true := by
  have hb := turn_bounds ok
  have hl : 2 ≤ ns.length ∧ ns.length ≤ 4 := by
    simp only [isTurnL, Bool.and_eq_true, decide_eq_true_eq] at ok
    exact ok.1
  match ns, hl, hb, ok with
  | [x, y], _, hb, ok =>
    obtain ⟨a, rfl⟩ := fin_of (n := 2) (hb x (by simp)).1 (hb x (by simp)).2
    obtain ⟨b, rfl⟩ := fin_of (n := 2) (hb y (by simp)).1 (hb y (by simp)).2
    exact h2 a b ok
  | [x, y, z], _, hb, ok =>
    obtain ⟨a, rfl⟩ := fin_of (n := 3) (hb x (by simp)).1 (hb x (by simp)).2
    obtain ⟨b, rfl⟩ := fin_of (n := 3) (hb y (by simp)).1 (hb y (by simp)).2
    obtain ⟨c, rfl⟩ := fin_of (n := 3) (hb z (by simp)).1 (hb z (by simp)).2
    exact h3 a b c ok
  | [x, y, z, u], _, hb, ok =>
    obtain ⟨a, rfl⟩ := fin_of (n := 4) (hb x (by simp)).1 (hb x (by simp)).2
    obtain ⟨b, rfl⟩ := fin_of (n := 4) (hb y (by simp)).1 (hb y (by simp)).2
    obtain ⟨c, rfl⟩ := fin_of (n := 4) (hb z (by simp)).1 (hb z (by simp)).2
    obtain ⟨d, rfl⟩ := fin_of (n := 4) (hb u (by simp)).1 (hb u (by simp)).2
    exact h4 a b c d ok
  | [], hl, _, _ => exact absurd hl.1 (by decide)
  | [_], hl, _, _ => exact absurd hl.1 (by simp)
  | _ :: _ :: _ :: _ :: _ :: _, hl, _, _ => exact absurd hl.2 (by simp only [List.length_cons]; omega)

theorem step_shown {i : Int} (h0 : -6 ≤ i) (h1 : i ≤ 6) : (PyData.shown (.int i)).length ≤ 8 ∧ i.natAbs.log2 < 1920 ∧ PyData.weight (.int i) ≤ 3 := by
  have : i = -6 ∨ i = -5 ∨ i = -4 ∨ i = -3 ∨ i = -2 ∨ i = -1 ∨ i = 0 ∨ i = 1 ∨ i = 2 ∨ i = 3 ∨ i = 4 ∨ i = 5 ∨ i = 6 := by omega
  rcases this with rfl | rfl | rfl | rfl | rfl | rfl | rfl | rfl | rfl | rfl | rfl | rfl | rfl <;> decide +kernel
theorem okInts : ∀ ns : List Int, (∀ x ∈ ns, -6 ≤ x ∧ x ≤ 6) → PyData.showableAll (ns.map PyData.int) = true ∧ PyData.hasDictAll (ns.map PyData.int) = false ∧ PyData.leavesShortAll 8 (ns.map PyData.int) = true ∧ PyData.weightAll (ns.map PyData.int) ≤ 5 * ns.length := by
  intro ns
  induction ns with
  | nil => intro _; simp [PyData.showableAll, PyData.hasDictAll, PyData.leavesShortAll, PyData.weightAll]
  | cons n ns ih =>
    intro h
    obtain ⟨i1, i2, i3, i4⟩ := ih fun x hx => h x (List.mem_cons_of_mem _ hx)
    have hn := h n List.mem_cons_self
    obtain ⟨s1, s2, s3⟩ := step_shown hn.1 hn.2
    simp only [List.map_cons, PyData.showableAll, PyData.hasDictAll, PyData.leavesShortAll, PyData.weightAll, PyData.showable, PyData.hasDict, PyData.leavesShort, i1, i2, i3, s1, s2, decide_true, Bool.and_self, Bool.or_self, List.length_cons]
    refine ⟨trivial, trivial, trivial, by omega⟩
def OkW (r : List Int) : Prop := r.length ≤ 100 ∧ ∀ x ∈ r, -6 ≤ x ∧ x ≤ 6
theorem okRepr_w {r : List Int} (h : OkW r) : okRepr (pyT r) = true := by
  obtain ⟨g1, g2, g3, g4⟩ := okInts r h.2
  have := h.1
  simp only [okRepr, pyT, PyData.showable, PyData.hasDict, PyData.leavesShort, PyData.weight, PyData.depth, depth_ints, g1, g2, g3]
  have : PyData.weightAll (r.map PyData.int) ≤ 100000 := by omega
  simp [this]
theorem okRepr_ws {R : List (List Int)} (h : ∀ r ∈ R, OkW r) (hl : R.length ≤ 101) : okRepr (.list (R.map pyT)) = true := by
  have g : ∀ R : List (List Int), (∀ r ∈ R, OkW r) → PyData.showableAll (R.map pyT) = true ∧ PyData.hasDictAll (R.map pyT) = false ∧ PyData.leavesShortAll 8 (R.map pyT) = true ∧ PyData.weightAll (R.map pyT) ≤ 501 * R.length ∧ PyData.depthAll (R.map pyT) ≤ 1 := by
    intro R
    induction R with
    | nil => intro _; simp [PyData.showableAll, PyData.hasDictAll, PyData.leavesShortAll, PyData.weightAll, PyData.depthAll]
    | cons r R ih =>
      intro h
      obtain ⟨i1, i2, i3, i4, i5⟩ := ih fun x hx => h x (List.mem_cons_of_mem _ hx)
      have hr := h r List.mem_cons_self
      obtain ⟨g1, g2, g3, g4⟩ := okInts r hr.2
      have := hr.1
      have e1 : PyData.showable (pyT r) = true := by simp only [pyT, PyData.showable, g1]
      have e2 : PyData.hasDict (pyT r) = false := by simp only [pyT, PyData.hasDict, g2]
      have e3 : PyData.leavesShort 8 (pyT r) = true := by simp only [pyT, PyData.leavesShort, g3]
      have e4 : PyData.weight (pyT r) ≤ 500 := by simp only [pyT, PyData.weight]; omega
      have e5 : PyData.depth (pyT r) ≤ 1 := by simp only [pyT, PyData.depth, depth_ints]; omega
      simp only [List.map_cons, PyData.showableAll, PyData.hasDictAll, PyData.leavesShortAll, PyData.weightAll, PyData.depthAll, i1, i2, i3, e1, e2, e3, Bool.and_self, Bool.or_self, List.length_cons]
      refine ⟨trivial, trivial, trivial, by omega, by omega⟩
  obtain ⟨g1, g2, g3, g4, g5⟩ := g R h
  simp only [okRepr, PyData.showable, PyData.hasDict, PyData.leavesShort, PyData.weight, PyData.depth, g1, g2, g3]
  have w1 : PyData.weightAll (R.map pyT) ≤ 100000 := by omega
  have w2 : PyData.depthAll (R.map pyT) + 1 ≤ 50 := by omega
  simp [w1]
  omega

/-! ### things that repr tells, put together -/
structure OkP (p : PyData) (w d : Nat) : Prop where
  sh : p.showable = true
  nd : p.hasDict = false
  ls : p.leavesShort 8 = true
  wt : p.weight ≤ w
  dp : p.depth ≤ d
structure OkPs (ps : List PyData) (w d : Nat) : Prop where
  sh : PyData.showableAll ps = true
  nd : PyData.hasDictAll ps = false
  ls : PyData.leavesShortAll 8 ps = true
  wt : PyData.weightAll ps ≤ w
  dp : PyData.depthAll ps ≤ d
theorem OkP.ok {p : PyData} {w d : Nat} (h : OkP p w d) (hw : w ≤ 100000) (hd : d ≤ 50) : okRepr p = true := by
  simp only [okRepr, h.sh, h.nd, h.ls, Bool.not_false, Bool.and_self, Bool.true_and, Bool.and_true]
  rw [decide_eq_true (Nat.le_trans h.dp hd), decide_eq_true (Nat.le_trans h.wt hw)]; rfl
theorem OkP.mono {p : PyData} {w d w' d' : Nat} (h : OkP p w d) (hw : w ≤ w') (hd : d ≤ d') : OkP p w' d' := ⟨h.sh, h.nd, h.ls, Nat.le_trans h.wt hw, Nat.le_trans h.dp hd⟩
theorem OkPs.nil {w d : Nat} : OkPs [] w d := ⟨rfl, rfl, rfl, Nat.zero_le _, Nat.zero_le _⟩
theorem OkPs.cons {p : PyData} {ps : List PyData} {w w' v d : Nat} (h : OkP p w d) (hs : OkPs ps w' d) (hv : w + 1 + w' ≤ v) : OkPs (p :: ps) v d := by
  refine ⟨?_, ?_, ?_, ?_, ?_⟩
  · rw [PyData.showableAll, h.sh, hs.sh]; rfl
  · rw [PyData.hasDictAll, h.nd, hs.nd]; rfl
  · rw [PyData.leavesShortAll, h.ls, hs.ls]; rfl
  · have := h.wt; have := hs.wt; rw [PyData.weightAll]; omega
  · have := h.dp; have := hs.dp; rw [PyData.depthAll]; omega
theorem OkPs.tup {ps : List PyData} {w d e : Nat} (h : OkPs ps w d) (he : d + 1 ≤ e) : OkP (.tuple ps) w e := ⟨by rw [PyData.showable]; exact h.sh, by rw [PyData.hasDict]; exact h.nd, by rw [PyData.leavesShort]; exact h.ls, by rw [PyData.weight]; exact h.wt, by have := h.dp; rw [PyData.depth]; omega⟩
theorem OkPs.lst {ps : List PyData} {w d e : Nat} (h : OkPs ps w d) (he : d + 1 ≤ e) : OkP (.list ps) w e := ⟨by rw [PyData.showable]; exact h.sh, by rw [PyData.hasDict]; exact h.nd, by rw [PyData.leavesShort]; exact h.ls, by rw [PyData.weight]; exact h.wt, by have := h.dp; rw [PyData.depth]; omega⟩
theorem okP_row {r : List Int} (h : OkW r) : OkP (pyT r) 500 1 := by
  obtain ⟨g1, g2, g3, g4⟩ := okInts r h.2
  have := h.1
  refine OkPs.tup (d := 0) ⟨g1, g2, g3, by omega, ?_⟩ (Nat.le_refl _)
  rw [depth_ints]; exact Nat.le_refl _
theorem okP_int {i : Int} (h0 : -6 ≤ i) (h1 : i ≤ 6) : OkP (.int i) 3 0 := by
  obtain ⟨s1, s2, s3⟩ := step_shown h0 h1
  exact ⟨by rw [PyData.showable, decide_eq_true s2], rfl, by rw [PyData.leavesShort, decide_eq_true s1], s3, Nat.le_refl _⟩
theorem okP_non : OkP .none 0 0 := ⟨rfl, rfl, rfl, Nat.le_refl _, Nat.le_refl _⟩
theorem okP_bool {b : Bool} : OkP (.bool b) 0 0 := ⟨rfl, rfl, rfl, Nat.le_refl _, Nat.le_refl _⟩
theorem pyW_tup2 {f : Addr → Option PyData} {a b : D} {p q : PyData} (ha : pyW f a = some p) (hb : pyW f b = some q) : pyW f (.tup [a, b]) = some (.tuple [p, q]) := by
  rw [pyW, pyWs, ha, pyWs, hb, pyWs]; rfl

/-! ### shapes of data that == looks at -/
structure ShP (p : PyData) (d : Nat) : Prop where
  lay : p.canLay0 = true
  dp : p.depth ≤ d
structure ShPs (ps : List PyData) (d : Nat) : Prop where
  lay : PyData.canLayAll0 ps = true
  dp : PyData.depthAll ps ≤ d
theorem ShP.ok {p : PyData} {d : Nat} (h : ShP p d) (hd : d ≤ 64) : SeqAt.shaped p = true := by
  unfold SeqAt.shaped
  rw [h.lay, decide_eq_true (Nat.le_trans h.dp hd)]; rfl
theorem ShP.mono {p : PyData} {d e : Nat} (h : ShP p d) (hd : d ≤ e) : ShP p e := ⟨h.lay, Nat.le_trans h.dp hd⟩
theorem ShPs.nil {d : Nat} : ShPs [] d := ⟨rfl, Nat.zero_le _⟩
theorem ShPs.cons {p : PyData} {ps : List PyData} {d : Nat} (h : ShP p d) (hs : ShPs ps d) : ShPs (p :: ps) d := by
  refine ⟨?_, ?_⟩
  · rw [PyData.canLayAll0, h.lay, hs.lay]; rfl
  · have := h.dp; have := hs.dp; rw [PyData.depthAll]; omega
theorem ShPs.all {ps : List PyData} {d : Nat} (h : ∀ p ∈ ps, ShP p d) : ShPs ps d := by
  induction ps with
  | nil => exact .nil
  | cons p ps ih => exact .cons (h p List.mem_cons_self) (ih fun x hx => h x (List.mem_cons_of_mem _ hx))
theorem ShPs.tup {ps : List PyData} {d e : Nat} (h : ShPs ps d) (he : d + 1 ≤ e) : ShP (.tuple ps) e := ⟨by rw [PyData.canLay0]; exact h.lay, by have := h.dp; rw [PyData.depth]; omega⟩
theorem ShPs.lst {ps : List PyData} {d e : Nat} (h : ShPs ps d) (he : d + 1 ≤ e) : ShP (.list ps) e := ⟨by rw [PyData.canLay0]; exact h.lay, by have := h.dp; rw [PyData.depth]; omega⟩
theorem ShP.int {i : Int} {d : Nat} : ShP (.int i) d := ⟨rfl, Nat.zero_le _⟩
theorem ShP.non {d : Nat} : ShP .none d := ⟨rfl, Nat.zero_le _⟩
theorem ShP.bool {b : Bool} {d : Nat} : ShP (.bool b) d := ⟨rfl, Nat.zero_le _⟩
theorem ShP.ints (ns : List Int) : ShP (.tuple (ns.map PyData.int)) 1 := (ShPs.all (d := 0) fun p hp => by
  obtain ⟨n, _, rfl⟩ := List.mem_map.mp hp
  exact .int).tup (Nat.le_refl _)
theorem eqvAll_dec {α : Type} [DecidableEq α] {f : α → PyData} (h : ∀ a b, PyData.eqv (f a) (f b) = decide (a = b)) : ∀ R S : List α, PyData.eqvAll (R.map f) (S.map f) = decide (R = S)
  | [], [] => by simp [PyData.eqvAll]
  | [], _ :: _ => by simp [PyData.eqvAll]
  | _ :: _, [] => by simp [PyData.eqvAll]
  | r :: R, s :: S => by
    rw [List.map_cons, List.map_cons]
    simp only [PyData.eqvAll, h, eqvAll_dec h R S]
    by_cases e : r = s
    · by_cases h2 : R = S <;> simp [e, h2]
    · simp [e]

/-! ### k05: hands, or what is nearly one -/
theorem OddD.kn {m : Mem} {d : D} (h : OddD m d) : kn m d := by
  rcases h with ⟨_, rfl⟩ | rfl | rfl | rfl | rfl | ⟨a, rfl, g⟩ | ⟨a, rfl, g⟩ | ⟨i, rfl, _⟩
  · rfl
  · rfl
  · rfl
  · rfl
  · rfl
  · unfold Lh.kn tyS; dsimp only; rw [g]; rfl
  · unfold Lh.kn tyS; dsimp only; rw [g]; rfl
  · rfl
theorem OddD.le {m M : Mem} {d : D} (h : OddD m d) (l : m.le M) : OddD M d := by
  rcases h with h | h | h | h | h | ⟨a, e, g⟩ | ⟨a, e, g⟩ | h
  · exact .inl h
  · exact .inr (.inl h)
  · exact .inr (.inr (.inl h))
  · exact .inr (.inr (.inr (.inl h)))
  · exact .inr (.inr (.inr (.inr (.inl h))))
  · exact .inr (.inr (.inr (.inr (.inr (.inl ⟨a, e, l _ _ g⟩)))))
  · exact .inr (.inr (.inr (.inr (.inr (.inr (.inl ⟨a, e, l _ _ g⟩))))))
  · exact .inr (.inr (.inr (.inr (.inr (.inr (.inr h))))))
theorem OddD.int {m : Mem} {i : Int} (h0 : -1000 ≤ i) (h1 : i ≤ 2000000000000) : OddD m (.int i) := .inr (.inr (.inr (.inr (.inr (.inr (.inr ⟨i, rfl, h0, h1⟩))))))
/-- what is no tuple -/
def NoTup (m : Mem) (d : D) : Prop := Lh.kn m d ∧ isA d m "tuple" = some false
theorem NoTup.shape {m : Mem} {d : D} (h : NoTup m d) : (∀ xs, d ≠ .tup xs) ∧ ∀ xs, d ≠ .ftup xs := by
  refine ⟨fun xs e => ?_, fun xs e => ?_⟩ <;> subst e <;> exact nomatch h.2
theorem NoTup.turn {m : Mem} {d : D} (h : NoTup m d) : isTurnD d = false := by
  obtain ⟨h1, h2⟩ := h.shape
  cases d with
  | tup xs => exact absurd rfl (h1 xs)
  | ftup xs => exact absurd rfl (h2 xs)
  | _ => rfl
theorem NoTup.knT {m : Mem} {d : D} (h : NoTup m d) : knT m d := by
  obtain ⟨h1, h2⟩ := h.shape
  cases d with
  | tup xs => exact absurd rfl (h1 xs)
  | ftup xs => exact absurd rfl (h2 xs)
  | _ => exact h.1
theorem isA_le {m M : Mem} {d : D} {T : String} {b : Bool} (h : isA d m T = some b) (l : m.le M) : isA d M T = some b := by
  cases d with
  | ref a =>
    unfold isA at h ⊢
    have e : tyS m (.ref a) = tyS M (.ref a) := by
      show (match m a with | some (.lst _) => some "list" | some (.dK _) => some "dict" | some (.dF _) => some "dict" | _ => none) = (match M a with | some (.lst _) => some "list" | some (.dK _) => some "dict" | some (.dF _) => some "dict" | _ => none)
      cases g : m a with
      | some o => rw [l _ _ g]
      | none =>
        exfalso
        have : tyS m (.ref a) = none := by
          show (match m a with | some (.lst _) => some "list" | some (.dK _) => some "dict" | some (.dF _) => some "dict" | _ => none) = none
          rw [g]
        rw [this] at h
        cases h
    rw [← e]; exact h
  | _ => exact h
theorem kn_le {m M : Mem} {d : D} (h : Lh.kn m d) (l : m.le M) : Lh.kn M d := by
  cases d with
  | ref a =>
    unfold Lh.kn at h ⊢
    have : ∀ M : Mem, tyS M (.ref a) = (match M a with | some (.lst _) => some "list" | some (.dK _) => some "dict" | some (.dF _) => some "dict" | _ => none) := fun _ => rfl
    rw [this] at h ⊢
    cases g : m a with
    | some o => rw [g] at h; rw [l _ _ g]; exact h
    | none => rw [g] at h; cases h
  | _ => exact h
theorem PartT.le {m M : Mem} {d : D} (h : PartT m d) (l : m.le M) : PartT M d := by
  rcases h with ⟨xs, e, hl, hx⟩ | ⟨h1, h2⟩
  · exact .inl ⟨xs, e, hl, fun x hx' => (hx x hx').le l⟩
  · exact .inr ⟨kn_le h1 l, isA_le h2 l⟩
theorem HandT.le {m M : Mem} {d : D} (h : HandT m d) (l : m.le M) : HandT M d := by
  rcases h with ⟨t, o, e, h1, h2⟩ | h | ⟨h1, h2⟩
  · exact .inl ⟨t, o, e, h1.le l, h2.le l⟩
  · exact .inr (.inl h)
  · exact .inr (.inr ⟨kn_le h1 l, isA_le h2 l⟩)
theorem RowsT.le {m M : Mem} {d : D} {ds : List D} (h : RowsT m d ds) (l : m.le M) : RowsT M d ds := by
  obtain ⟨h1, h2, h3⟩ := h
  refine ⟨?_, h2, fun x hx => (h3 x hx).le l⟩
  rcases h1 with e | ⟨a, e, g⟩
  · exact .inl e
  · exact .inr ⟨a, e, l _ _ g⟩
theorem NoRows.le {m M : Mem} {d : D} (h : NoRows m d) (l : m.le M) : NoRows M d := ⟨kn_le h.1 l, isA_le h.2.1 l, isA_le h.2.2 l⟩
theorem PartT.knT {m : Mem} {d : D} (h : PartT m d) : knT m d := by
  rcases h with ⟨xs, rfl, _, hx⟩ | h
  · exact fun e he => (hx e he).kn
  · exact NoTup.knT h
theorem PartT.kn {m : Mem} {d : D} (h : PartT m d) : kn m d := by
  rcases h with ⟨xs, rfl, _, hx⟩ | h
  · rfl
  · exact h.1
theorem handB_t {many hands : Nat} {t o : D} (h : ∀ xs, t ≠ .tup xs) : handB many hands (.tup [t, o]) = false := by
  cases t with
  | tup xs => exact absurd rfl (h xs)
  | _ => rfl
theorem handB_o {many hands : Nat} {xs : List D} {o : D} (h : ∀ xs, o ≠ .tup xs) : handB many hands (.tup [.tup xs, o]) = false := by
  cases o with
  | tup xs => exact absurd rfl (h xs)
  | _ => rfl
theorem handB_l {many hands : Nat} {ds : List D} (h : ds.length ≠ 2) : handB many hands (.tup ds) = false := by
  match ds, h with
  | [], _ => rfl
  | [_], _ => rfl
  | [_, _], h => exact absurd rfl h
  | _ :: _ :: _ :: _, _ => rfl
theorem handB_n {many hands : Nat} {m : Mem} {d : D} (h : NoTup m d) : handB many hands d = false := by
  have := h.shape.1
  cases d with
  | tup xs => exact absurd rfl (this xs)
  | _ => rfl
theorem rdok_is_hand {ds m q qe} (h : sp_is_hand ds m q qe) : rd_is_hand (fun cls _ m => qe cls m) (defEnds q) (startD N_is_hand ds) m := by
  obtain ⟨d, a, b, e0, many, hands, hT, e1, e2, hq⟩ := sp3_at h
  clear h
  subst e0 e1 e2
  show rd_is_hand _ (defEnds q) [some d, some (.int (many : Nat)), some (.int (hands : Nat)), none] m
  unfold rd_is_hand
  rcases hT with ⟨t, o, rfl, ht, ho⟩ | ⟨xs, rfl, hl⟩ | hn
  · walk_at "rf"
    rw [show (!((([t, o] : List D).length : Nat) : Int) == 2) = false from rfl, if_neg (by decide), ixD_t (at20 _ _)]
    refine ⟨ht.knT, ?_⟩
    walk_at "rf"
    cases e1 : isTurnD t with
    | false =>
      have : handB many hands (.tup [t, o]) = false := by
        rcases ht with ⟨xs, rfl, _⟩ | hn
        · show partsB many hands (.tup xs) o = false
          unfold partsB
          dsimp only
          cases o <;> first | rfl | (rw [e1]; rfl)
        · exact handB_t (NoTup.shape hn).1
      rw [this] at hq
      exact defEnds_here hq
    | true =>
      rcases ht with ⟨xs, rfl, hx6, hx⟩ | hn
      rotate_left
      · rw [NoTup.turn hn] at e1; cases e1
      walk_at "rf"
      rw [ixD_t (at20 _ _)]
      walk_at "rf"
      have pb : handB many hands (.tup [.tup xs, o]) = partsB many hands (.tup xs) o := rfl
      by_cases hl1 : xs.length = many
      rotate_left
      · rw [if_pos (by simp; omega)]
        have : handB many hands (.tup [.tup xs, o]) = false := by
          rw [pb]
          unfold partsB
          dsimp only
          cases o <;> first | rfl | (rw [e1, decide_eq_false hl1]; rfl)
        rw [this] at hq
        exact defEnds_here hq
      rw [if_neg (by simp; omega), ixD_t (at21 _ _)]
      rcases ho with ⟨os, rfl, ho6, hos⟩ | hn
      rotate_left
      · rw [handB_o (NoTup.shape hn).1] at hq
        rw [isi_some hn.2]
        walk_at "rf"
        exact defEnds_here hq
      walk_at "rf"
      rw [ixD_t (at21 _ _)]
      walk_at "rf"
      rw [pb] at hq
      unfold partsB at hq
      dsimp only at hq
      rw [e1, decide_eq_true hl1, Bool.true_and, Bool.true_and] at hq
      by_cases hl2 : os.length = many
      rotate_left
      · rw [if_pos (by simp; omega)]
        rw [decide_eq_false hl2, Bool.false_and] at hq
        exact defEnds_here hq
      rw [if_neg (by simp; omega), ixD_t (at21 _ _)]
      rw [decide_eq_true hl2, Bool.true_and] at hq
      show compR (fun _ => True) _ _ _ _ _ os [] m
      refine comp_map (fun d => .bl (betw d (-(hands : Int)) hands)) trivial _ [] (fun d' hd K hK => ?_) (by rw [List.length_nil]; exact sized (by omega)) ?_
      · walk_at "rf"
        exact ⟨(hos d' hd).kn, _, _, rfl, rfl, hK⟩
      rw [List.nil_append, show os.map (fun d => D.bl (betw d (-(hands : Int)) hands)) = (os.map fun d => betw d (-(hands : Int)) hands).map D.bl by rw [List.map_map]; rfl, boolsOf_map]
      dsimp only
      rw [List.all_map]
      exact defEnds_here hq
  · rw [handB_l hl] at hq
    walk_at "rf"
    rw [if_pos (by simp; omega)]
    exact defEnds_here hq
  · rw [handB_n hn] at hq
    walk_at "rf"
    rw [isi_some hn.2]
    walk_at "rf"
    exact defEnds_here hq
/-- what stands for the hands: its things are walked -/
theorem rows_len {m : Mem} {d : D} {ds : List D} (h : RowsT m d ds) {q : DQ} : lenD [d] m q = q (.int (ds.length : Nat)) m := by
  rcases h.1 with rfl | ⟨a, rfl, g⟩
  · rfl
  · exact lenD_r g
theorem rows_isi {m : Mem} {d : D} {ds : List D} (h : RowsT m d ds) {q : DQ} : isiD [d, .tup [.ty "list", .ty "tuple"]] m q = q (.bl true) m := by
  rcases h.1 with rfl | ⟨a, rfl, g⟩
  · rfl
  · unfold isiD
    dsimp only
    rw [show tyS m (.ref a) = some "list" by show (match m a with | some (.lst _) => some "list" | some (.dK _) => some "dict" | some (.dF _) => some "dict" | _ => none) = some "list"; rw [g]]
    rfl
theorem rows_it {m : Mem} {d : D} {ds : List D} (h : RowsT m d ds) {q : Itd → Prop} (hq : ∀ chk, chk m → q ⟨ds, chk⟩) : itOf m d q := by
  rcases h.1 with rfl | ⟨a, rfl, g⟩
  · exact hq (fun _ => True) trivial
  · rw [itOf_r g]; exact hq _ g
theorem no_isi {m : Mem} {d : D} (h : NoRows m d) {q : DQ} : isiD [d, .tup [.ty "list", .ty "tuple"]] m q = q (.bl false) m := by
  obtain ⟨h1, h2, h3⟩ := h
  unfold isA at h2 h3
  unfold isiD
  dsimp only
  cases e : tyS m d with
  | none => rw [e] at h2; cases h2
  | some a =>
    rw [e] at h2 h3
    dsimp only at h2 h3 ⊢
    have : isAnyB a [.ty "list", .ty "tuple"] = some false := by
      have hin := tyS_in e
      simp only [List.mem_cons, List.not_mem_nil, or_false] at hin
      rcases hin with rfl | rfl | rfl | rfl | rfl | rfl | rfl <;> first | rfl | exact absurd h2 (by decide) | exact absurd h3 (by decide)
    rw [this]
theorem rdok_are_hands {ds m q qe} (h : sp_are_hands ds m q qe) : rd_are_hands (fun cls _ m => qe cls m) (defEnds q) (startD N_are_hands ds) m := by
  obtain ⟨d, a, e0, many, e1, hh⟩ := sp2_at h
  clear h
  subst e0 e1
  show rd_are_hands _ (defEnds q) [some d, some (.int (many : Nat)), none] m
  unfold rd_are_hands
  rcases hh with ⟨ds, hR, hq⟩ | ⟨hN, hq⟩
  · walk_at "rf"
    refine ⟨by walk_at "sz", ?_⟩
    rw [rows_isi hR]
    walk_at "rf"
    rw [rows_len hR]
    walk_at "rf"
    unfold rowsB at hq
    by_cases h6 : ds.length ≤ 6
    rotate_left
    · rw [decide_eq_false h6, Bool.false_and] at hq
      rw [decide_eq_true (by omega)]
      walk_at "rf"
      exact defEnds_here hq
    rw [decide_eq_true h6, Bool.true_and] at hq
    rw [decide_eq_false (by omega)]
    walk_at "rf"
    refine rows_it hR fun chk hchk => ?_
    dsimp only
    refine comp_map (fun d => .bl (handB many ds.length d)) hchk _ [] (fun d' hd K hK => ?_) (by rw [List.length_nil]; exact sized (by omega)) ?_
    · walk_at "rf"
      rw [rows_len hR]
      exact ⟨many, ds.length, hR.2.2 d' hd, rfl, rfl, hK⟩
    rw [List.nil_append, show ds.map (fun d => D.bl (handB many ds.length d)) = (ds.map fun d => handB many ds.length d).map D.bl by rw [List.map_map]; rfl, boolsOf_map]
    dsimp only
    rw [List.all_map]
    exact defEnds_here hq
  · walk_at "rf"
    refine ⟨by walk_at "sz", ?_⟩
    rw [no_isi hN]
    walk_at "rf"
    exact defEnds_here hq

theorem ofString_inj {s t : String} (h : PySem.Str.ofString s = PySem.Str.ofString t) : s = t := by
  rw [PySem.Str.ofString_eq_toList, PySem.Str.ofString_eq_toList] at h
  have h1 : (s.toList.map Char.toNat).toArray = (t.toList.map Char.toNat).toArray := congrArg PySem.Str.cps h
  have h2 : s.toList.map Char.toNat = t.toList.map Char.toNat := by simpa using h1
  have h3 : s.toList = t.toList := by
    refine (List.map_inj_right fun a b hab => ?_).mp h2
    exact Char.ext (UInt32.toNat_inj.mp hab)
  exact String.toList_inj.mp h3
theorem num_inj {i j : Int} (h : (PySem.Str.ofString (toString i)) = PySem.Str.ofString (toString j)) : i = j := Int.repr_inj.mp (ofString_inj h)
def oddTxts : List Str := ["True", "False", "None", reprText "1", reprText "", (PyData.tuple [.int 1]).shown, (PyData.list [.int 0]).shown, "{}"]
theorem pyWs_strs (f : Addr → Option PyData) : ∀ ns : List Str, pyWs f (ns.map D.str) = some (ns.map PyData.str)
  | [] => rfl
  | n :: ns => by simp only [List.map_cons, pyWs, pyW, pyWs_strs f ns]
theorem pyD_refStrs {m : Mem} {a : Addr} {ns : List Str} (h : m a = some (.lst (ns.map D.str))) : pyD m (.ref a) = some (.list (ns.map PyData.str)) := by
  show pyA m 3 a = _
  unfold pyA
  rw [h]
  show (pyWs (pyA m 2) (ns.map D.str)).map PyData.list = _
  rw [pyWs_strs]
  rfl
theorem strOk_of (s : String) : PyData.strOk (PySem.Str.ofString s) = true := by
  rw [PySem.Str.ofString_eq_toList]
  unfold PyData.strOk
  simp only [List.all_toArray', List.all_map, List.all_eq_true, Function.comp, decide_eq_true_eq]
  intro c _
  rcases c.valid with h | h
  · exact Nat.lt_trans h (by decide)
  · exact h.2
theorem canLay_strs : ∀ ns : List Str, ns.all PyData.strOk = true → PyData.canLayAll0 (ns.map PyData.str) = true
  | [], _ => by simp [PyData.canLayAll0]
  | n :: ns, h => by
    rw [List.all_cons, Bool.and_eq_true] at h
    simp [PyData.canLayAll0, PyData.canLay0, canLay_strs ns h.2, h.1]
theorem depth_strs : ∀ ns : List Str, PyData.depthAll (ns.map PyData.str) = 0
  | [] => by simp [PyData.depthAll]
  | n :: ns => by simp [PyData.depthAll, PyData.depth, depth_strs ns]
theorem shaped_strs {ns : List Str} (h : ns.all PyData.strOk = true) : SeqAt.shaped (.list (ns.map PyData.str)) = true := by
  simp [SeqAt.shaped, PyData.canLay0, PyData.depth, canLay_strs ns h, depth_strs]
theorem shaped_str {n : Str} (h : PyData.strOk n = true) : SeqAt.shaped (.str n) = true := by
  simp [SeqAt.shaped, PyData.canLay0, PyData.depth, h]
/-- the text of a thing: a number's, or one of the odd ones -/
def TxtR (d : D) (t : Str) : Prop := PyData.strOk t = true ∧ ((∃ i : Int, d = .int i ∧ t = PySem.Str.ofString (toString i)) ∨ ((∀ i : Int, d ≠ .int i) ∧ t ∈ oddTxts))
theorem odd_rep {m : Mem} {d : D} (o : OddD m d) {q : DQ} (hq : ∀ t, TxtR d t → q (.str t) m) : reprX [d] m q := by
  rcases o with ⟨b, rfl⟩ | rfl | rfl | rfl | rfl | ⟨a, rfl, g⟩ | ⟨a, rfl, g⟩ | ⟨i, rfl, h0, h1⟩
  · rw [reprX_b]
    cases b
    · exact hq _ ⟨strOk_of _, .inr ⟨(fun _ h => by cases h), by simp [oddTxts]⟩⟩
    · exact hq _ ⟨strOk_of _, .inr ⟨(fun _ h => by cases h), by simp [oddTxts]⟩⟩
  · rw [reprX_n]
    exact hq _ ⟨strOk_of _, .inr ⟨(fun _ h => by cases h), by simp [oddTxts]⟩⟩
  · rw [reprX_s]
    exact ⟨by decide +kernel, hq _ ⟨by decide +kernel, .inr ⟨(fun _ h => by cases h), by simp [oddTxts]⟩⟩⟩
  · rw [reprX_s]
    exact ⟨by decide +kernel, hq _ ⟨by decide +kernel, .inr ⟨(fun _ h => by cases h), by simp [oddTxts]⟩⟩⟩
  · rw [reprX_t]
    exact reprOf_ok (p := .tuple [.int 1]) rfl (by decide +kernel) (hq _ ⟨by decide +kernel, .inr ⟨(fun _ h => by cases h), by simp [oddTxts]⟩⟩)
  · rw [reprX_l g]
    exact reprOf_ok (p := .list [.int 0]) (pyD_refInts (ns := [0]) g) (by decide +kernel) (hq _ ⟨by decide +kernel, .inr ⟨(fun _ h => by cases h), by simp [oddTxts]⟩⟩)
  · rw [reprX_d g]
    exact hq _ ⟨strOk_of _, .inr ⟨(fun _ h => by cases h), by simp [oddTxts]⟩⟩
  · rw [reprX_i]
    refine ⟨?_, hq _ ⟨strOk_of _, .inl ⟨i, rfl, rfl⟩⟩⟩
    refine Nat.lt_of_le_of_lt (m := 41) ?_ (by decide)
    have : i.natAbs < 2 ^ 42 := by omega
    rcases Nat.eq_zero_or_pos i.natAbs with z | z
    · rw [z]; decide
    · exact Nat.le_of_lt_succ ((Nat.log2_lt (by omega)).mpr this)
theorem rng_D (n : Nat) : rngD 0 n = (rngI n).map D.int := by
  unfold rngD rngI
  rw [List.map_map]
  exact List.map_congr_left fun k _ => congrArg D.int (Int.zero_add _)
def txt (k : Int) : Str := PySem.Str.ofString (toString k)
def numT (n : Nat) : List Str := (rngI n).map txt
open Classical in
noncomputable def inv (t : Str) : Int := if h : ∃ k, txt k = t then Classical.choose h else 0
theorem inv_txt (k : Int) : inv (txt k) = k := by
  unfold inv
  rw [dif_pos ⟨k, rfl⟩]
  exact num_inj (Classical.choose_spec (⟨k, rfl⟩ : ∃ k', txt k' = txt k))
theorem inv_map (ns : List Int) : (ns.map txt).map inv = ns := by
  rw [List.map_map]
  conv => rhs; rw [← List.map_id ns]
  exact List.map_congr_left fun k _ => inv_txt k
theorem isTurn_perm {ns : List Int} (h : isTurnL ns = true) : ns.Perm (rngI ns.length) := by
  simp only [isTurnL, Bool.and_eq_true, decide_eq_true_eq] at h
  exact h.2
def srtB (ns : List Int) : Bool := !sortedS (ns.map txt) || decide (ns = rngI ns.length)
theorem srt_all {ns : List Int} (h : isTurnL ns = true) : srtB ns = true := turn_cases (p := srtB) (by decide +kernel) (by decide +kernel) (by decide +kernel) h
theorem srt_id : sortedS (numT 2) = true ∧ sortedS (numT 3) = true ∧ sortedS (numT 4) = true := by decide +kernel
theorem odd_num : (oddTxts.all fun t => !(numT 4).contains t) = true := by decide +kernel
theorem turn_txt {ds : List D} {ss ys : List Str} (len : ss.length = ds.length) (hT : ∀ (i : Nat) (d : D) (t : Str), ds[i]? = some d → ss[i]? = some t → TxtR d t) (hp : ys.Perm ss) (hs : sortedS ys = true) (h2 : 2 ≤ ds.length) (h4 : ds.length ≤ 4) :
    decide (ys = numT ds.length) = isTurnD (.tup ds) := by
  have yl : ys.length = ds.length := hp.length_eq.trans len
  by_cases hi : ∃ ns : List Int, ds = ns.map D.int
  · obtain ⟨ns, rfl⟩ := hi
    rw [List.length_map] at *
    have e1 : ss = ns.map txt := by
      apply List.ext_getElem?
      intro i
      rw [List.getElem?_map]
      rcases Nat.lt_or_ge i ns.length with z | z
      · rw [List.getElem?_eq_getElem z]
        have z2 : i < ss.length := by omega
        rw [List.getElem?_eq_getElem z2]
        have := hT i (.int ns[i]) ss[i] (by rw [List.getElem?_map, List.getElem?_eq_getElem z]; rfl) (List.getElem?_eq_getElem z2)
        rcases this.2 with ⟨k, e, et⟩ | ⟨h, _⟩
        · cases e
          rw [et]; rfl
        · exact absurd rfl (h _)
      · rw [List.getElem?_eq_none z, List.getElem?_eq_none (by omega)]; rfl
    subst e1
    have e2 : isTurnD (.tup (ns.map D.int)) = isTurnL ns := by
      unfold isTurnD
      dsimp only
      rw [intsOf_map]
    rw [e2]
    cases hl : isTurnL ns with
    | true =>
      have hn := isTurn_perm hl
      have hq := hp.map inv
      rw [inv_map] at hq
      have ey : ys = (ys.map inv).map txt := by
        rw [List.map_map]
        conv => lhs; rw [← List.map_id ys]
        refine List.map_congr_left fun y hy => ?_
        obtain ⟨k, _, rfl⟩ := List.mem_map.mp (hp.mem_iff.mp hy)
        show txt k = txt (inv (txt k))
        rw [inv_txt]
      have lt : isTurnL (ys.map inv) = true := by
        simp only [isTurnL, Bool.and_eq_true, decide_eq_true_eq]
        refine ⟨⟨by rw [List.length_map]; omega, by rw [List.length_map]; omega⟩, ?_⟩
        rw [List.length_map, yl]
        exact hq.trans hn
      have hb := srt_all lt
      unfold srtB at hb
      rw [← ey, hs, Bool.not_true, Bool.false_or, decide_eq_true_eq, List.length_map, yl] at hb
      refine decide_eq_true ?_
      rw [ey, hb]
      rfl
    | false =>
      refine decide_eq_false fun e => ?_
      subst e
      have hq := hp.map inv
      unfold numT at hq
      rw [inv_map, inv_map] at hq
      have : isTurnL ns = true := by
        simp only [isTurnL, Bool.and_eq_true, decide_eq_true_eq]
        exact ⟨⟨h2, h4⟩, hq.symm⟩
      rw [hl] at this; cases this
  · have e2 : isTurnD (.tup ds) = false := by
      unfold isTurnD
      dsimp only
      cases e : intsOf ds with
      | none => rfl
      | some ns => exact absurd ⟨ns, intsOf_ok e⟩ hi
    rw [e2]
    refine decide_eq_false fun e => hi ?_
    have g : ∀ ds : List D, (∀ d ∈ ds, ∃ i : Int, d = .int i) → ∃ ns : List Int, ds = ns.map D.int := by
      intro ds
      induction ds with
      | nil => intro _; exact ⟨[], rfl⟩
      | cons d ds ih =>
        intro h
        obtain ⟨ns, e⟩ := ih fun x hx => h x (List.mem_cons_of_mem _ hx)
        obtain ⟨i, rfl⟩ := h d List.mem_cons_self
        exact ⟨i :: ns, by rw [e]; rfl⟩
    refine g ds fun d hd => ?_
    obtain ⟨i, hi', rfl⟩ := List.mem_iff_getElem.mp hd
    have z2 : i < ss.length := by omega
    have ht := hT i ds[i] ss[i] (List.getElem?_eq_getElem hi') (List.getElem?_eq_getElem z2)
    rcases ht.2 with ⟨k, e, _⟩ | ⟨_, ho⟩
    · exact ⟨k, e⟩
    · exfalso
      have hy : ss[i] ∈ ys := hp.mem_iff.mpr (List.getElem_mem z2)
      rw [e] at hy
      have h44 : ss[i] ∈ numT 4 := by
        unfold numT at hy ⊢
        obtain ⟨k, hk, ek⟩ := List.mem_map.mp hy
        have := mem_rngI.mp hk
        exact List.mem_map.mpr ⟨k, mem_rngI.mpr ⟨this.1, by omega⟩, ek⟩
      have := List.all_eq_true.mp odd_num _ ho
      simp at this
      exact this h44
theorem eqvAll_strs : ∀ (ns ms : List Str), PyData.eqvAll (ns.map PyData.str) (ms.map PyData.str) = decide (ns = ms)
  | [], [] => by simp [PyData.eqvAll]
  | [], _ :: _ => by simp [PyData.eqvAll]
  | _ :: _, [] => by simp [PyData.eqvAll]
  | n :: ns, m :: ms => by
    rw [List.map_cons, List.map_cons, PyData.eqvAll, eqvAll_strs ns ms]
    by_cases h : n = m
    · subst h
      simp [PyData.eqv]
    · simp [PyData.eqv, h]
theorem strsOf_map : ∀ ns : List Str, strsOf (ns.map D.str) = some ns
  | [] => rfl
  | n :: ns => by rw [List.map_cons, strsOf, strsOf_map ns]
theorem eqLs_strs {ns ms : List Str} {m : Mem} {q : Bool → Prop} (h1 : ns.all PyData.strOk = true) (h2 : ms.all PyData.strOk = true) (h : q (decide (ns = ms))) : eqLs (ns.map D.str) (ms.map D.str) m q := by
  unfold eqLs
  rw [show pyDs m (ns.map D.str) = some (ns.map PyData.str) from pyWs_strs _ _, show pyDs m (ms.map D.str) = some (ms.map PyData.str) from pyWs_strs _ _]
  exact ⟨shaped_strs h1, shaped_strs h2, by rw [eqvAll_strs]; exact h⟩
theorem inG_tN {k : Int} {ns : List Int} {m : Mem} {q : DQ} : inG true (.int k) (.tup (ns.map D.int)) m q = q (.bl (!ns.contains k)) m := by
  unfold inG
  dsimp only [getO, itemsOf]
  rw [intsOf_map]
  rfl

/-! ### k05: the law looks -/
theorem rdok_law_whole {ds m q qe} (h : sp_law_whole ds m q qe) : rd_law_whole (fun cls _ m => qe cls m) (defEnds q) (startD N_law_whole ds) m := by
  obtain ⟨d, l, u, e0, i, j, hk, e1, e2, hq⟩ := sp3_at h
  clear h
  subst e0 e1 e2
  show rd_law_whole _ (defEnds q) [some d, some (.int i), some (.int j)] m
  unfold kn at hk
  cases d with
  | int k =>
    unfold rd_law_whole
    walk_at "rf"
    have e : betw (.int k) i j = (decide (i ≤ k) && decide (k ≤ j)) := rfl
    rw [e] at hq
    by_cases z : i ≤ k
    · rw [decide_eq_true z] at hq ⊢
      walk_at "rf"
      exact defEnds_here hq
    · rw [decide_eq_false z] at hq ⊢
      walk_at "rf"
      exact defEnds_here hq
  | ref a =>
    cases e : m a with
    | none => simp [tyS, e] at hk
    | some o =>
      cases o with
      | lst xs => unfold rd_law_whole; walk_at "rd"; simp only [e]; exact defEnds_here hq
      | dK kvs => unfold rd_law_whole; walk_at "rd"; simp only [e]; exact defEnds_here hq
      | dF kvs => unfold rd_law_whole; walk_at "rd"; simp only [e]; exact defEnds_here hq
      | _ => simp [tyS, e] at hk
  | ty n => simp [tyS] at hk
  | _ => unfold rd_law_whole; walk_at "rd"; exact defEnds_here hq
theorem rdok_law_is_hand {ds m q qe} (h : sp_law_is_hand ds m q qe) : rd_law_is_hand (fun cls _ m => qe cls m) (defEnds q) (startD N_law_is_hand ds) m := by
  obtain ⟨d, a, b, e0, many, hands, hT, e1, two, four, e2, h6, hq⟩ := sp3_at h
  clear h
  subst e0 e1 e2
  show rd_law_is_hand _ (defEnds q) [some d, some (.int (many : Nat)), some (.int (hands : Nat)), none, none, none, none, none] m
  unfold rd_law_is_hand
  rcases hT with ⟨t, o, rfl, ht, ho⟩ | ⟨xs, rfl, hl⟩ | hn
  rotate_left
  · rw [handB_l hl] at hq
    walk_at "rf"
    rw [if_pos (by simp; omega)]
    exact defEnds_here hq
  · rw [handB_n hn] at hq
    walk_at "rf"
    rw [isi_some hn.2]
    walk_at "rf"
    exact defEnds_here hq
  walk_at "rf"
  rw [show (!((([t, o] : List D).length : Nat) : Int) == 2) = false from rfl, if_neg (by decide)]
  unfold rd_law_is_hand_1
  walk_at "rf"
  refine ⟨rfl, ?_⟩
  unfold rd_law_is_hand_2
  rcases ht with ⟨xs, rfl, hx6, hx⟩ | hn
  rotate_left
  · rw [handB_t (NoTup.shape hn).1] at hq
    walk_at "rf"
    rw [isi_some hn.2]
    walk_at "rf"
    exact defEnds_here hq
  rcases ho with ⟨os, rfl, ho6, hos⟩ | hn
  rotate_left
  · rw [handB_o (NoTup.shape hn).1] at hq
    walk_at "rf"
    rw [isi_some hn.2]
    walk_at "rf"
    exact defEnds_here hq
  walk_at "rf"
  have hq : q (.bl (isTurnD (.tup xs) && decide (xs.length = many) && (decide (os.length = many) && os.all fun d => betw d (-(hands : Int)) hands))) m := hq
  refine ⟨by walk_at "sz", by walk_at "sz", ?_⟩
  rw [show D.tup [.int ((xs.length : Nat) : Int), .int ((os.length : Nat) : Int)] = .tup (([((xs.length : Nat) : Int), ((os.length : Nat) : Int)] : List Int).map D.int) from rfl, show D.tup [.int ((many : Nat) : Int), .int ((many : Nat) : Int)] = .tup (([((many : Nat) : Int), ((many : Nat) : Int)] : List Int).map D.int) from rfl]
  refine neD_tt.mpr ?_
  by_cases hl : xs.length = many ∧ os.length = many
  rotate_left
  · rw [decide_eq_false (by simp; omega)]
    walk_at "rf"
    have : (isTurnD (.tup xs) && decide (xs.length = many) && (decide (os.length = many) && os.all fun d => betw d (-(hands : Int)) hands)) = false := by
      by_cases z : xs.length = many
      · rw [decide_eq_false (fun y => hl ⟨z, y⟩)]; simp
      · rw [decide_eq_false z]; simp
    rw [this] at hq
    exact defEnds_here hq
  obtain ⟨hl1, hl2⟩ := hl
  rw [decide_eq_true (by rw [hl1, hl2])]
  rw [decide_eq_true hl1, decide_eq_true hl2, Bool.and_true, Bool.true_and] at hq
  walk_at "rf"
  unfold rd_law_is_hand_3
  walk_at "rf"
  refine comp_inv (fun items acc m' => ∃ (pre post : List D) (ss : List Str), xs = pre ++ post ∧ items = post ∧ acc = ss.map D.str ∧ ss.length = pre.length ∧ (∀ (i : Nat) (d : D) (t : Str), pre[i]? = some d → ss[i]? = some t → TxtR d t) ∧ m' = m) (fun _ _ _ _ => trivial) (fun acc m' hP => ?_) (fun d r acc m' hP N hN => ?_) _ _ _ ⟨[], xs, [], rfl, rfl, rfl, rfl, (fun i d t h => by simp at h), rfl⟩
  · obtain ⟨pre, post, ss, ep, rfl, rfl, sl, hT, rfl⟩ := hP
    rw [List.append_nil] at ep
    subst ep
    unfold sortNS
    rw [strsOf_map]
    dsimp only
    refine ⟨by omega, fun ys hp hs => ?_⟩
    walk_at "rf"
    refine ⟨by omega, by omega, ?_⟩
    rw [rng_D]
    refine comp_map (fun d => match d with | .int k => .str (txt k) | d => d) trivial _ [] (fun d' hd K hK => ?_) (by rw [List.length_nil, List.length_map, rngI_length]; exact sized (by omega)) ?_
    · obtain ⟨k, hk, rfl⟩ := List.mem_map.mp hd
      have hk := mem_rngI.mp hk
      walk_at "rf"
      rw [strD_i]
      refine ⟨?_, hK⟩
      have : k.natAbs < 2 ^ 5 := by omega
      rcases Nat.eq_zero_or_pos k.natAbs with z | z
      · rw [z]; decide
      · have := (Nat.log2_lt (by omega)).mpr this
        omega
    · rw [List.nil_append, List.map_map, show ((fun d : D => match d with | .int k => D.str (txt k) | d => d) ∘ D.int) = D.str ∘ txt from rfl, ← List.map_map]
      refine eqLs_strs ?_ ?_ ?_
      · rw [List.all_eq_true]
        intro t ht
        obtain ⟨i, hi, rfl⟩ := List.mem_iff_getElem.mp (hp.mem_iff.mp ht)
        exact (hT i xs[i] ss[i] (List.getElem?_eq_getElem (by omega)) (List.getElem?_eq_getElem hi)).1
      · rw [List.all_eq_true]
        intro t ht
        obtain ⟨k, _, rfl⟩ := List.mem_map.mp ht
        exact strOk_of _
      · have tt := turn_txt sl hT hp hs (by omega) (by omega)
        rw [hl1] at tt
        rw [show decide (ys = (rngI many).map txt) = isTurnD (.tup xs) by rw [← tt]; rfl]
        cases e1 : isTurnD (.tup xs) with
        | false =>
          rw [e1] at hq
          walk_at "rf"
          exact defEnds_here hq
        | true =>
          rw [e1, Bool.true_and] at hq
          walk_at "rf"
          unfold rd_law_is_hand_4
          walk_at "rf"
          refine comp_map (fun d => .bl (betw d (-(hands : Int)) hands)) trivial _ [] (fun d' hd K hK => ?_) (by rw [List.length_nil]; exact sized (by omega)) ?_
          · walk_at "rf"
            exact ⟨_, _, (hos d' hd).kn, rfl, rfl, hK⟩
          rw [List.nil_append, show os.map (fun d => D.bl (betw d (-(hands : Int)) hands)) = (os.map fun d => betw d (-(hands : Int)) hands).map D.bl by rw [List.map_map]; rfl, boolsOf_map]
          dsimp only
          rw [List.all_map]
          exact defEnds_here hq
  · obtain ⟨pre, post, ss, e, rfl, rfl, sl, hT, rfl⟩ := hP
    have od : OddD m' d := hx d (by rw [e]; simp)
    have pl : pre.length < xs.length := by rw [e, List.length_append, List.length_cons]; omega
    walk_at "rf"
    refine odd_rep od fun t hr => ?_
    refine ⟨sized' (by first | omega | (rw [List.length_map]; omega)), hN _ _ ⟨pre ++ [d], _, ss ++ [t], by rw [List.append_assoc]; exact e, rfl, by rw [List.map_append]; rfl, by rw [List.length_append, List.length_append, sl]; rfl, fun i d' t' h1 h2 => ?_, rfl⟩⟩
    rcases Nat.lt_or_ge i pre.length with z | z
    · rw [List.getElem?_append_left z] at h1
      rw [List.getElem?_append_left (by omega)] at h2
      exact hT i d' t' h1 h2
    · rw [List.getElem?_append_right z] at h1
      rw [List.getElem?_append_right (by omega), sl] at h2
      rcases Nat.eq_zero_or_pos (i - pre.length) with y | y
      · rw [y] at h1 h2
        cases h1; cases h2
        exact hr
      · rw [List.getElem?_eq_none (by rw [List.length_singleton]; exact y)] at h1; cases h1
theorem rdok_law_is_book {ds m q qe} (h : sp_law_is_book ds m q qe) : rd_law_is_book (fun cls _ m => qe cls m) (defEnds q) (startD N_law_is_book ds) m := by
  obtain ⟨d, e, e0, hS, b, hB, hq⟩ := sp2_at h
  clear h
  subst e0
  show rd_law_is_book _ (defEnds q) [some d, some e, none] m
  unfold rd_law_is_book
  walk_at "rf"
  refine ⟨2, 4, hS.kn, rfl, rfl, ?_⟩
  cases es : betw d 2 4 with
  | false =>
    walk_at "rf"
    have : b = false := by
      rcases hB with ⟨ds, _, e⟩ | ⟨_, e⟩
      · rw [e]; unfold sizeB; rw [es]; rfl
      · exact e
    subst this
    exact defEnds_here hq
  | true =>
    obtain ⟨k, rfl⟩ : ∃ k : Int, d = .int k := by
      cases d with
      | int k => exact ⟨k, rfl⟩
      | _ => cases es
    simp only [betw, Bool.and_eq_true, decide_eq_true_eq] at es
    obtain ⟨many, rfl⟩ : ∃ n : Nat, k = (n : Nat) := ⟨k.toNat, by omega⟩
    walk_at "rf"
    refine ⟨by walk_at "sz", ?_⟩
    rcases hB with ⟨ds, hR, e⟩ | ⟨hN, e⟩
    · rw [rows_isi hR]
      walk_at "rf"
      rw [rows_len hR]
      walk_at "rf"
      rw [show sizeB (.int (many : Nat)) = true by unfold sizeB; simp [betw]; omega, Bool.true_and, show sizeN (.int (many : Nat)) = many from Int.toNat_natCast _] at e
      unfold rowsB at e
      by_cases h6 : ds.length ≤ 6
      rotate_left
      · rw [decide_eq_false h6, Bool.false_and] at e
        subst e
        rw [decide_eq_true (by omega)]
        walk_at "rf"
        exact defEnds_here hq
      rw [decide_eq_true h6, Bool.true_and] at e
      subst e
      rw [decide_eq_false (by omega)]
      walk_at "rf"
      refine rows_it hR fun chk hchk => ?_
      dsimp only
      refine comp_map (fun d => .bl (handB many ds.length d)) hchk _ [] (fun d' hd K hK => ?_) (by rw [List.length_nil]; exact sized (by omega)) ?_
      · walk_at "rf"
        rw [rows_len hR]
        exact ⟨many, ds.length, hR.2.2 d' hd, rfl, by omega, by omega, rfl, h6, hK⟩
      rw [List.nil_append, show ds.map (fun d => D.bl (handB many ds.length d)) = (ds.map fun d => handB many ds.length d).map D.bl by rw [List.map_map]; rfl, boolsOf_map]
      dsimp only
      rw [List.all_map]
      exact defEnds_here hq
    · subst e
      rw [no_isi hN]
      walk_at "rf"
      exact defEnds_here hq
theorem rows_pairs {many : Nat} {ds : List D} (h2 : 2 ≤ many) (h4 : many ≤ 4) (h : rowsB many ds = true) : ∃ P : Prs, ds = P.map pairD ∧ IsBook many P := by
  unfold rowsB at h
  rw [Bool.and_eq_true, decide_eq_true_eq, List.all_eq_true] at h
  obtain ⟨h6, hall⟩ := h
  have one : ∀ d, handB many ds.length d = true → ∃ p, d = pairD p ∧ IsPair many ds.length p := fun d hd => by
    cases d with
    | tup xs =>
      match xs, hd with
      | [t, o], hd =>
        cases t with
        | tup xs =>
          cases o with
          | tup os =>
            have hd : (isTurnD (.tup xs) && decide (xs.length = many) && (decide (os.length = many) && os.all fun d => betw d (-(ds.length : Int)) ds.length)) = true := hd
            simp only [Bool.and_eq_true, decide_eq_true_eq] at hd
            obtain ⟨⟨a1, a2⟩, a3, a4⟩ := hd
            obtain ⟨ns, en, hn⟩ := intsOf_all a4
            have e2 := intsOf_ok en
            unfold isTurnD at a1
            dsimp only at a1
            cases et : intsOf xs with
            | none => rw [et] at a1; cases a1
            | some ts =>
              rw [et] at a1
              have e1 := intsOf_ok et
              subst e1 e2
              exact ⟨(ts, ns), rfl, ⟨a1, by simpa using a2, by simpa using a3, fun s hs => by have := hn s hs; omega⟩⟩
          | _ => cases hd
        | _ => cases hd
    | _ => cases hd
  have key : ∀ l : List D, (∀ d ∈ l, ∃ p, d = pairD p ∧ IsPair many ds.length p) → ∃ P : Prs, l = P.map pairD ∧ ∀ p ∈ P, IsPair many ds.length p := fun l => by
    induction l with
    | nil => exact fun _ => ⟨[], rfl, fun _ h => nomatch h⟩
    | cons d l ih =>
      intro hl
      obtain ⟨p, e1, h1⟩ := hl d List.mem_cons_self
      obtain ⟨P, e2, h2⟩ := ih fun x hx => hl x (List.mem_cons_of_mem _ hx)
      exact ⟨p :: P, by rw [e1, e2]; rfl, fun x hx => by
        cases hx with
        | head => exact h1
        | tail _ hx => exact h2 x hx⟩
  obtain ⟨P, e, hP⟩ := key ds fun d hd => one d (hall d hd)
  have el : P.length = ds.length := by rw [e, List.length_map]
  exact ⟨P, e, ⟨h2, h4, by omega, fun p hp => by rw [el]; exact hP p hp⟩⟩
theorem rdok_Book___init__ (C X : Addr) {ds m q qe} (h : sp_Book___init__ C X ds m q qe) : rd_Book___init__ C X (fun cls _ m => qe cls m) (defEnds q) (startD N_Book___init__ ds) m := by
  obtain ⟨d, e, f, e0, a, b, e1, ha, hS, hB, hq, hqe⟩ := sp3_at h
  clear h
  subst e0 e1
  show rd_Book___init__ C X _ (defEnds q) [some (.ref a), some e, some f] m
  unfold rd_Book___init__ dSetF dRaise
  walk_at "rf"
  refine ⟨hS.kn, 2, 4, rfl, rfl, ?_⟩
  cases es : betw e 2 4 with
  | false =>
    walk_at "rf"
    have : b = false := by
      rcases hB with ⟨ds, _, e⟩ | ⟨_, e⟩
      · rw [e]; unfold sizeB; rw [es]; rfl
      · exact e
    exact hqe this
  | true =>
    obtain ⟨k, rfl⟩ : ∃ k : Int, e = .int k := by
      cases e with
      | int k => exact ⟨k, rfl⟩
      | _ => cases es
    simp only [betw, Bool.and_eq_true, decide_eq_true_eq] at es
    obtain ⟨many, rfl⟩ : ∃ n : Nat, k = (n : Nat) := ⟨k.toNat, by omega⟩
    walk_at "rf"
    refine ⟨many, rfl, ?_⟩
    rcases hB with ⟨ds, hR, e⟩ | ⟨hN, e⟩
    rotate_left
    · refine .inr ⟨hN, ?_⟩
      walk_at "rf"
      exact hqe e
    refine .inl ⟨ds, hR, ?_⟩
    rw [show sizeB (.int (many : Nat)) = true by unfold sizeB; simp [betw]; omega, Bool.true_and, show sizeN (.int (many : Nat)) = many from Int.toNat_natCast _] at e
    subst e
    cases eb : rowsB many ds with
    | false =>
      walk_at "rf"
      exact hqe eb
    | true =>
      obtain ⟨P, eP, ok⟩ := rows_pairs (by omega) (by omega) eb
      subst eP
      walk_at "rf"
      refine ⟨a, [], rfl, ha, by decide, ?_⟩
      have hl : ∀ {k : List D → Mem → Prop}, listD f (m.set a (.ins C (putFD "many" (.int (many : Nat)) []))) k = k (P.map pairD) (m.set a (.ins C (putFD "many" (.int (many : Nat)) []))) := fun {k} => by
        rcases hR.1 with rfl | ⟨g, rfl, hg⟩
        · rfl
        · exact listD_r (by rw [Mem.set_ne (fun z => by subst z; rw [ha] at hg; cases hg)]; exact hg)
      rw [hl]
      refine fun r hr => ?_
      obtain ⟨hr, nr⟩ := Mem.set_none hr
      refine ⟨a, _, rfl, by rw [Mem.set_ne nr.symm, Mem.set_same], by show (1 : Nat) < 1000; decide, ?_⟩
      refine ⟨_, ?_, hq many P rfl hR ok eb r hr⟩
      rw [Mem.set_comm nr.symm, Mem.set_set]
      have e4 : putFD "pairs" (.ref r) (putFD "many" (.int (many : Nat)) []) = bookF many r := by
        show putFD "pairs" (.ref r) [("many", .int (many : Nat))] = _
        unfold putFD
        rw [if_neg (by decide +kernel)]
        rfl
      rw [e4]
      exact Mem.le_refl _

/-! ### what a draw leaves: the drawn cell moves on, all else that was known stays -/
structure Kp (m M : Mem) (a : Addr) : Prop where
  cell : ∃ n, M a = some (.lst [.int n])
  keep : ∀ b o, b ≠ a → m b = some o → M b = some o
theorem Kp.start {m : Mem} {a : Addr} {n : Int} (h : m a = some (.lst [.int n])) : Kp m m a := ⟨⟨n, h⟩, fun _ _ _ h => h⟩
theorem Kp.step {m M : Mem} {a : Addr} (k : Kp m M a) (n : Int) : Kp m (M.set a (.lst [.int n])) a := ⟨⟨n, Mem.set_same⟩, fun b o h e => by rw [Mem.set_ne h]; exact k.keep b o h e⟩
theorem Kp.ne {m M : Mem} {a c : Addr} (k : Kp m M a) (hc : M c = none) : c ≠ a := fun z => by
  subst z; obtain ⟨n, h⟩ := k.cell; rw [h] at hc; cases hc
theorem Kp.none {m M : Mem} {a c : Addr} (k : Kp m M a) (hc : M c = none) : m c = none := by
  cases e : m c with
  | none => rfl
  | some o => rw [k.keep c o (k.ne hc) e] at hc; cases hc
theorem Kp.new {m M : Mem} {a c : Addr} {o : MO} (k : Kp m M a) (hc : M c = .none) : Kp m (M.set c o) a := by
  have nc := k.ne hc
  obtain ⟨n, h⟩ := k.cell
  exact ⟨⟨n, by rw [Mem.set_ne nc.symm]; exact h⟩, fun b u hb e => by
    have h1 := k.keep b u hb e
    rw [Mem.set_ne (fun z => by subst z; rw [h1] at hc; cases hc)]; exact h1⟩
theorem Kp.put {m M : Mem} {a c : Addr} {o : MO} (k : Kp m M a) (hm : m c = .none) (nc : c ≠ a) : Kp m (M.set c o) a := by
  obtain ⟨n, h⟩ := k.cell
  exact ⟨⟨n, by rw [Mem.set_ne nc.symm]; exact h⟩, fun b u hb e => by
    rw [Mem.set_ne (fun z => by subst z; rw [e] at hm; cases hm)]; exact k.keep b u hb e⟩
theorem Kp.trans {m M N : Mem} {a : Addr} (k : Kp m M a) (l : Kp M N a) : Kp m N a := ⟨l.cell, fun b o h e => l.keep b o h (k.keep b o h e)⟩
theorem Kp.le {m M N : Mem} {a : Addr} (k : Kp m M a) (l : M.le N) : Kp m N a := by
  obtain ⟨n, h⟩ := k.cell
  exact ⟨⟨n, l _ _ h⟩, fun b o hb e => l _ _ (k.keep b o hb e)⟩
theorem Kp.out {m M : Mem} {a : Addr} (k : Kp m M a) : ∃ n, (m.set a (.lst [.int n])).le M := by
  obtain ⟨n, h⟩ := k.cell
  refine ⟨n, fun b o e => ?_⟩
  by_cases z : b = a
  · subst z; rw [Mem.set_same] at e; cases e; exact h
  · rw [Mem.set_ne z] at e; exact k.keep b o z e
theorem Kp.out2 {m M : Mem} {a p : Addr} {o : MO} (k : Kp m M a) (hp : M p = some o) : ∃ n, ((m.set a (.lst [.int n])).set p o).le M := by
  obtain ⟨n, h⟩ := k.out
  refine ⟨n, fun b u e => ?_⟩
  by_cases z : b = p
  · subst z; rw [Mem.set_same] at e; cases e; exact hp
  · rw [Mem.set_ne z] at e; exact h b u e
theorem nx_kp {m M : Mem} {a : Addr} {i : Int} {k : DQ} {qe : Value → Mem → Prop} (K : Kp m M a) (h0 : 0 < i) (h1 : i < 1073741824)
    (h : ∀ (r : Int) (N : Mem), 0 ≤ r → r < i → Kp m N a → (∀ b, b ≠ a → N b = M b) → k (.int r) N) : sp_law_next [.ref a, .int i] M k qe := by
  obtain ⟨n, e⟩ := K.cell
  exact ⟨a, n, i, rfl, e, rfl, h0, h1, fun r n' r0 r1 => h r _ r0 r1 (K.step n') fun b hb => Mem.set_ne hb⟩
theorem rngD_succ (j n : Nat) : rngD ((j : Nat) : Int) (n + 1) = .int ((j : Nat) : Int) :: rngD ((j + 1 : Nat) : Int) n := by
  unfold rngD
  rw [List.range_succ_eq_map, List.map_cons, List.map_map]
  simp only [Int.natCast_zero, Int.add_zero, List.cons.injEq, true_and]
  refine List.map_congr_left fun k _ => ?_
  show D.int _ = D.int _
  congr 1
  show ((j : Nat) : Int) + ((k + 1 : Nat) : Int) = ((j + 1 : Nat) : Int) + (k : Nat)
  omega

theorem many_at {r : Int} (h0 : 0 ≤ r) (h1 : r < 4) : ∃ k : Nat, atI [D.int 2, .int 2, .int 3, .int 4] r = some (.int (k : Nat)) ∧ 2 ≤ k ∧ k ≤ 4 := by
  have : r = 0 ∨ r = 1 ∨ r = 2 ∨ r = 3 := by omega
  rcases this with rfl | rfl | rfl | rfl
  · exact ⟨2, atI_nat (j := 0) rfl, by omega, by omega⟩
  · exact ⟨2, atI_nat (j := 1) rfl, by omega, by omega⟩
  · exact ⟨3, atI_nat (j := 2) rfl, by omega, by omega⟩
  · exact ⟨4, atI_nat (j := 3) rfl, by omega, by omega⟩
theorem hands_at {r : Int} (h0 : 0 ≤ r) (h1 : r < 8) : ∃ k : Nat, atI [D.int 1, .int 2, .int 3, .int 0, .int 4, .int 5, .int 6, .int 2] r = some (.int (k : Nat)) ∧ k ≤ 6 := by
  have : r = 0 ∨ r = 1 ∨ r = 2 ∨ r = 3 ∨ r = 4 ∨ r = 5 ∨ r = 6 ∨ r = 7 := by omega
  rcases this with rfl | rfl | rfl | rfl | rfl | rfl | rfl | rfl
  · exact ⟨1, atI_nat (j := 0) rfl, by omega⟩
  · exact ⟨2, atI_nat (j := 1) rfl, by omega⟩
  · exact ⟨3, atI_nat (j := 2) rfl, by omega⟩
  · exact ⟨0, atI_nat (j := 3) rfl, by omega⟩
  · exact ⟨4, atI_nat (j := 4) rfl, by omega⟩
  · exact ⟨5, atI_nat (j := 5) rfl, by omega⟩
  · exact ⟨6, atI_nat (j := 6) rfl, by omega⟩
  · exact ⟨2, atI_nat (j := 7) rfl, by omega⟩
theorem le2 {s m' : Mem} {a p c : Addr} {x0 x y0 y z : MO} (le : ((s.set a x0).set p y0).le m') (h5 : m' c = none) : ((s.set a x).set p y).le (((m'.set a x).set c z).set p y) := by
  have old : ∀ b o, b ≠ p → b ≠ a → s b = some o → m' b = some o := fun b o hp ha h => le b o (by rw [Mem.set_ne hp, Mem.set_ne ha]; exact h)
  intro b o hb
  by_cases e1 : b = p
  · subst e1; rw [Mem.set_same] at hb ⊢; exact hb
  · rw [Mem.set_ne e1] at hb ⊢
    by_cases e2 : b = c
    · subst e2
      by_cases e3 : b = a
      · subst e3
        have := le b x0 (by rw [Mem.set_ne e1, Mem.set_same])
        rw [h5] at this
        cases this
      · rw [Mem.set_ne e3] at hb
        have := old b o e1 e3 hb
        rw [h5] at this
        cases this
    · rw [Mem.set_ne e2]
      by_cases e3 : b = a
      · subst e3; rw [Mem.set_same] at hb ⊢; exact hb
      · rw [Mem.set_ne e3] at hb ⊢; exact old b o e1 e3 hb
theorem le_sets {s m : Mem} {a p : Addr} {x y x' : MO} (l : ((s.set a x).set p y).le m) (hp : s p = none) (ha : s a ≠ none) : m a = some x ∧ m p = some y ∧ a ≠ p := by
  have hne : a ≠ p := fun e => ha (by rw [e]; exact hp)
  exact ⟨l a _ (by rw [Mem.set_ne hne, Mem.set_same]), l p _ Mem.set_same, hne⟩
theorem rdok_law_pairs {ds m q qe} (h : sp_law_pairs ds m q qe) : rd_law_pairs (fun cls _ m => qe cls m) (defEnds q) (startD N_law_pairs ds) m := by
  obtain ⟨d, e0, a, n, e1, ha, hq⟩ := sp1_at h
  clear h
  subst e0 e1
  show rd_law_pairs _ (defEnds q) [some (.ref a), none, none, none, none, none, none, none] m
  unfold rd_law_pairs
  walk_at "re"
  refine ⟨by exact sized (by decide), fun a1 h1 => ?_⟩
  have n1 : a ≠ a1 := Mem.live_ne ha h1
  refine ⟨a, n, 4, rfl, by rw [Mem.set_ne n1]; exact ha, rfl, by omega, by omega, fun r n' r0 r1 => ?_⟩
  obtain ⟨many, em, m2, m4⟩ := many_at r0 r1
  rw [ixD_r (by rw [Mem.set_ne n1.symm, Mem.set_same]) em]
  walk_at "re"
  refine ⟨by exact sized (by decide), fun a2 h2 => ?_⟩
  obtain ⟨h2, n2⟩ := Mem.set_none h2
  refine ⟨a, n', 8, rfl, by rw [Mem.set_ne n2.symm, Mem.set_same], rfl, by omega, by omega, fun r n'' r0 r1 => ?_⟩
  obtain ⟨hands, eh, h6⟩ := hands_at r0 r1
  rw [ixD_r (by rw [Mem.set_ne n2, Mem.set_same]) eh]
  walk_at "re"
  refine ⟨Nat.zero_le _, fun a3 h3 => ⟨by omega, by omega, ?_⟩⟩
  have l0 : (m.set a (.lst [.int n''])).le ((((m.set a1 (.lst [.int 2, .int 2, .int 3, .int 4])).set a (.lst [.int n'])).set a2 (.lst [.int 1, .int 2, .int 3, .int 0, .int 4, .int 5, .int 6, .int 2])).set a (.lst [.int n''])) := by
    rw [Mem.set_comm n2, Mem.set_set, Mem.set_comm n1.symm]
    refine Mem.le_trans (Mem.le_set ?_) (Mem.le_set ?_)
    · rw [Mem.set_ne n1.symm]; exact h1
    · rw [Mem.set_comm n1, Mem.set_ne n2]; exact h2
  have hn3 : (m.set a (.lst [.int n''])) a3 = none := Mem.le_none l0 h3
  obtain ⟨h3', n3⟩ := Mem.set_none hn3
  generalize hM : ((((m.set a1 _).set a _).set a2 _).set a (.lst [.int n''])) = M at l0 h3
  refine for_inv (fun items ρ m' => ∃ (P : Prs) (n0 : Int) (x4 x5 x6 x7 : Option D), P.length + items.length = hands ∧ (∀ p ∈ P, IsPair many hands p) ∧ ((m.set a (.lst [.int n0])).set a3 (.lst (P.map pairD))).le m' ∧ ρ = [some (.ref a), some (.int many), some (.int hands), some (.ref a3), x4, x5, x6, x7])
    (fun _ _ _ _ => trivial) (fun ρ m' hP => ?_) (fun d r ρ m' hP N hN => ?_) _ _ _ ?_
  · obtain ⟨P, n0, x4, x5, x6, x7, hl, hp, le, rfl⟩ := hP
    walk_at "re"
    have hl : P.length = hands := by simpa using hl
    refine ⟨by exact sized (by decide), defEnds_le le (hq many P n0 a3 ⟨m2, m4, by omega, fun p hp' => by rw [hl]; exact hp p hp'⟩ h3')⟩
  · obtain ⟨P, n0, x4, x5, x6, x7, hl, hp, le, rfl⟩ := hP
    rw [List.length_cons] at hl
    walk_at "re"
    have ma : m' a = some (.lst [.int n0]) := le a _ (by rw [Mem.set_ne n3.symm, Mem.set_same])
    have m3 : m' a3 = some (.lst (P.map pairD)) := le a3 _ Mem.set_same
    refine ⟨a, n0, many, rfl, ma, rfl, m4, fun t n1' ht => ⟨by omega, by omega, ?_⟩⟩
    refine comp_inv (fun items acc m2' => ∃ (os : List Int) (n2' : Int), acc = os.map D.int ∧ os.length + items.length = many ∧ (∀ x ∈ os, -(hands : Int) ≤ x ∧ x ≤ hands) ∧ m2' = m'.set a (.lst [.int n2'])) (fun _ _ _ _ => trivial) (fun acc m2' hP => ?_) (fun d r2 acc m2' hP N2 hN2 => ?_) _ _ _ ?_
    · obtain ⟨os, n2', rfl, hl2, ho, rfl⟩ := hP
      refine fun a5 h5 => ?_
      obtain ⟨h5, n5⟩ := Mem.set_none h5
      have n53 : a3 ≠ a5 := Mem.live_ne m3 h5
      have c3 : ((m'.set a (.lst [.int n2'])).set a5 (.lst (os.map D.int))) a3 = some (.lst (P.map pairD)) := by rw [Mem.set_ne n53, Mem.set_ne n3]; exact m3
      walk_at "re"
      refine ⟨⟨a3, _, rfl, c3⟩, ?_⟩
      rw [tupleD_r Mem.set_same]
      refine ⟨by exact sized (by decide), ?_⟩
      rw [appendD_r c3]
      refine ⟨by rw [List.length_map]; exact sized' (by omega), dn_here (hN _ _ ?_)⟩
      obtain ⟨t1, t2⟩ := isTurn_of_perm m2 m4 ht
      refine ⟨P ++ [(t, os)], n2', _, _, _, _, by rw [List.length_append, List.length_singleton]; omega, fun p hp' => ?_, ?_, rfl⟩
      · rcases List.mem_append.mp hp' with hp' | hp'
        · exact hp p hp'
        · rw [List.mem_singleton] at hp'
          subst hp'
          exact ⟨t1, t2, by simpa using hl2, ho⟩
      · have e5 : P.map pairD ++ [D.tup [D.tup (t.map D.int), D.tup (os.map D.int)]] = (P ++ [(t, os)]).map pairD := by rw [List.map_append]; rfl
        rw [e5]
        exact le2 le h5
    · obtain ⟨os, n2', rfl, hl2, ho, rfl⟩ := hP
      rw [List.length_cons] at hl2
      walk_at "re"
      refine ⟨a, n2', 2, rfl, Mem.set_same, rfl, by omega, by omega, fun b1 n3' b10 b11 => ?_⟩
      rw [Mem.set_set]
      refine ⟨cmulL _ (by omega), ?_⟩
      refine ⟨a, n3', _, rfl, Mem.set_same, rfl, by omega, by omega, fun b2 n4' b20 b21 => ?_⟩
      rw [Mem.set_set]
      walk_at "re"
      refine ⟨cmulL _ (by omega), by exact sized' (by omega), hN2 _ _ ⟨os ++ [b1 * (b2 - hands)], n4', by rw [List.map_append]; rfl, by rw [List.length_append, List.length_singleton]; omega, fun y hy => ?_, rfl⟩⟩
      rcases List.mem_append.mp hy with hy | hy
      · exact ho y hy
      · rw [List.mem_singleton] at hy
        subst hy
        have : b1 = 0 ∨ b1 = 1 := by omega
        rcases this with rfl | rfl
        · omega
        · omega
    · exact ⟨[], n1', rfl, by rw [rngD_length]; simp, (fun _ h => by cases h), rfl⟩
  · refine ⟨[], n'', none, none, none, none, by rw [rngD_length]; simp, (fun _ h => by cases h), Mem.set_le l0, rfl⟩
theorem ixG_L {a : Addr} {i : Int} {m : Mem} {q : DQ} {xs : List D} {d : D} (h : m a = some (.lst xs)) (e : atI xs i = some d) : ixG (.ref a) (.int i) m q = q d m := by
  unfold ixG; rw [getO_L h]; exact ixD_r h e
theorem odd_int {m : Mem} {i : Int} (h0 : -1000 ≤ i) (h1 : i ≤ 2000000000000) : OddD m (.int i) := OddD.int h0 h1
theorem cut_drop {α : Type} (xs : List α) {i : Int} (h0 : 0 ≤ i) : cutL xs (some i) none = xs.drop i.toNat := by
  unfold cutL
  show (xs.drop (if i < 0 then (i + (xs.length : Int)).toNat else min i.toNat xs.length)).take (xs.length - (if i < 0 then (i + (xs.length : Int)).toNat else min i.toNat xs.length)) = _
  rw [if_neg (by omega)]
  rcases Nat.le_total i.toNat xs.length with h | h
  · rw [Nat.min_eq_left h, List.take_of_length_le (by rw [List.length_drop]; omega)]
  · rw [Nat.min_eq_right h, List.drop_length, List.drop_of_length_le h, List.take_nil]
theorem nat_eq {i : Int} (h : 0 ≤ i) : ∃ n : Nat, i = ((n : Nat) : Int) := ⟨i.toNat, by omega⟩

theorem rdok_law_odd {ds m q qe} (h : sp_law_odd ds m q qe) : rd_law_odd (fun cls _ m => qe cls m) (defEnds q) (startD N_law_odd ds) m := by
  obtain ⟨d, e0, a, n, e1, ha, hq⟩ := sp1_at h
  clear h
  subst e0 e1
  show rd_law_odd _ (defEnds q) [some (.ref a), none] m
  unfold rd_law_odd
  walk_at "rf"
  refine ⟨by walk_at "sz", by walk_at "sz", fun p1 h1 => ?_⟩
  unfold dDict0
  refine .inl fun p2 h2 => ?_
  have K0 : Kp m m a := Kp.start ha
  have K1 : Kp m (m.set p1 (.lst [.int 0])) a := K0.new h1
  have K2 : Kp m ((m.set p1 (.lst [.int 0])).set p2 (.dK [])) a := K1.new h2
  have n12 := Mem.live_ne Mem.set_same h2
  have n1a := K0.ne h1
  have n2a := K1.ne h2
  have g1 : ((m.set p1 (.lst [.int 0])).set p2 (.dK [])) p1 = some (.lst [.int 0]) := by rw [Mem.set_ne n12, Mem.set_same]
  have g2 : ((m.set p1 (.lst [.int 0])).set p2 (.dK [])) p2 = some (.dK []) := Mem.set_same
  generalize (m.set p1 (.lst [.int 0])).set p2 (.dK []) = M2 at K2 g1 g2
  refine ⟨⟨by decide, by decide, by decide⟩, ⟨by decide, by decide, by decide⟩, ?_⟩
  refine nx_kp K2 (by decide) (by decide) fun r M3 r0 r1 K3 same => ?_
  walk_at "rf"
  refine ⟨by walk_at "sz", fun p3 h3 => ?_⟩
  have g1' : M3 p1 = some (.lst [.int 0]) := by rw [same p1 n1a]; exact g1
  have g2' : M3 p2 = some (.dK []) := by rw [same p2 n2a]; exact g2
  have n13 := Mem.live_ne g1' h3
  have n23 := Mem.live_ne g2' h3
  have n3a := K3.ne h3
  unfold rd_law_odd_1
  walk_at "rf"
  refine nx_kp (K3.new h3) (by decide) (by decide) fun r2 M4 r20 r21 K4 same2 => ?_
  have g3 : M4 p3 = some (.lst [.bl true, .bl false, .non, .str "1", .str "", .tup [.int 1], .ref p1, .ref p2, .int (10 ^ Int.toNat 12 + r), .int (-7)]) := by rw [same2 p3 n3a, Mem.set_same]
  have g1'' : M4 p1 = some (.lst [.int 0]) := by rw [same2 p1 n1a, Mem.set_ne n13]; exact g1'
  have g2'' : M4 p2 = some (.dK []) := by rw [same2 p2 n2a, Mem.set_ne n23]; exact g2'
  have e12 : (10 : Int) ^ Int.toNat 12 = 1000000000000 := by decide
  have e9 : (10 : Int) ^ Int.toNat 9 = 1000000000 := by decide
  rw [e9] at r1
  have at10 : ∃ T, atI [.bl true, .bl false, .non, .str "1", .str "", .tup [.int 1], .ref p1, .ref p2, .int (10 ^ Int.toNat 12 + r), .int (-7)] r2 = some T ∧ OddD M4 T ∧ T ≠ .ref a := by
    have : r2 = 0 ∨ r2 = 1 ∨ r2 = 2 ∨ r2 = 3 ∨ r2 = 4 ∨ r2 = 5 ∨ r2 = 6 ∨ r2 = 7 ∨ r2 = 8 ∨ r2 = 9 := by omega
    rcases this with rfl | rfl | rfl | rfl | rfl | rfl | rfl | rfl | rfl | rfl
    · exact ⟨_, atI_nat (j := 0) rfl, .inl ⟨_, rfl⟩, by simp⟩
    · exact ⟨_, atI_nat (j := 1) rfl, .inl ⟨_, rfl⟩, by simp⟩
    · exact ⟨_, atI_nat (j := 2) rfl, .inr (.inl rfl), by simp⟩
    · exact ⟨_, atI_nat (j := 3) rfl, .inr (.inr (.inl rfl)), by simp⟩
    · exact ⟨_, atI_nat (j := 4) rfl, .inr (.inr (.inr (.inl rfl))), by simp⟩
    · exact ⟨_, atI_nat (j := 5) rfl, .inr (.inr (.inr (.inr (.inl rfl)))), by simp⟩
    · exact ⟨_, atI_nat (j := 6) rfl, .inr (.inr (.inr (.inr (.inr (.inl ⟨_, rfl, g1''⟩))))), by simpa using n1a⟩
    · exact ⟨_, atI_nat (j := 7) rfl, .inr (.inr (.inr (.inr (.inr (.inr (.inl ⟨_, rfl, g2''⟩)))))), by simpa using n2a⟩
    · exact ⟨_, atI_nat (j := 8) rfl, odd_int (by rw [e12]; omega) (by rw [e12]; omega), by simp⟩
    · exact ⟨_, atI_nat (j := 9) rfl, odd_int (by omega) (by omega), by simp⟩
  obtain ⟨T, eT, oT, nT⟩ := at10
  rw [ixG_L g3 eT]
  exact defEnds_here (hq T M4 ⟨K4.cell, K4.keep⟩ oT nT)
/-! ### texts of numbers -/
/-! ### k05: a hand put otherwise -/
theorem cutL_len (xs : List D) (lo hi : Option Int) : (cutL xs lo hi).length ≤ xs.length := by
  unfold cutL
  rw [List.length_take, List.length_drop]; omega
theorem cutL_mem {xs : List D} {lo hi : Option Int} {x : D} (h : x ∈ cutL xs lo hi) : x ∈ xs := by
  unfold cutL at h
  first | exact List.mem_of_mem_drop (List.mem_of_mem_take h) | exact List.mem_of_mem_take (List.mem_of_mem_drop h)
theorem ints_odd {m : Mem} {ns : List Int} (h : ∀ x ∈ ns, -6 ≤ x ∧ x ≤ 6) : ∀ d ∈ ns.map D.int, OddD m d := fun d hd => by
  obtain ⟨x, hx, rfl⟩ := List.mem_map.mp hd
  have := h x hx
  exact odd_int (by omega) (by omega)
theorem part_ints {m : Mem} {ns : List Int} (h : ∀ x ∈ ns, -6 ≤ x ∧ x ≤ 6) (hl : ns.length ≤ 6) : PartT m (.tup (ns.map D.int)) := .inl ⟨_, rfl, by rw [List.length_map]; exact hl, ints_odd h⟩
theorem part_list {m : Mem} {a : Addr} {xs : List D} (h : m a = some (.lst xs)) : PartT m (.ref a) := .inr ⟨by unfold Lh.kn; rw [show tyS m (.ref a) = some "list" by show (match m a with | some (.lst _) => some "list" | some (.dK _) => some "dict" | some (.dF _) => some "dict" | _ => none) = some "list"; rw [h]]; rfl, by unfold isA; rw [show tyS m (.ref a) = some "list" by show (match m a with | some (.lst _) => some "list" | some (.dK _) => some "dict" | some (.dF _) => some "dict" | _ => none) = some "list"; rw [h]]; rfl⟩
theorem OddD.part {m : Mem} {d : D} (h : OddD m d) : PartT m d := by
  rcases h with ⟨b, rfl⟩ | rfl | rfl | rfl | rfl | ⟨a, rfl, g⟩ | ⟨a, rfl, g⟩ | ⟨i, rfl, _⟩
  · exact .inr ⟨rfl, rfl⟩
  · exact .inr ⟨rfl, rfl⟩
  · exact .inr ⟨rfl, rfl⟩
  · exact .inr ⟨rfl, rfl⟩
  · exact part_ints (ns := [1]) (by simp) (by decide)
  · exact part_list g
  · refine .inr ⟨?_, ?_⟩
    · unfold Lh.kn; rw [show tyS m (.ref a) = some "dict" by show (match m a with | some (.lst _) => some "list" | some (.dK _) => some "dict" | some (.dF _) => some "dict" | _ => none) = some "dict"; rw [g]]; rfl
    · unfold isA; rw [show tyS m (.ref a) = some "dict" by show (match m a with | some (.lst _) => some "list" | some (.dK _) => some "dict" | some (.dF _) => some "dict" | _ => none) = some "dict"; rw [g]]; rfl
  · exact .inr ⟨rfl, rfl⟩
theorem OddD.hand {m : Mem} {d : D} (h : OddD m d) : HandT m d := by
  rcases h with ⟨b, rfl⟩ | rfl | rfl | rfl | rfl | ⟨a, rfl, g⟩ | ⟨a, rfl, g⟩ | ⟨i, rfl, _⟩
  · exact .inr (.inr ⟨rfl, rfl⟩)
  · exact .inr (.inr ⟨rfl, rfl⟩)
  · exact .inr (.inr ⟨rfl, rfl⟩)
  · exact .inr (.inr ⟨rfl, rfl⟩)
  · exact .inr (.inl ⟨_, rfl, by decide⟩)
  · rcases part_list g with ⟨_, e, _⟩ | h
    · cases e
    · exact .inr (.inr h)
  · rcases OddD.part (.inr (.inr (.inr (.inr (.inr (.inr (.inl ⟨a, rfl, g⟩))))))) with ⟨_, e, _⟩ | h
    · cases e
    · exact .inr (.inr h)
  · exact .inr (.inr ⟨rfl, rfl⟩)
theorem hand_list {m : Mem} {a : Addr} {xs : List D} (h : m a = some (.lst xs)) : HandT m (.ref a) := by
  rcases part_list h with ⟨_, e, _⟩ | h
  · cases e
  · exact .inr (.inr h)
theorem seg_len {xs : List D} {l : Nat} {x : D} (hl : xs.length ≤ 5) : (cutL xs none (some ((l : Nat) : Int)) ++ [x] ++ cutL xs (some (((l : Nat) : Int) + 1)) none).length ≤ 6 := by
  rw [cut_take _ (by omega), cut_drop _ (by omega), show (((l : Nat) : Int) + 1).toNat = l + 1 by omega, Int.toNat_natCast]
  simp only [List.length_append, List.length_take, List.length_drop, List.length_singleton]
  omega
theorem seg_part {m : Mem} {xs : List D} {l : Nat} {x : D} (hl : xs.length ≤ 5) (hx : ∀ d ∈ xs, OddD m d) (ho : OddD m x) : PartT m (.tup (cutL xs none (some ((l : Nat) : Int)) ++ [x] ++ cutL xs (some (((l : Nat) : Int) + 1)) none)) := by
  refine .inl ⟨_, rfl, seg_len hl, fun d hd => ?_⟩
  rw [cut_take _ (by omega), cut_drop _ (by omega)] at hd
  rw [List.mem_append, List.mem_append, List.mem_singleton] at hd
  rcases hd with (hd | rfl) | hd
  · exact hx d (List.mem_of_mem_take hd)
  · exact ho
  · exact hx d (List.mem_of_mem_drop hd)
theorem at4_of {a b c d : D} {P : D → Prop} {k : Int} (k0 : 0 ≤ k) (k1 : k < 4) (ha : P a) (hb : P b) (hc : P c) (hd : P d) : ∃ x, atI [a, b, c, d] k = some x ∧ P x := by
  rcases (show k = 0 ∨ k = 1 ∨ k = 2 ∨ k = 3 by omega) with rfl | rfl | rfl | rfl
  · exact ⟨_, atI_nat (j := 0) rfl, ha⟩
  · exact ⟨_, atI_nat (j := 1) rfl, hb⟩
  · exact ⟨_, atI_nat (j := 2) rfl, hc⟩
  · exact ⟨_, atI_nat (j := 3) rfl, hd⟩
theorem at3_of {a b c : D} {P : D → Prop} {k : Int} (k0 : 0 ≤ k) (k1 : k < 3) (ha : P a) (hb : P b) (hc : P c) : ∃ x, atI [a, b, c] k = some x ∧ P x := by
  rcases (show k = 0 ∨ k = 1 ∨ k = 2 by omega) with rfl | rfl | rfl
  · exact ⟨_, atI_nat (j := 0) rfl, ha⟩
  · exact ⟨_, atI_nat (j := 1) rfl, hb⟩
  · exact ⟨_, atI_nat (j := 2) rfl, hc⟩
theorem hand_of {m : Mem} {t o : D} (h1 : PartT m t) (h2 : PartT m o) : HandT m (.tup [t, o]) := .inl ⟨t, o, rfl, h1, h2⟩
/-- a list and then another one are made, a thing is taken from it -/
theorem pick4 {m M : Mem} {a b1 b2 : Addr} {T y : D} {xs ys : List D} {k : DQ} (K : Kp m M a) (o : OddD M T) (h1 : M b1 = none) (h2 : (M.set b1 (.lst xs)) b2 = none)
    (h : ∀ N, Kp m N a → OddD N T → N b1 = some (.lst xs) → N b2 = some (.lst ys) → ixD (.ref b2) y N k) : ixD (.ref b2) y ((M.set b1 (.lst xs)).set b2 (.lst ys)) k :=
  h _ ((K.new h1).new h2) (o.le (Mem.le_trans (Mem.le_set h1) (Mem.le_set h2))) (Mem.le_set h2 _ _ Mem.set_same) Mem.set_same
theorem seg3 {xs : List D} {l : Nat} {x : D} (hl : xs.length ≤ 5) : (cutL xs none (some ((l : Nat) : Int))).length + [x].length ≤ sizeLine ∧ (cutL xs none (some ((l : Nat) : Int)) ++ [x]).length + (cutL xs (some (((l : Nat) : Int) + 1)) none).length ≤ sizeLine := by
  rw [cut_take _ (by omega), cut_drop _ (by omega)]
  simp only [List.length_append, List.length_take, List.length_drop, List.length_singleton]
  exact ⟨sized (by omega), sized (by omega)⟩
theorem rdok_law_spoilt {ds m q qe} (h : sp_law_spoilt ds m q qe) : rd_law_spoilt (fun cls _ m => qe cls m) (defEnds q) (startD N_law_spoilt ds) m := by
  obtain ⟨d, e, f, e0, a, n, many, hands, p, e1, ha, e2, hp, two, four, six, e3, hq⟩ := sp3_at h
  clear h
  subst e0 e1 e2 e3
  obtain ⟨t, os⟩ := p
  have lt : t.length = many := hp.len1
  have lo : os.length = many := hp.len2
  have bt : ∀ x ∈ t, -6 ≤ x ∧ x ≤ 6 := fun x hx => by
    have := turn_bounds (ns := t) hp.turn x hx
    omega
  have bo : ∀ x ∈ os, -6 ≤ x ∧ x ≤ 6 := fun x hx => by
    have := hp.on x hx
    omega
  show rd_law_spoilt _ (defEnds q) [some (.ref a), some (pairD (t, os)), some (.int (hands : Nat)), none, none, none, none, none, none] m
  have K0 : Kp m m a := Kp.start ha
  unfold rd_law_spoilt
  walk_at "rf"
  refine nx_kp K0 (by omega) (by omega) fun c M1 c0 c1 K1 _ => ?_
  unfold rd_law_spoilt_1
  walk_at "rf"
  unfold pairD
  rw [ixD_t (at20 _ _)]
  walk_at "rf"
  rw [lt]
  refine nx_kp K1 (by omega) (by omega) fun l M2 l0 l1 K2 _ => ?_
  obtain ⟨l, rfl⟩ := nat_eq l0
  unfold rd_law_spoilt_2
  walk_at "rf"
  obtain ⟨n2, g2⟩ := K2.cell
  refine ⟨a, n2, rfl, g2, fun T M3 KS oT nT => ?_⟩
  have K3 : Kp m M3 a := ⟨KS.cell, fun b o hb e => KS.keep b o hb (K2.keep b o hb e)⟩
  unfold rd_law_spoilt_3
  walk_at "rf"
  refine nx_kp K3 (by omega) (by omega) fun u M4 u0 u1 K4 same => ?_
  have oT4 : OddD M4 T := by
    rcases oT with h | h | h | h | h | ⟨b, e, g⟩ | ⟨b, e, g⟩ | h
    · exact .inl h
    · exact .inr (.inl h)
    · exact .inr (.inr (.inl h))
    · exact .inr (.inr (.inr (.inl h)))
    · exact .inr (.inr (.inr (.inr (.inl h))))
    · exact .inr (.inr (.inr (.inr (.inr (.inl ⟨b, e, by rw [same b (fun z => nT (by rw [e, z]))]; exact g⟩)))))
    · exact .inr (.inr (.inr (.inr (.inr (.inr (.inl ⟨b, e, by rw [same b (fun z => nT (by rw [e, z]))]; exact g⟩))))))
    · exact .inr (.inr (.inr (.inr (.inr (.inr (.inr h))))))
  clear K0 K1 K2 K3 KS oT same g2
  have ret : ∀ (H : D) (M : Mem), Kp m M a → HandT M H → (defEnds q).rt H M := fun H M K hH => defEnds_here (hq H M ⟨K.cell, K.keep⟩ hH)
  unfold rd_law_spoilt_4
  walk_at "rf"
  refine ⟨rfl, ?_⟩
  unfold rd_law_spoilt_5
  walk_at "rf"
  have pt : ∀ M : Mem, PartT M (.tup (t.map D.int)) := fun M => part_ints bt (by omega)
  have po : ∀ M : Mem, PartT M (.tup (os.map D.int)) := fun M => part_ints bo (by omega)
  have tl : (t.map D.int).length ≤ 5 := by rw [List.length_map]; omega
  have ol : (os.map D.int).length ≤ 5 := by rw [List.length_map]; omega
  by_cases c0 : (c == 0) = true
  · rw [if_pos c0]
    intro b1 hb1
    refine ⟨by walk_at "sz", by walk_at "sz", by walk_at "sz", by walk_at "sz", fun b2 hb2 => ⟨by decide, ?_⟩⟩
    refine pick4 K4 oT4 hb1 hb2 (fun M K o g gp => ?_)
    obtain ⟨x, ex, hx⟩ := at4_of (P := HandT M) (k := u % 4) (by omega) (by omega) (hand_list g) o.hand (.inr (.inl ⟨[.tup (t.map D.int), .tup (os.map D.int)] ++ [.int 0], rfl, by simp⟩)) (.inr (.inl ⟨[.tup (t.map D.int)], rfl, by simp⟩))
    rw [ixD_r gp ex]
    exact ret x _ K hx
  rw [if_neg c0]
  unfold rd_law_spoilt_6
  walk_at "rf"
  by_cases c1' : (c == 1) = true
  · rw [if_pos c1']
    exact ⟨by walk_at "sz", (seg3 tl).1, (seg3 tl).2, by walk_at "sz", ret _ M4 K4 (hand_of (seg_part tl (ints_odd bt) (odd_int (by omega) (by omega))) (po M4))⟩
  rw [if_neg c1']
  unfold rd_law_spoilt_7
  walk_at "rf"
  by_cases c2 : (c == 2) = true
  · rw [if_pos c2]
    exact ⟨by walk_at "sz", (seg3 tl).1, (seg3 tl).2, by walk_at "sz", ret _ M4 K4 (hand_of (seg_part tl (ints_odd bt) oT4) (po M4))⟩
  rw [if_neg c2]
  unfold rd_law_spoilt_8
  walk_at "rf"
  by_cases c3 : (c == 3) = true
  · rw [if_pos c3]
    intro b1 hb1
    refine ⟨by walk_at "sz", by rw [List.length_singleton]; exact sized (by omega), by walk_at "sz", fun b2 hb2 => ⟨by decide, ?_⟩⟩
    refine pick4 K4 oT4 hb1 hb2 (fun M K o g gp => ?_)
    have p2 : PartT M (.tup (t.map D.int ++ [.int ((t.length : Nat) : Int)])) := .inl ⟨_, rfl, by rw [List.length_append, List.length_singleton]; omega, fun d hd => by
      rcases List.mem_append.mp hd with hd | hd
      · exact ints_odd bt d hd
      · rw [List.mem_singleton.mp hd]; exact odd_int (by omega) (by omega)⟩
    have p3 : PartT M (.tup (cutL (t.map D.int) none (some (-1)))) := .inl ⟨_, rfl, Nat.le_trans (cutL_len _ _ _) (by omega), fun d hd => ints_odd bt d (cutL_mem hd)⟩
    obtain ⟨x, ex, hx⟩ := at3_of (P := PartT M) (k := u % 3) (by omega) (by omega) (part_list g) p2 p3
    rw [ixD_r gp ex]
    exact ⟨by walk_at "sz", ret _ _ K (hand_of hx (po M))⟩
  rw [if_neg c3]
  unfold rd_law_spoilt_9
  walk_at "rf"
  by_cases c4 : (c == 4) = true
  · rw [if_pos c4]
    refine ⟨by walk_at "sz", fun b1 hb1 => ⟨by decide, ?_⟩⟩
    have K5 := K4.new (o := .lst [.int (((hands : Nat) : Int) + 1), .int (-1 - ((hands : Nat) : Int)), .int ((hands : Nat) : Int), .int (-((hands : Nat) : Int))]) hb1
    have gp : (M4.set b1 (.lst [.int (((hands : Nat) : Int) + 1), .int (-1 - ((hands : Nat) : Int)), .int ((hands : Nat) : Int), .int (-((hands : Nat) : Int))])) b1 = some (.lst [.int (((hands : Nat) : Int) + 1), .int (-1 - ((hands : Nat) : Int)), .int ((hands : Nat) : Int), .int (-((hands : Nat) : Int))]) := Mem.set_same
    generalize M4.set b1 (.lst [.int (((hands : Nat) : Int) + 1), .int (-1 - ((hands : Nat) : Int)), .int ((hands : Nat) : Int), .int (-((hands : Nat) : Int))]) = M at K5 gp ⊢
    obtain ⟨x, ex, hx⟩ := at4_of (P := OddD M) (k := u % 4) (by omega) (by omega) (odd_int (i := ((hands : Nat) : Int) + 1) (by omega) (by omega)) (odd_int (i := -1 - ((hands : Nat) : Int)) (by omega) (by omega)) (odd_int (i := ((hands : Nat) : Int)) (by omega) (by omega)) (odd_int (i := -((hands : Nat) : Int)) (by omega) (by omega))
    rw [ixD_r gp ex]
    exact ⟨by walk_at "sz", (seg3 ol).1, (seg3 ol).2, by walk_at "sz", ret _ M K5 (hand_of (pt M) (seg_part ol (ints_odd bo) hx))⟩
  rw [if_neg c4]
  unfold rd_law_spoilt_10
  walk_at "rf"
  by_cases c5 : (c == 5) = true
  · rw [if_pos c5]
    exact ⟨by walk_at "sz", (seg3 ol).1, (seg3 ol).2, by walk_at "sz", ret _ M4 K4 (hand_of (pt M4) (seg_part ol (ints_odd bo) oT4))⟩
  rw [if_neg c5]
  unfold rd_law_spoilt_11
  walk_at "rf"
  by_cases c6 : (c == 6) = true
  · rw [if_pos c6]
    intro b1 hb1
    refine ⟨by walk_at "sz", by rw [List.length_singleton]; exact sized (by omega), by walk_at "sz", fun b2 hb2 => ⟨by decide, ?_⟩⟩
    refine pick4 K4 oT4 hb1 hb2 (fun M K o g gp => ?_)
    have p2 : PartT M (.tup (os.map D.int ++ [.int 0])) := .inl ⟨_, rfl, by rw [List.length_append, List.length_singleton]; omega, fun d hd => by
      rcases List.mem_append.mp hd with hd | hd
      · exact ints_odd bo d hd
      · rw [List.mem_singleton.mp hd]; exact odd_int (by omega) (by omega)⟩
    have p3 : PartT M (.tup (cutL (os.map D.int) (some 1) none)) := .inl ⟨_, rfl, Nat.le_trans (cutL_len _ _ _) (by omega), fun d hd => ints_odd bo d (cutL_mem hd)⟩
    obtain ⟨x, ex, hx⟩ := at4_of (P := PartT M) (k := u % 4) (by omega) (by omega) (part_list g) p2 p3 o.part
    rw [ixD_r gp ex]
    exact ⟨by walk_at "sz", ret _ _ K (hand_of (pt M) hx)⟩
  rw [if_neg c6]
  unfold rd_law_spoilt_12
  walk_at "rf"
  by_cases c7 : (c == 7) = true
  · rw [if_pos c7]
    exact ⟨by walk_at "sz", ret _ M4 K4 (hand_of (po M4) (pt M4))⟩
  rw [if_neg c7]
  exact ret _ M4 K4 (hand_of (pt M4) (po M4))

def pairP (p : List Int × List Int) : PyData := .tuple [.tuple (p.1.map PyData.int), .tuple (p.2.map PyData.int)]
theorem pyWs_pairs (f : Addr → Option PyData) : ∀ P : Prs, pyWs f (P.map pairD) = some (P.map pairP)
  | [] => rfl
  | p :: P => by
    rw [List.map_cons, List.map_cons, pyWs, pyWs_pairs f P]
    unfold pairD
    rw [pyW, pyWs, pyW, pyWs_ints, pyWs, pyW, pyWs_ints, pyWs]
    rfl
theorem pyD_pairs {m : Mem} {a : Addr} {P : Prs} (h : m a = some (.lst (P.map pairD))) : pyD m (.ref a) = some (.list (P.map pairP)) := by
  show pyA m 3 a = _
  unfold pyA
  rw [h]
  show (pyWs (pyA m 2) (P.map pairD)).map PyData.list = _
  rw [pyWs_pairs]
  rfl
theorem shP_pair (p : List Int × List Int) : ShP (pairP p) 2 := (ShPs.cons (ShP.ints p.1) (ShPs.cons (ShP.ints p.2) .nil)).tup (Nat.le_refl _)
theorem shaped_pairs (P : Prs) : SeqAt.shaped (.list (P.map pairP)) = true := ((ShPs.all (d := 2) fun x hx => by
  obtain ⟨p, _, rfl⟩ := List.mem_map.mp hx
  exact shP_pair p).lst (e := 3) (Nat.le_refl _)).ok (by decide)

/-! ### k05: letters and hands, or what is nearly those -/
theorem Mem.trans3 {m m1 m2 m3 : Mem} (a : m.le m1) (b : m1.le m2) (c : m2.le m3) : m.le m3 := Mem.le_trans a (Mem.le_trans b c)
theorem OddD.kpS {m M : Mem} {a : Addr} {d : D} (h : OddD m d) (k : KpS m M a) (ne : d ≠ .ref a) : OddD M d := by
  rcases h with h | h | h | h | h | ⟨b, e, g⟩ | ⟨b, e, g⟩ | h
  · exact .inl h
  · exact .inr (.inl h)
  · exact .inr (.inr (.inl h))
  · exact .inr (.inr (.inr (.inl h)))
  · exact .inr (.inr (.inr (.inr (.inl h))))
  · exact .inr (.inr (.inr (.inr (.inr (.inl ⟨b, e, k.keep b _ (fun z => ne (by rw [e, z])) g⟩)))))
  · exact .inr (.inr (.inr (.inr (.inr (.inr (.inl ⟨b, e, k.keep b _ (fun z => ne (by rw [e, z])) g⟩))))))
  · exact .inr (.inr (.inr (.inr (.inr (.inr (.inr h))))))
theorem OddD.rows {m : Mem} {d : D} (h : OddD m d) : (∃ ds, RowsT m d ds) ∨ NoRows m d := by
  have no : ∀ {i : Int}, HandT m (.int i) := fun {i} => .inr (.inr ⟨rfl, rfl⟩)
  rcases h with ⟨b, rfl⟩ | rfl | rfl | rfl | rfl | ⟨a, rfl, g⟩ | ⟨a, rfl, g⟩ | ⟨i, rfl, _⟩
  · exact .inr ⟨rfl, rfl, rfl⟩
  · exact .inr ⟨rfl, rfl, rfl⟩
  · exact .inr ⟨rfl, rfl, rfl⟩
  · exact .inr ⟨rfl, rfl, rfl⟩
  · exact .inl ⟨[.int 1], .inl rfl, by decide, fun h hh => by rw [List.mem_singleton.mp hh]; exact no⟩
  · exact .inl ⟨[.int 0], .inr ⟨a, rfl, g⟩, by decide, fun h hh => by rw [List.mem_singleton.mp hh]; exact no⟩
  · refine .inr ?_
    have e : tyS m (.ref a) = some "dict" := by show (match m a with | some (.lst _) => some "list" | some (.dK _) => some "dict" | some (.dF _) => some "dict" | _ => none) = some "dict"; rw [g]
    exact ⟨by unfold Lh.kn; rw [e]; rfl, by unfold isA; rw [e]; rfl, by unfold isA; rw [e]; rfl⟩
  · exact .inr ⟨rfl, rfl, rfl⟩
theorem pairs_hand {many hands : Nat} {m : Mem} {P : Prs} (h4 : many ≤ 4) (h6 : hands ≤ 6) (h : ∀ p ∈ P, IsPair many hands p) : ∀ d ∈ P.map pairD, HandT m d := fun d hd => by
  obtain ⟨p, hp, rfl⟩ := List.mem_map.mp hd
  have ip := h p hp
  have l1 := ip.len1
  have l2 := ip.len2
  exact hand_of (part_ints (fun x hx => by have := turn_bounds (ns := p.1) ip.turn x hx; omega) (by omega)) (part_ints (fun x hx => by have := ip.on x hx; omega) (by omega))
/-- one hand more -/
def exP (many : Nat) : List Int × List Int := ([1, 0, 2, 3].take many, List.replicate many 0)
theorem ex_zero {many : Nat} : (List.replicate ((many : Nat) : Int).toNat [D.int 0]).flatten = (List.replicate many (0 : Int)).map D.int := by
  rw [Int.toNat_natCast, List.map_replicate]
  induction many with
  | zero => rfl
  | succ n ih => rw [List.replicate_succ, List.flatten_cons, ih]; rfl
theorem ex_cut {many : Nat} (h2 : 2 ≤ many) (h4 : many ≤ 4) : cutL [D.int 1, D.int 0, D.int 2, D.int 3] none (some ((many : Nat) : Int)) = ([1, 0, 2, 3].take many).map D.int := by
  rw [cut_take _ (by omega), Int.toNat_natCast, List.map_take]; rfl
theorem ex_rep {k : Nat} {p : List Int × List Int} : (List.replicate k [pairD p]).flatten = (List.replicate k p).map pairD := by
  rw [List.map_replicate]
  induction k with
  | zero => rfl
  | succ n ih => rw [List.replicate_succ, List.flatten_cons, ih]; rfl
theorem ex_ok {many hands : Nat} (h2 : 2 ≤ many) (h4 : many ≤ 4) : IsPair many hands (exP many) := by
  unfold exP
  rcases (show many = 2 ∨ many = 3 ∨ many = 4 by omega) with rfl | rfl | rfl
  · exact ⟨by decide, by decide, by decide, fun s hs => by rw [List.eq_of_mem_replicate hs]; omega⟩
  · exact ⟨by decide, by decide, by decide, fun s hs => by rw [List.eq_of_mem_replicate hs]; omega⟩
  · exact ⟨by decide, by decide, by decide, fun s hs => by rw [List.eq_of_mem_replicate hs]; omega⟩
section
variable {m : Mem} {q : DQ} {qe : Value → Mem → Prop} {a : Addr}
theorem thing_10 {x1 x2 x3 x4 : Option D} {b : Bool} {S : D} {r : Addr} {ds : List D} {M : Mem} (hq : ∀ (S R : D) (M : Mem), KpS m M a → OddD M S → ((∃ ds, RowsT M R ds) ∨ NoRows M R) → q (.tup [S, R]) M)
    (K : Kp m M a) (hS : OddD M S) (hr : M r = some (.lst ds)) (hl : ds.length ≤ 12) (hh : ∀ d ∈ ds, HandT M d) :
    rd_law_thing_10 (fun cls _ m => qe cls m) (defEnds q) [some (.ref a), x1, x2, x3, x4, some (.bl b), some S, some (.ref r)] M := by
  unfold rd_law_thing_10
  walk_at "rf"
  cases b with
  | true =>
    walk_at "rf"
    exact ⟨by walk_at "sz", defEnds_here (hq _ _ M ⟨K.cell, K.keep⟩ hS (.inl ⟨ds, .inr ⟨r, rfl, hr⟩, hl, hh⟩))⟩
  | false =>
    walk_at "rf"
    rw [tupleD_r hr]
    exact ⟨by walk_at "sz", defEnds_here (hq _ _ M ⟨K.cell, K.keep⟩ hS (.inl ⟨ds, .inl rfl, hl, hh⟩))⟩
theorem thing_9 {c at' : Nat} {x3 x4 : Option D} {b : Bool} {S : D} {many hands : Nat} {p : Addr} {P : Prs} {M : Mem} (hq : ∀ (S R : D) (M : Mem), KpS m M a → OddD M S → ((∃ ds, RowsT M R ds) ∨ NoRows M R) → q (.tup [S, R]) M)
    (K : Kp m M a) (pa : p ≠ a) (hS : OddD M S) (nS : S ≠ .ref a) (hp : M p = some (.lst (P.map pairD))) (two : 2 ≤ many) (four : many ≤ 4) (six : P.length ≤ 12) (hc : 3 < c → P.length ≤ 6 ∧ hands = P.length) (h6 : hands ≤ 6) (hP : ∀ x ∈ P, IsPair many hands x) :
    rd_law_thing_9 (fun cls _ m => qe cls m) (defEnds q) [some (.ref a), some (.int (c : Nat)), some (.int (at' : Nat)), x3, x4, some (.bl b), some S, some (.ref p)] M := by
  unfold rd_law_thing_9
  walk_at "rf"
  by_cases h3 : 3 < c
  rotate_left
  · rw [decide_eq_false (by omega)]
    walk_at "rf"
    exact thing_10 hq K hS hp (by rw [List.length_map]; exact six) (pairs_hand four h6 hP)
  rw [decide_eq_true (by omega)]
  walk_at "rf"
  rw [itemsL_r hp]
  dsimp only
  refine ⟨?_, ?_⟩
  · exact ⟨P.map pairP, pyWs_pairs _ P, shaped_pairs P⟩
  by_cases hP0 : P = []
  · subst hP0
    exact thing_10 (qe := qe) hq K hS hp (by simp) (by simp)
  have p0 : 0 < P.length := List.length_pos_iff.mpr hP0
  rw [show (P.map pairD).isEmpty = false by cases P with | nil => exact absurd rfl hP0 | cons _ _ => rfl]
  walk_at "rf"
  obtain ⟨l6, eh⟩ := hc h3
  subst eh
  unfold rd_law_thing_9t
  walk_at "rf"
  rw [lenD_r hp, List.length_map]
  walk_at "rf"
  refine ⟨by omega, ?_⟩
  rw [show ((at' : Nat) : Int) % ((P.length : Nat) : Int) = ((at' % P.length : Nat) : Int) from rfl]
  have lt := Nat.mod_lt at' p0
  generalize at' % P.length = l at lt ⊢
  have gl : P[l]? = some P[l] := List.getElem?_eq_getElem lt
  have okp := hP _ (List.getElem_mem lt)
  generalize P[l] = pr at gl okp
  unfold rd_law_thing_9t1
  walk_at "rf"
  rw [slD_r hp]
  intro r1 hr1
  have hp1 := Mem.le_set (o := .lst (cutL (P.map pairD) none (some ((l : Nat) : Int)))) hr1 _ _ hp
  have K1 := K.new (o := .lst (cutL (P.map pairD) none (some ((l : Nat) : Int)))) hr1
  have hS1 := hS.le (Mem.le_set (o := .lst (cutL (P.map pairD) none (some ((l : Nat) : Int)))) hr1)
  have g1 := Mem.set_same (m := M) (a := r1) (o := .lst (cutL (P.map pairD) none (some ((l : Nat) : Int))))
  have n1 := K.ne hr1
  generalize M.set r1 (.lst (cutL (P.map pairD) none (some ((l : Nat) : Int)))) = M1 at hp1 K1 hS1 g1 ⊢
  rw [ixD_r hp1 (d := pairD pr) (atI_nat (by rw [List.getElem?_map, gl]; rfl)), lenD_r hp1, List.length_map]
  obtain ⟨n2, g2⟩ := K1.cell
  refine ⟨a, n2, many, P.length, pr, rfl, g2, rfl, okp, two, four, h6, ?_, fun T M2 KS hT => ?_⟩
  · rfl
  have K2 : Kp m M2 a := ⟨KS.cell, fun b o hb e => KS.keep b o hb (K1.keep b o hb e)⟩
  have hp2 := KS.keep _ _ pa hp1
  have g1' := KS.keep _ _ n1 g1
  have hS2 : OddD M2 S := OddD.kpS hS1 KS nS
  refine ⟨by walk_at "sz", fun r2 hr2 => ?_⟩
  have hp3 := Mem.le_set (o := .lst [T]) hr2 _ _ hp2
  have K3 := K2.new (o := .lst [T]) hr2
  have hS3 := hS2.le (Mem.le_set (o := .lst [T]) hr2)
  have hT3 := hT.le (Mem.le_set (o := .lst [T]) hr2)
  have g3 := Mem.le_set (o := .lst [T]) hr2 _ _ g1'
  have g4 := Mem.set_same (m := M2) (a := r2) (o := .lst [T])
  generalize M2.set r2 (.lst [T]) = M3 at hp3 K3 hS3 hT3 g3 g4 ⊢
  clear hp2 K2 hS2 hT g1' hr2 g1 hS1 K1 hp1 hr1 n1
  have e1 : cutL (P.map pairD) none (some ((l : Nat) : Int)) = (P.take l).map pairD := by rw [cut_take _ (by omega), Int.toNat_natCast, List.map_take]
  rw [e1] at g3
  refine ⟨_, _, g3, g4, by rw [List.length_map, List.length_take, List.length_singleton]; exact sized (by omega), fun r3 hr3 => ?_⟩
  have le3 := Mem.le_set (o := .lst ((P.take l).map pairD ++ [T])) hr3
  dsimp only
  rw [slD_r (le3 _ _ hp3)]
  intro r4 hr4
  have e2 : cutL (P.map pairD) (some (((l : Nat) : Int) + 1)) none = (P.drop (l + 1)).map pairD := by rw [cut_drop _ (by omega), show (((l : Nat) : Int) + 1).toNat = l + 1 by omega, List.map_drop]
  rw [e2]
  have le4 := Mem.le_set (o := .lst ((P.drop (l + 1)).map pairD)) hr4
  refine ⟨_, _, le4 _ _ Mem.set_same, Mem.set_same, ?_, fun r5 hr5 => ?_⟩
  · rw [List.length_append, List.length_map, List.length_map, List.length_take, List.length_drop, List.length_singleton]; exact sized (by omega)
  have le5 := Mem.trans3 le3 le4 (Mem.le_set (o := .lst ((P.take l).map pairD ++ [T] ++ (P.drop (l + 1)).map pairD)) hr5)
  refine thing_10 hq (((K3.new hr3).new hr4).new hr5) (hS3.le le5) Mem.set_same ?_ fun d hd => ?_
  · simp only [List.length_append, List.length_map, List.length_take, List.length_drop, List.length_singleton]; omega
  · rw [List.mem_append, List.mem_append, List.mem_singleton] at hd
    rcases hd with (hd | rfl) | hd
    · exact pairs_hand four h6 (fun p hp => hP p (List.mem_of_mem_take hp)) d hd
    · exact hT3.le le5
    · exact pairs_hand four h6 (fun p hp => hP p (List.mem_of_mem_drop hp)) d hd
end
theorem rdok_law_thing {ds m q qe} (h : sp_law_thing ds m q qe) : rd_law_thing (fun cls _ m => qe cls m) (defEnds q) (startD N_law_thing ds) m := by
  obtain ⟨d, e0, a, n, e1, ha, hq⟩ := sp1_at h
  clear h
  subst e0 e1
  show rd_law_thing _ (defEnds q) [some (.ref a), none, none, none, none, none, none, none] m
  have K0 : Kp m m a := Kp.start ha
  unfold rd_law_thing
  walk_at "rf"
  refine nx_kp K0 (by omega) (by omega) fun c M1 c0 c1 K1 _ => ?_
  obtain ⟨c, rfl⟩ := nat_eq c0
  unfold rd_law_thing_1
  walk_at "rf"
  refine nx_kp K1 (by omega) (by omega) fun l M2 l0 l1 K2 _ => ?_
  obtain ⟨l, rfl⟩ := nat_eq l0
  unfold rd_law_thing_2
  walk_at "rf"
  obtain ⟨n2, g2⟩ := K2.cell
  refine ⟨a, n2, rfl, g2, fun T M3 KS oT nT => ?_⟩
  have K3 : Kp m M3 a := ⟨KS.cell, fun b o hb e => KS.keep b o hb (K2.keep b o hb e)⟩
  unfold rd_law_thing_3
  walk_at "rf"
  refine nx_kp K3 (by omega) (by omega) fun u M4 u0 u1 K4 same4 => ?_
  have o4 : OddD M4 T := OddD.kpS oT ⟨K4.cell, fun b o hb e => by rw [same4 b hb]; exact e⟩ nT
  unfold rd_law_thing_4
  walk_at "rf"
  refine nx_kp K4 (by omega) (by omega) fun s M5 s0 s1 K5 same5 => ?_
  have o5 : OddD M5 T := OddD.kpS o4 ⟨K5.cell, fun b o hb e => by rw [same5 b hb]; exact e⟩ nT
  walk_at "rf"
  generalize (s == 0) = b
  unfold rd_law_thing_5
  walk_at "rf"
  obtain ⟨n5, g5⟩ := K5.cell
  refine ⟨a, n5, rfl, g5, fun many P n6 p ok hp => ?_⟩
  have pa : p ≠ a := fun z => by subst z; rw [g5] at hp; cases hp
  have hp' : (M5.set a (.lst [.int n6])) p = none := by rw [Mem.set_ne pa]; exact hp
  have K6 := (K5.step n6).new (o := .lst (P.map pairD)) hp'
  have o6 : OddD ((M5.set a (.lst [.int n6])).set p (.lst (P.map pairD))) T := OddD.kpS o5 ⟨K6.cell, fun b o hb e => by
    have : b ≠ p := fun z => by subst z; rw [hp] at e; cases e
    rw [Mem.set_ne this, Mem.set_ne hb]; exact e⟩ nT
  have gp := Mem.set_same (m := M5.set a (.lst [.int n6])) (a := p) (o := .lst (P.map pairD))
  generalize (M5.set a (.lst [.int n6])).set p (.lst (P.map pairD)) = M at K6 o6 gp ⊢
  clear hp hp' g5 o5 o4 oT K0 K1 K2 K3 K4 K5 same4 same5 KS g2
  have two := ok.two
  have four := ok.four
  have most := ok.most
  walk_at "rf"
  refine ⟨rfl, ?_⟩
  have eight : ∀ (S : D) (M : Mem), Kp m M a → OddD M T → OddD M S → S ≠ .ref a → M p = some (.lst (P.map pairD)) → (c = 2 → S = .int (many : Nat)) → c ≠ 1 → rd_law_thing_8 (fun cls _ m => qe cls m) (defEnds q) [some (.ref a), some (.int (c : Nat)), some (.int (l : Nat)), some T, some (.int u), some (.bl b), some S, some (.ref p)] M := fun S M K oT oS nS gp h2 n1 => by
    unfold rd_law_thing_8
    walk_at "rf"
    by_cases e2 : c = 2
    · have := h2 e2
      subst this
      rw [show (((c : Nat) : Int) == 2) = true by rw [e2]; rfl, if_pos rfl]
      refine ⟨by walk_at "sz", ?_⟩
      dsimp only
      refine ⟨by walk_at "sz", ?_⟩
      rw [mulG_t, ex_zero]
      refine ⟨by omega, by omega, by decide, by walk_at "sz", by walk_at "sz", fun r1 hr1 => ⟨by decide, ?_⟩⟩
      rw [ex_cut two four]
      have le1 := Mem.le_set (o := .lst [pairD (exP many)]) hr1
      have K1 := K.new (o := .lst [pairD (exP many)]) hr1
      have g1 := Mem.set_same (m := M) (a := r1) (o := .lst [pairD (exP many)])
      have n1' := K.ne hr1
      show lenD [.ref p] (M.set r1 (.lst [pairD (exP many)])) _
      generalize M.set r1 (.lst [pairD (exP many)]) = M1 at le1 K1 g1 ⊢
      rw [lenD_r (le1 _ _ gp), List.length_map]
      walk_at "rf"
      obtain ⟨k, ek, kb⟩ : ∃ k : Nat, (5 + ((l : Nat) : Int) % 3 - ((P.length : Nat) : Int)).toNat = k ∧ k ≤ 7 := ⟨_, rfl, by omega⟩
      refine ⟨_, g1, by omega, by omega, by rw [ek, List.length_singleton]; exact sized (by omega), fun r2 hr2 => ?_⟩
      rw [ek, ex_rep]
      have le2 := Mem.le_set (o := .lst ((List.replicate k (exP many)).map pairD)) hr2
      dsimp only
      refine ⟨_, _, le2 _ _ (le1 _ _ gp), Mem.set_same, by rw [List.length_map, List.length_map, List.length_replicate]; exact sized (by omega), fun r3 hr3 => ?_⟩
      have le3 := Mem.trans3 le1 le2 (Mem.le_set (o := .lst (P.map pairD ++ (List.replicate k (exP many)).map pairD)) hr3)
      have K3 := (K1.new (o := .lst ((List.replicate k (exP many)).map pairD)) hr2).new (o := .lst (P.map pairD ++ (List.replicate k (exP many)).map pairD)) hr3
      have n3 := (K1.new (o := .lst ((List.replicate k (exP many)).map pairD)) hr2).ne hr3
      refine thing_9 (P := P ++ List.replicate k (exP many)) (hands := P.length) hq K3 n3 (oS.le le3) (by simp) (by rw [Mem.set_same, List.map_append]) two four (by rw [List.length_append, List.length_replicate]; omega) (fun z => by omega) most fun x hx => ?_
      rcases List.mem_append.mp hx with hx | hx
      · exact ok.pair x hx
      · rw [List.eq_of_mem_replicate hx]; exact ex_ok two four
    · rw [show (((c : Nat) : Int) == 2) = false by simp; omega, if_neg (by decide)]
      exact thing_9 hq K pa oS nS gp two four (by omega) (fun _ => ⟨most, rfl⟩) most ok.pair
  unfold rd_law_thing_6
  walk_at "rf"
  have seven : ∀ (S : D) (M : Mem), Kp m M a → OddD M T → OddD M S → S ≠ .ref a → M p = some (.lst (P.map pairD)) → (c = 2 → S = .int (many : Nat)) → rd_law_thing_7 (fun cls _ m => qe cls m) (defEnds q) [some (.ref a), some (.int (c : Nat)), some (.int (l : Nat)), some T, some (.int u), some (.bl b), some S, some (.ref p)] M := fun S M K oT oS nS gp h2 => by
    unfold rd_law_thing_7
    walk_at "rf"
    by_cases e1 : c = 1
    · rw [show (((c : Nat) : Int) == 1) = true by rw [e1]; rfl, if_pos rfl]
      exact ⟨by walk_at "sz", defEnds_here (hq _ _ M ⟨K.cell, K.keep⟩ oS oT.rows)⟩
    · rw [show (((c : Nat) : Int) == 1) = false by simp; omega, if_neg (by decide)]
      exact eight S M K oT oS nS gp h2 e1
  by_cases e0 : c = 0
  · rw [show (((c : Nat) : Int) == 0) = true by rw [e0]; rfl, if_pos rfl]
    refine ⟨by walk_at "sz", fun r1 hr1 => ⟨by decide, ?_⟩⟩
    have le1 := Mem.le_set (o := .lst [.int u, T]) hr1
    have K7 := K6.new (o := .lst [.int u, T]) hr1
    rcases (show ((l : Nat) : Int) % 2 = 0 ∨ ((l : Nat) : Int) % 2 = 1 by omega) with z | z
    · rw [z, ixD_r Mem.set_same (at20 _ _)]
      exact seven _ _ K7 (o6.le le1) (odd_int (by omega) (by omega)) (by simp) (le1 _ _ gp) (fun z => by omega)
    · rw [z, ixD_r Mem.set_same (at21 _ _)]
      exact seven _ _ K7 (o6.le le1) (o6.le le1) nT (le1 _ _ gp) (fun z => by omega)
  · rw [show (((c : Nat) : Int) == 0) = false by simp; omega, if_neg (by decide)]
    exact seven _ M K6 o6 (odd_int (by omega) (by omega)) (by simp) gp fun _ => rfl

/-! ### what is told -/
theorem isND_nn {neg : Bool} {m : Mem} {q : DQ} : isND neg .non .non m q = q (.bl (!neg)) m := rfl
theorem isND_r {neg : Bool} {a : Addr} {m : Mem} {q : DQ} : isND neg (.ref a) .non m q = q (.bl neg) m := rfl
theorem isiE_r {tb : CT} {a X C : Addr} {b : Bool} {m : Mem} {q : DQ} (h : m a = some (.exc (.ref X))) (hm : (Value.ref X, Value.ref C, b) ∈ tb) (hq : q (.bl b) m) : isiE tb [.ref a, .ref C] m q := by
  unfold isiE
  dsimp only
  have : clsD m (.ref a) = some (.ref X) := by
    unfold clsD tyS
    dsimp only
    rw [h]
  rw [this]
  exact ⟨b, hm, hq⟩
theorem comp_marks {chk : Mem → Prop} {q : List D → Mem → Prop} {m : Mem} (hc : chk m) {x0 x1 x2 x3 x4 : Option D} : ∀ (L : List (Str × Bool)) (acc : List D) (x5 x6 : Option D), acc.length + L.length ≤ 100 → q (acc ++ (L.filter (·.2)).map fun p => D.str p.1) m →
    compR chk (gTp 2 (gCn (gNm 5) (gCn (gNm 6) gNl))) (dTruth (dVar 6)) (dVar 5) [x0, x1, x2, x3, x4, x5, x6] q (L.map fun p => .tup [.str p.1, .bl p.2]) acc m
  | [], acc, _, _, _, h => ⟨hc, by simpa using h⟩
  | (n, b) :: L, acc, x5, x6, hz, h => by
    rw [List.length_cons] at hz
    rw [List.map_cons]
    refine ⟨hc, ?_⟩
    walk_at "rf"
    refine ⟨rfl, ?_⟩
    cases b with
    | true =>
      walk_at "rf"
      refine ⟨by walk_at "sz", comp_marks hc L (acc ++ [.str n]) x5 x6 (by rw [List.length_append, List.length_singleton]; omega) ?_⟩
      rw [List.append_assoc]
      exact h
    | false =>
      walk_at "rf"
      exact comp_marks hc L acc x5 x6 (by omega) h
def marks_NoBook : List (Str × Bool) := [("NoTurn", false), ("NoBook", true), ("NoWord", false), ("NoRow", false), ("NoMachine", false), ("NoNumber", false), ("TooMany", false), ("NoName", false), ("InUse", false), ("NoDeed", false), ("NoText", false)]
theorem join_NoBook : Txt.join (Str.ofString " ") [Str.ofString "NoBook"] = Str.ofString "NoBook" := by decide +kernel
section
variable {C_NoBook C_HandError C_NoText C_NoDeed C_InUse C_NoName C_TooMany C_NoNumber C_NoMachine C_NoRow C_NoWord C_NoTurn f : Addr} {dl : DLm} {we : DWX} {E : DEnds} {x0 x1 x2 x3 : Option D}
theorem told_5_NoBook {M : Mem} {c : Addr} (gc : M c = some (.lst (marks_NoBook.map fun p => .tup [.str p.1, .bl p.2]))) (hq : ∀ M', M.le M' → E.rt (.tup [.str "refused", .str "NoBook"]) M') :
    rd_law_told_5 C_NoBook C_HandError C_NoText C_NoDeed C_InUse C_NoName C_TooMany C_NoNumber C_NoMachine C_NoRow C_NoWord C_NoTurn f dl we E [x0, x1, x2, x3, some (.ref c), none, none] M := by
  unfold rd_law_told_5 dJoin
  walk_at "rf"
  refine ⟨⟨_, rfl⟩, ?_⟩
  walk_at "rf"
  rw [itOf_r gc]
  dsimp only
  refine comp_marks gc marks_NoBook [] _ _ (by decide) ?_
  refine fun c2 hc2 => ?_
  unfold joinD
  dsimp only
  rw [itemsOf_r Mem.set_same]
  refine ⟨by decide, by walk_at "sz", ?_⟩
  show E.rt (.tup [.str "refused", .str (Txt.join (Str.ofString " ") [Str.ofString "NoBook"])]) _
  rw [join_NoBook]
  exact hq _ (Mem.le_set hc2)
theorem told_4_NoBook {M : Mem} {a : Addr} (ga : M a = some (.exc (.ref C_NoBook))) (hq : ∀ M', M.le M' → E.rt (.tup [.str "refused", .str "NoBook"]) M') :
    rd_law_told_4 C_NoBook C_HandError C_NoText C_NoDeed C_InUse C_NoName C_TooMany C_NoNumber C_NoMachine C_NoRow C_NoWord C_NoTurn f dl we E [x0, x1, some (.ref a), x3, none, none, none] M := by
  unfold rd_law_told_4
  walk_at "rf"
  refine isiE_r ga (b := false) (.tail _ (.head _)) ⟨by walk_at "sz", isiE_r ga (b := true) (.tail _ (.head _)) ⟨by walk_at "sz", isiE_r ga (b := false) (.tail _ (.head _)) ⟨by walk_at "sz", isiE_r ga (b := false) (.tail _ (.head _)) ⟨by walk_at "sz", isiE_r ga (b := false) (.tail _ (.head _)) ⟨by walk_at "sz", isiE_r ga (b := false) (.tail _ (.head _)) ⟨by walk_at "sz", isiE_r ga (b := false) (.tail _ (.head _)) ⟨by walk_at "sz", isiE_r ga (b := false) (.tail _ (.head _)) ⟨by walk_at "sz", isiE_r ga (b := false) (.tail _ (.head _)) ⟨by walk_at "sz", isiE_r ga (b := false) (.tail _ (.head _)) ⟨by walk_at "sz", isiE_r ga (b := false) (.tail _ (.head _)) ⟨by walk_at "sz", by walk_at "sz", fun c hc => ?_⟩⟩⟩⟩⟩⟩⟩⟩⟩⟩⟩
  exact told_5_NoBook Mem.set_same fun M' le => hq M' (Mem.le_trans (Mem.le_set hc) le)
theorem told_3n {d : D} {m : Mem} {q : DQ} (hq : q (.tup [.str "told", d]) m) : rd_law_told_3 C_NoBook C_HandError C_NoText C_NoDeed C_InUse C_NoName C_TooMany C_NoNumber C_NoMachine C_NoRow C_NoWord C_NoTurn f dl we (defEnds q) [some (.ref f), some d, some .non, none, none, none, none] m := by
  unfold rd_law_told_3
  walk_at "rf"
  rw [isND_nn]
  walk_at "rf"
  exact ⟨by walk_at "sz", defEnds_here hq⟩
theorem told_3r_NoBook {a : Addr} {M : Mem} {E : DEnds} (ga : M a = some (.exc (.ref C_NoBook))) (hq : ∀ M', M.le M' → E.rt (.tup [.str "refused", .str "NoBook"]) M') :
    rd_law_told_3 C_NoBook C_HandError C_NoText C_NoDeed C_InUse C_NoName C_TooMany C_NoNumber C_NoMachine C_NoRow C_NoWord C_NoTurn f dl we E [some (.ref f), some .non, some (.ref a), none, none, none, none] M := by
  unfold rd_law_told_3
  walk_at "rf"
  rw [isND_r]
  walk_at "rf"
  exact told_4_NoBook ga hq
theorem told_2 {m : Mem} {q : DQ} (h : sp_law_told C_NoBook dl m q) : rd_law_told_2 C_NoBook C_HandError C_NoText C_NoDeed C_InUse C_NoName C_TooMany C_NoNumber C_NoMachine C_NoRow C_NoWord C_NoTurn f dl we (defEnds q) [some (.ref f), some .non, some .non, none, none, none, none] m := by
  unfold rd_law_told_2 dTryK dAct dSeq
  refine ⟨rfl, h _ _ (fun d m' hq => told_3n hq) fun c nm m' hm hq => ?_⟩
  simp only [List.mem_cons, List.not_mem_nil, or_false, Prod.mk.injEq] at hm
  rcases hm with ⟨rfl, rfl⟩
  · refine ⟨true, (.head _), fun _ a ha => ?_, fun z => (nomatch z)⟩
    exact told_3r_NoBook Mem.set_same fun M' le => defEnds_le (Mem.le_trans (Mem.le_set ha) le) hq
end
theorem told_asg {F : DTS} {j : Nat} {E : DEnds} {ρ : DEnv} {m : Mem} {d : D} (hF : F E (ρ.set j (some d)) m) : dSeq (dAsg (dC d) (gNm j)) F E ρ m := hF
theorem rdok_law_told (C_NoBook C_HandError C_NoText C_NoDeed C_InUse C_NoName C_TooMany C_NoNumber C_NoMachine C_NoRow C_NoWord C_NoTurn : Addr) (f : Addr) (dl : DLm) {m q} (h : sp_law_told C_NoBook dl m q) :
    rd_law_told C_NoBook C_HandError C_NoText C_NoDeed C_InUse C_NoName C_TooMany C_NoNumber C_NoMachine C_NoRow C_NoWord C_NoTurn f dl (fun _ _ _ => False) (defEnds q) (startD N_law_told [.ref f]) m := told_asg (told_asg (told_2 h))

/-! ### k05: the law -/
theorem look_many (many : Nat) (b : Addr) : (bookF many b).lookup ("many" : Str) = some (D.int (many : Nat)) := by
  unfold bookF
  rw [List.lookup_cons, show (("many" : Str) == ("many" : Str)) = true by decide +kernel]
theorem look_pairs (many : Nat) (b : Addr) : (bookF many b).lookup ("pairs" : Str) = some (D.ref b) := by
  unfold bookF
  rw [List.lookup_cons, show (("pairs" : Str) == ("many" : Str)) = false by decide +kernel, List.lookup_cons, show (("pairs" : Str) == ("pairs" : Str)) = true by decide +kernel]
theorem look_m {many : Nat} {b : Addr} {x : Str} (h1 : (x == ("many" : Str)) = false) (h2 : (x == ("pairs" : Str)) = false) : (bookF many b).lookup x = none := by
  unfold bookF
  rw [List.lookup_cons, h1, List.lookup_cons, h2]
  rfl
theorem rdok_Book_letters (C : Addr) {ds m q qe} (h : sp_Book_letters C ds m q qe) : rd_Book_letters C (fun cls _ m => qe cls m) (defEnds q) (startD N_Book_letters ds) m := by
  obtain ⟨d, e0, many, P, ⟨a, b, e1, ha, hb⟩, hq⟩ := sp1_at h
  clear h
  subst e0 e1
  show rd_Book_letters C _ (defEnds q) [some (.ref a)] m
  unfold rd_Book_letters dFld
  walk_at "rf"
  exact ⟨a, _, _, rfl, ha, look_many many b, defEnds_here hq⟩
theorem rdok_Book_told (C : Addr) {ds m q qe} (h : sp_Book_told C ds m q qe) : rd_Book_told C (fun cls _ m => qe cls m) (defEnds q) (startD N_Book_told ds) m := by
  obtain ⟨d, e0, many, P, ⟨a, b, e1, ha, hb⟩, hq⟩ := sp1_at h
  clear h
  subst e0 e1
  show rd_Book_told C _ (defEnds q) [some (.ref a)] m
  unfold rd_Book_told dFld
  walk_at "rf"
  refine ⟨a, _, _, rfl, ha, look_pairs many b, ?_⟩
  rw [listD_r hb]
  exact fun c hc => defEnds_here (hq c hc)
theorem turn_memb {t : List Int} (ok : isTurnL t = true) {x : Int} (h : x ∈ t) : 0 ≤ x ∧ x < t.length := by
  simp only [isTurnL, Bool.and_eq_true, decide_eq_true_eq] at ok
  exact mem_rngI.mp (ok.2.mem_iff.mp h)
/-- a method of the book at a slot, with no argument -/
theorem meth0 {C a b : Addr} {many : Nat} {mn : Str} {sp : DSp} {we : DWX} {i : Nat} {ρ : DEnv} {m : Mem} {q : DQ} (hρ : ρ[i]? = some (some (.ref a))) (ha : m a = some (.ins C (bookF many b))) (h1 : (mn == ("many" : Str)) = false) (h2 : (mn == ("pairs" : Str)) = false)
    (h : sp [.ref a] m q fun cls m3 => we cls ρ m3) : dMeth C mn sp we (dVar i) dNil ρ m q := by
  unfold dMeth dVar
  rw [hρ]
  exact ⟨a, _, rfl, ha, look_m h1 h2, h⟩
def bookP (many : Nat) (P : Prs) : PyData := .tuple [.int (many : Nat), .list (P.map pairP)]
theorem okP_pair {many hands : Nat} {p : List Int × List Int} (h6 : hands ≤ 6) (h4 : many ≤ 4) (h : IsPair many hands p) : OkP (pairP p) 1002 2 := by
  have t1 : OkW p.1 := ⟨by rw [h.len1]; omega, fun x hx => by
    have := turn_memb h.turn hx
    have := h.len1
    omega⟩
  have t2 : OkW p.2 := ⟨by rw [h.len2]; omega, fun x hx => by
    have := h.on x hx
    omega⟩
  exact (OkPs.cons (okP_row t1) (OkPs.cons (okP_row t2) (OkPs.nil (w := 0)) (Nat.le_refl _)) (Nat.le_refl _)).tup (Nat.le_refl _)
theorem okPs_all {α : Type} {f : α → PyData} {w d : Nat} : ∀ {xs : List α}, (∀ x ∈ xs, OkP (f x) w d) → OkPs (xs.map f) (xs.length * (w + 1)) d
  | [], _ => OkPs.nil
  | x :: xs, h => OkPs.cons (h x List.mem_cons_self) (okPs_all fun y hy => h y (List.mem_cons_of_mem _ hy)) (by rw [List.length_cons, Nat.add_mul]; omega)
theorem okP_pairs {many : Nat} {P : Prs} (ok : IsBook many P) : OkP (.list (P.map pairP)) 7000 3 := by
  have h := okPs_all (f := pairP) (w := 1002) (d := 2) (xs := P) fun p hp => okP_pair ok.most ok.four (ok.pair p hp)
  refine (h.lst (e := 3) (Nat.le_refl _)).mono ?_ (Nat.le_refl _)
  have := ok.most
  have : P.length * (1002 + 1) ≤ 6 * 1003 := Nat.mul_le_mul_right _ ok.most
  omega
theorem pyD_book {m : Mem} {b : Addr} {many : Nat} {P : Prs} (h : m b = some (.lst (P.map pairD))) : pyD m (.tup [.int (many : Nat), .ref b]) = some (bookP many P) := by
  unfold pyD bookP
  rw [pyW, pyWs, pyW, pyWs, pyW, show pyA m 3 b = some (.list (P.map pairP)) by unfold pyA; rw [h]; show (pyWs (pyA m 2) (P.map pairD)).map PyData.list = _; rw [pyWs_pairs]; rfl, pyWs]
  rfl
theorem okP_book {many : Nat} {P : Prs} (ok : IsBook many P) : OkP (bookP many P) 8000 4 := by
  have := ok.four
  exact (OkPs.cons ((okP_int (by omega) (by omega)).mono (Nat.le_refl _) (by decide)) (OkPs.cons (okP_pairs ok) (OkPs.nil (w := 0)) (Nat.le_refl _)) (Nat.le_refl _)).tup (e := 4) (by decide) |>.mono (by decide) (Nat.le_refl _)
theorem repr_book {m : Mem} {b : Addr} {many : Nat} {P : Prs} {q : DQ} (ok : IsBook many P) (h : m b = some (.lst (P.map pairD))) (hq : q (.str (bookP many P).shown) m) : reprX [.tup [.int (many : Nat), .ref b]] m q := by
  rw [reprX_t]
  exact reprOf_ok (pyD_book h) ((okP_book ok).ok (by decide) (by decide)) hq
section
variable {C X T : Addr} {qe : Value → Mem → Prop} {q : DQ} {E : DEnds}
/-- the book told or the refusal that is due -/
theorem k05_f4 {sc : List Int} {x1 x2 x3 : Option D} {S R W B : D} {b : Bool} {m : Mem} (hS : OddD m S) (hB : BookB m S R b)
    (hn : b = false → W = .str "refused" ∧ B = .str "NoBook") (hy : b = true → W = .str "told" ∧ ∃ (many : Nat) (P : Prs), S = .int (many : Nat) ∧ RowsT m R (P.map pairD) ∧ IsBook many P ∧ BookAt C m B many P) (hE : ∀ M, m.le M → E.nx [some (.rol (sc.map D.int)), x1, x2, x3, some S, some R, some W, some B] M) :
    rd_law_0f4 C X T (fun cls _ m => qe cls m) E [some (.rol (sc.map D.int)), x1, x2, x3, some S, some R, some W, some B] m := by
  unfold rd_law_0f4
  walk_at "rf"
  refine ⟨hS, b, hB, ?_⟩
  cases b with
  | false =>
    obtain ⟨rfl, rfl⟩ := hn rfl
    walk_at "rf"
    refine ⟨by walk_at "sz", by walk_at "sz", ?_⟩
    have e : pyD m (.tup [.str "refused", .str "NoBook"]) = some (.tuple [.str "refused", .str "NoBook"]) := rfl
    unfold neD
    dsimp only
    rw [e]
    refine ⟨by decide +kernel, by decide +kernel, ?_⟩
    rw [show PyData.eqv (.tuple [.str "refused", .str "NoBook"]) (.tuple [.str "refused", .str "NoBook"]) = true by decide +kernel]
    exact hE m (Mem.le_refl m)
  | true =>
    obtain ⟨rfl, many, P, rfl, hR, ok, a, r, rfl, ga, gr⟩ := hy rfl
    walk_at "rf"
    refine meth0 rfl ga (by decide +kernel) (by decide +kernel) ⟨many, P, ⟨a, r, rfl, ga, gr⟩, ?_⟩
    refine meth0 rfl ga (by decide +kernel) (by decide +kernel) ⟨many, P, ⟨a, r, rfl, ga, gr⟩, fun s1 hs1 => ?_⟩
    have le1 := Mem.le_set (o := .lst (P.map pairD)) hs1
    refine ⟨by walk_at "sz", repr_book ok Mem.set_same ?_⟩
    have hR1 := hR.le le1
    generalize m.set s1 (.lst (P.map pairD)) = m1 at le1 hR1 ⊢
    have hl : ∀ {k : List D → Mem → Prop}, listD R m1 k = k (P.map pairD) m1 := fun {k} => by
      rcases hR1.1 with rfl | ⟨g, rfl, hg⟩
      · rfl
      · exact listD_r hg
    rw [hl]
    intro s2 hs2
    refine ⟨by walk_at "sz", repr_book ok Mem.set_same ?_⟩
    refine ne_str ?_
    walk_at "rf"
    exact hE _ (Mem.le_trans le1 (Mem.le_set hs2))
theorem BookB.le {m M : Mem} {S R : D} {b : Bool} (h : BookB m S R b) (l : m.le M) : BookB M S R b := by
  rcases h with ⟨ds, h, e⟩ | ⟨h, e⟩
  · exact .inl ⟨ds, h.le l, e⟩
  · exact .inr ⟨h.le l, e⟩
theorem told_make {m : Mem} {S R : D} {b : Bool} {Q k : DQ} {ke : Value → Mem → Prop} (hS : OddD m S) (hB : BookB m S R b) (hn : b = false → ∀ M, m.le M → Q (.tup [.str "refused", .str "NoBook"]) M)
    (hy : b = true → ∀ (M : Mem) (o : Addr) (many : Nat) (P : Prs), m.le M → S = .int (many : Nat) → RowsT M R (P.map pairD) → IsBook many P → BookAt C M (.ref o) many P → Q (.tup [.str "told", .ref o]) M)
    (hk : ∀ d m', Q (.tup [.str "told", d]) m' → k d m') (hke : ∀ (c : Addr) (nm : Str) m', (c, nm) ∈ [(X, ("NoBook" : Str))] → Q (.tup [.str "refused", .str nm]) m' → ke (.ref c) m') :
    ∀ a, m a = none → sp_Book___init__ C X [.ref a, S, R] (m.set a (.ins C [])) (fun d m2 => d = .non ∧ k (.ref a) m2) fun cls m3 => ke cls m3 := fun a ha => by
  have le := Mem.le_set (o := .ins C []) ha
  refine ⟨a, b, rfl, Mem.set_same, hS.le le, hB.le le, fun many P eS hR ok hb r hr => ⟨rfl, ?_⟩, fun hb => hke X _ _ List.mem_cons_self (hn hb _ le)⟩
  have ra : r ≠ a := fun z => by subst z; rw [Mem.set_same] at hr; cases hr
  have hr' : m r = none := by rw [Mem.set_ne ra] at hr; exact hr
  refine hk _ _ (hy hb _ a many P ?_ eS ?_ ok ⟨a, r, rfl, Mem.set_same, by rw [Mem.set_ne ra, Mem.set_same]⟩)
  all_goals rw [Mem.set_comm ra.symm, Mem.set_set]
  all_goals have l2 : m.le ((m.set r (.lst (P.map pairD))).set a (.ins C (bookF many r))) := Mem.le_trans (Mem.le_set hr') (Mem.le_set (by rw [Mem.set_ne ra.symm]; exact ha))
  · exact l2
  · have : RowsT m R (P.map pairD) := by
      rcases hB with ⟨ds, h, _⟩ | ⟨h, e⟩
      · rcases h.1 with rfl | ⟨g, rfl, hg⟩
        · rcases hR.1 with e | ⟨g, e, _⟩
          · injection e with e; rw [← e]; exact h
          · cases e
        · rcases hR.1 with e | ⟨g', e, hg'⟩
          · cases e
          · cases e
            have := le _ _ hg
            rw [this] at hg'
            injection hg' with hg'
            injection hg' with hg'
            rw [← hg']; exact h
      · rw [e] at hb; cases hb
    exact this.le l2
theorem told_of {m : Mem} {S R : D} {b : Bool} {Q : DQ} {dl : DLm} (hS : OddD m S) (hB : BookB m S R b)
    (hdl : ∀ k ke, (∀ a, m a = none → sp_Book___init__ C X [.ref a, S, R] (m.set a (.ins C [])) (fun d m2 => d = .non ∧ k (.ref a) m2) fun cls m3 => ke cls m3) → dl m k ke)
    (hn : b = false → ∀ M, m.le M → Q (.tup [.str "refused", .str "NoBook"]) M)
    (hy : b = true → ∀ (M : Mem) (o : Addr) (many : Nat) (P : Prs), m.le M → S = .int (many : Nat) → RowsT M R (P.map pairD) → IsBook many P → BookAt C M (.ref o) many P → Q (.tup [.str "told", .ref o]) M) : sp_law_told X dl m Q :=
  fun k ke hk hke => hdl k ke (told_make hS hB hn hy hk hke)
end
theorem rdok_law (C X T : Addr) {cc : Addr} {ds m q qe} (h : spLawT 63 [(cc, T, lamQ "law")] ds m q qe) : rd_law C X T (fun cls _ m => qe cls m) (defEnds q) (startD N_law ds) m := by
  obtain ⟨d, e0, sc, e1, hsc, hT, hq⟩ := sp1_at h
  have ht := hT _ List.mem_cons_self
  clear h hT
  subst e0 e1
  show rd_law C X T _ (defEnds q) [some (.rol (sc.map D.int)), none, none, none, none, none, none, none] m
  unfold rd_law
  walk_at "rf"
  refine ⟨by split <;> omega, by split <;> omega, ?_⟩
  generalize (if ((sc.length : Nat) : Int) > 1 then ((sc.length : Nat) : Int) else 1).toNat = nn
  refine for_inv (fun items ρ m' => ∃ (i n : Nat) (y1 y2 y3 y4 y5 y6 y7 : Option D), items = rngD ((i : Nat) : Int) n ∧ m' T = some (.tbl (lamQ "law")) ∧ ρ = [some (.rol (sc.map D.int)), y1, y2, y3, y4, y5, y6, y7])
    (fun _ _ _ _ => trivial) (fun ρ m' hP => ?_) (fun d' r ρ m' hP N hN => ?_) _ _ _ ⟨0, nn, _, _, _, _, _, _, _, rfl, ht, rfl⟩
  · obtain ⟨i, n, y1, y2, y3, y4, y5, y6, y7, e, hT, rfl⟩ := hP
    unfold rd_law_1
    walk_at "rf"
    exact defEnds_here (hq _)
  · obtain ⟨i, n, y1, y2, y3, y4, y5, y6, y7, e, hT, rfl⟩ := hP
    cases n with
    | zero => cases e
    | succ n =>
    rw [rngD_succ] at e
    obtain ⟨rfl, rfl⟩ := List.cons.inj e
    have hNN := fun y2 y3 y4 y5 y6 y7 M (l : M T = some (.tbl (lamQ "law"))) => hN [some (.rol (sc.map D.int)), some (.int ((i : Nat) : Int)), y2, y3, y4, y5, y6, y7] M ⟨i + 1, n, _, _, _, _, _, _, _, rfl, l, rfl⟩
    clear hN e
    walk_at "rf"
    unfold rd_law_0f
    walk_at "rf"
    refine ⟨sc, i, rfl, rfl, fun n0 s hs => ?_⟩
    have Ts : T ≠ s := fun z => by subst z; rw [hs] at hT; cases hT
    have hT1 := Mem.le_set (o := .lst [.int n0]) hs _ _ hT
    have K0 : Kp (m'.set s (.lst [.int n0])) (m'.set s (.lst [.int n0])) s := Kp.start Mem.set_same
    unfold rd_law_0f1
    walk_at "rf"
    refine nx_kp K0 (by omega) (by omega) fun c M1 c0 c1 K1 _ => ?_
    walk_at "rf"
    unfold rd_law_0f2
    walk_at "rf"
    obtain ⟨n1, g1⟩ := K1.cell
    refine ⟨s, n1, rfl, g1, fun S R M2 KS hS hR => ?_⟩
    have hT2 := KS.keep _ _ Ts (K1.keep _ _ Ts hT1)
    clear hT1 K0 K1 g1 KS hs
    walk_at "rf"
    refine ⟨rfl, ?_⟩
    unfold rd_law_0f3
    walk_at "rf"
    obtain ⟨b, hB⟩ : ∃ b, BookB M2 S R b := by
      rcases hR with ⟨ds, h⟩ | h
      · exact ⟨_, .inl ⟨ds, h, rfl⟩⟩
      · exact ⟨false, .inr ⟨h, rfl⟩⟩
    have four : ∀ (W B : D) (M : Mem), M2.le M → (b = false → W = .str "refused" ∧ B = .str "NoBook") → (b = true → W = .str "told" ∧ ∃ (many : Nat) (P : Prs), S = .int (many : Nat) ∧ RowsT M R (P.map pairD) ∧ IsBook many P ∧ BookAt C M B many P) →
        rd_law_0f4 C X T (fun cls _ m => qe cls m) { nx := dn N, rt := (defEnds q).rt, bk := rd_law_1 C X T (fun cls _ m => qe cls m) (defEnds q), ct := dn N } [some (.rol (sc.map D.int)), some (.int ((i : Nat) : Int)), some (.ref s), some (.bl (c == 1)), some S, some R, some W, some B] M := fun W B M le hn hy => by
      refine k05_f4 (hS.le le) (hB.le le) hn hy fun M' l => ?_
      exact dn_here (hNN _ _ _ _ _ _ _ (l _ _ (le _ _ hT2)))
    have no : b = false → ∀ M, M2.le M → gTp 2 (gCn (gNm 6) (gCn (gNm 7) gNl)) (.tup [.str "refused", .str "NoBook"]) [some (.rol (sc.map D.int)), some (.int ((i : Nat) : Int)), some (.ref s), some (.bl (c == 1)), some S, some R, y6, y7] M (rd_law_0f4 C X T (fun cls _ m => qe cls m) { nx := dn N, rt := (defEnds q).rt, bk := rd_law_1 C X T (fun cls _ m => qe cls m) (defEnds q), ct := dn N }) := fun hb M le => by
      walk_at "rf"
      exact ⟨rfl, four _ _ M le (fun _ => ⟨rfl, rfl⟩) fun z => by rw [hb] at z; cases z⟩
    have yes : b = true → ∀ (M : Mem) (o : Addr) (many : Nat) (P : Prs), M2.le M → S = .int (many : Nat) → RowsT M R (P.map pairD) → IsBook many P → BookAt C M (.ref o) many P → gTp 2 (gCn (gNm 6) (gCn (gNm 7) gNl)) (.tup [.str "told", .ref o]) [some (.rol (sc.map D.int)), some (.int ((i : Nat) : Int)), some (.ref s), some (.bl (c == 1)), some S, some R, y6, y7] M (rd_law_0f4 C X T (fun cls _ m => qe cls m) { nx := dn N, rt := (defEnds q).rt, bk := rd_law_1 C X T (fun cls _ m => qe cls m) (defEnds q), ct := dn N }) := fun hb M o many P le eS hR ok bk => by
      walk_at "rf"
      exact ⟨rfl, four _ _ M le (fun z => by rw [hb] at z; cases z) fun _ => ⟨rfl, many, P, eS, hR, ok, bk⟩⟩
    by_cases hc : (c == 1) = true
    · rw [if_pos hc]
      unfold dLam
      refine ⟨hT2, told_of hS hB (fun k ke h => ?_) no yes⟩
      unfold dMakeK
      walk_at "rf"
      exact ⟨rfl, h⟩
    · rw [if_neg hc]
      unfold dLam
      refine ⟨hT2, told_of hS hB (fun k ke h => ?_) no yes⟩
      unfold dMake
      walk_at "rf"
      exact h

def clsB : Stmt → List Stmt
  | .ClassDef (body := b) .. => b
  | _ => []
def topS (i : Nat) : Stmt := PySem.Challenge.pw_letterhand_k05_books_refused.main.body.getD i (.Pass ⟨0, 0, 0, 0⟩)
abbrev s_is_whole : Stmt := topS 17
theorem sc_is_whole : FnScope ["thing"] ["thing"] (defScope s_is_whole) := ⟨rfl, rfl, rfl, by decide +kernel, rfl, by decide +kernel, by decide +kernel⟩
abbrev s_is_between : Stmt := topS 18
theorem sc_is_between : FnScope ["thing", "least", "most"] ["thing", "least", "most"] (defScope s_is_between) := ⟨rfl, rfl, rfl, by decide +kernel, rfl, by decide +kernel, by decide +kernel⟩
abbrev s_is_turn : Stmt := topS 19
theorem sc_is_turn : FnScope ["thing", "letter"] ["thing"] (defScope s_is_turn) := ⟨rfl, rfl, rfl, by decide +kernel, rfl, by decide +kernel, by decide +kernel⟩
abbrev s_is_hand : Stmt := topS 23
theorem sc_is_hand : FnScope ["thing", "many", "hands", "step"] ["thing", "many", "hands"] (defScope s_is_hand) := ⟨rfl, rfl, rfl, by decide +kernel, rfl, by decide +kernel, by decide +kernel⟩
abbrev s_are_hands : Stmt := topS 24
theorem sc_are_hands : FnScope ["thing", "many", "one"] ["thing", "many"] (defScope s_are_hands) := ⟨rfl, rfl, rfl, by decide +kernel, rfl, by decide +kernel, by decide +kernel⟩
abbrev s_Book___init__ : Stmt := (clsB (topS 25)).getD 0 (.Pass ⟨0, 0, 0, 0⟩)
theorem sc_Book___init__ : FnScope ["self", "many", "hands"] ["self", "many", "hands"] (defScope s_Book___init__) := ⟨rfl, rfl, rfl, by decide +kernel, rfl, by decide +kernel, by decide +kernel⟩
abbrev s_Book_letters : Stmt := (clsB (topS 25)).getD 3 (.Pass ⟨0, 0, 0, 0⟩)
theorem sc_Book_letters : FnScope ["self"] ["self"] (defScope s_Book_letters) := ⟨rfl, rfl, rfl, by decide +kernel, rfl, by decide +kernel, by decide +kernel⟩
abbrev s_Book_told : Stmt := (clsB (topS 25)).getD 6 (.Pass ⟨0, 0, 0, 0⟩)
theorem sc_Book_told : FnScope ["self"] ["self"] (defScope s_Book_told) := ⟨rfl, rfl, rfl, by decide +kernel, rfl, by decide +kernel, by decide +kernel⟩
abbrev s_law_state : Stmt := topS 27
theorem sc_law_state : FnScope ["_law_script", "_law_k", "_law_cell", "_law_primes", "_law_found", "_law_j", "_law_prime", "_law_one"] ["_law_script", "_law_k"] (defScope s_law_state) := ⟨rfl, rfl, rfl, by decide +kernel, rfl, by decide +kernel, by decide +kernel⟩
abbrev s_law_next : Stmt := topS 28
theorem sc_law_next : FnScope ["_law_state_here", "_law_size", "_law_found"] ["_law_state_here", "_law_size"] (defScope s_law_next) := ⟨rfl, rfl, rfl, by decide +kernel, rfl, by decide +kernel, by decide +kernel⟩
abbrev s_law_turn : Stmt := topS 29
theorem sc_law_turn : FnScope ["_law_state_here", "_law_size", "_law_left", "_law_k"] ["_law_state_here", "_law_size"] (defScope s_law_turn) := ⟨rfl, rfl, rfl, by decide +kernel, rfl, by decide +kernel, by decide +kernel⟩
abbrev s_law_pairs : Stmt := topS 30
theorem sc_law_pairs : FnScope ["_law_state_here", "_law_size", "_law_rows", "_law_pairs_here", "_law_k", "_law_turn_here", "_law_j", "_law_onward"] ["_law_state_here"] (defScope s_law_pairs) := ⟨rfl, rfl, rfl, by decide +kernel, rfl, by decide +kernel, by decide +kernel⟩
abbrev s_law_odd : Stmt := topS 31
theorem sc_law_odd : FnScope ["_law_state_here", "_law_some"] ["_law_state_here"] (defScope s_law_odd) := ⟨rfl, rfl, rfl, by decide +kernel, rfl, by decide +kernel, by decide +kernel⟩
abbrev s_law_spoilt : Stmt := topS 32
theorem sc_law_spoilt : FnScope ["_law_state_here", "_law_hand", "_law_rows", "_law_choice", "_law_at", "_law_odd_here", "_law_number", "_law_turn_here", "_law_onward"] ["_law_state_here", "_law_hand", "_law_rows"] (defScope s_law_spoilt) := ⟨rfl, rfl, rfl, by decide +kernel, rfl, by decide +kernel, by decide +kernel⟩
abbrev s_law_thing : Stmt := topS 33
theorem sc_law_thing : FnScope ["_law_state_here", "_law_choice", "_law_at", "_law_odd_here", "_law_number", "_law_as_list", "_law_size", "_law_pairs_here"] ["_law_state_here"] (defScope s_law_thing) := ⟨rfl, rfl, rfl, by decide +kernel, rfl, by decide +kernel, by decide +kernel⟩
abbrev s_law_whole : Stmt := topS 34
theorem sc_law_whole : FnScope ["_law_thing_here", "_law_low", "_law_most"] ["_law_thing_here", "_law_low", "_law_most"] (defScope s_law_whole) := ⟨rfl, rfl, rfl, by decide +kernel, rfl, by decide +kernel, by decide +kernel⟩
abbrev s_law_is_hand : Stmt := topS 35
theorem sc_law_is_hand : FnScope ["_law_thing_here", "_law_size", "_law_rows", "_law_turn_here", "_law_onward", "_law_one", "_law_k", "_law_step"] ["_law_thing_here", "_law_size", "_law_rows"] (defScope s_law_is_hand) := ⟨rfl, rfl, rfl, by decide +kernel, rfl, by decide +kernel, by decide +kernel⟩
abbrev s_law_is_book : Stmt := topS 36
theorem sc_law_is_book : FnScope ["_law_size", "_law_rows", "_law_one"] ["_law_size", "_law_rows"] (defScope s_law_is_book) := ⟨rfl, rfl, rfl, by decide +kernel, rfl, by decide +kernel, by decide +kernel⟩
abbrev s_law_told : Stmt := topS 37
theorem sc_law_told : FnScope ["_law_work", "_law_found", "_law_error", "e", "_law_marks", "_law_name", "_law_there"] ["_law_work"] (defScope s_law_told) := ⟨rfl, rfl, rfl, by decide +kernel, rfl, by decide +kernel, by decide +kernel⟩
abbrev s_law : Stmt := topS 38
theorem sc_law : FnScope ["_law_script", "_law_k", "_law_state_here", "_law_named", "_law_size", "_law_rows", "_law_word", "_law_book"] ["_law_script"] (defScope s_law) := ⟨rfl, rfl, rfl, by decide +kernel, rfl, by decide +kernel, by decide +kernel⟩
section
variable {P : Program} {w : World} {K : PySem.W.Frag} {mg : Str → Option Value} {base : Heap}
def mk_is_whole {f : Addr} {fd : FuncData} (F : Fun K "is_whole" "is_whole" s_is_whole f fd) (g : mg "is_whole" = some (.ref f)) (z_int : mg "int" = none) (z_isinstance : mg "isinstance" = none) (z_bool : mg "bool" = none) : DefAt P w K mg base 1 "is_whole" ["thing"] sp_is_whole where
  f := f
  fd := fd
  g := g
  kp := F.kp
  b := F.binds (ps := ["thing"]) fun _ _ _ _ _ _ us hl => match us, hl with | [_], _ => rfl
  ok := by
    have sc := sc_is_whole
    refine fnD_of F sc (fun h => sp1_len h) fun cdv A outer s H E B qe hr tk po => ?_
    refine ⟨rd_is_whole (fun cls _ m => qe cls m), (dss_one (ds_ret (de_and (de_callB c_isi (by rfl) z_isinstance (by decide +kernel) (da_cons (de_var 0) (da_cons (de_ty (by rfl) z_int (by decide +kernel)) da_nil))) (de_one (de_not (de_callB c_isi (by rfl) z_isinstance (by decide +kernel) (da_cons (de_var 0) (da_cons (de_ty (by rfl) z_bool (by decide +kernel)) da_nil)))))))), fun ds m q h => rdok_is_whole h⟩
def mk_is_between {f : Addr} {fd : FuncData} (F : Fun K "is_between" "is_between" s_is_between f fd) (g : mg "is_between" = some (.ref f)) (d_is_whole : DefAt P w K mg base 1 "is_whole" ["thing"] sp_is_whole) : DefAt P w K mg base 2 "is_between" ["thing", "least", "most"] sp_is_between where
  f := f
  fd := fd
  g := g
  kp := F.kp
  b := F.binds (ps := ["thing", "least", "most"]) fun _ _ _ _ _ _ us hl => match us, hl with | [_, _, _], _ => rfl
  ok := by
    have sc := sc_is_between
    refine fnD_of F sc (fun h => sp3_len h) fun cdv A outer s H E B qe hr tk po => ?_
    refine ⟨rd_is_between (fun cls _ m => qe cls m), (dss_one (ds_ret (de_and (de_callD d_is_whole (hr.mono (by decide)) (by rfl) tk (da_cons (de_var 0) da_nil)) (de_one (de_chain d_le d_le (de_var 1) (de_var 0) (de_var 2)))))), fun ds m q h => rdok_is_between h⟩
def mk_is_turn {f : Addr} {fd : FuncData} (F : Fun K "is_turn" "is_turn" s_is_turn f fd) (g : mg "is_turn" = some (.ref f)) (z_tuple : mg "tuple" = none) (z_isinstance : mg "isinstance" = none) (i_LEAST_MANY   : GI mg "LEAST_MANY" 2) (z_len : mg "len" = none) (i_MOST_MANY   : GI mg "MOST_MANY" 4) (d_is_between : DefAt P w K mg base 2 "is_between" ["thing", "least", "most"] sp_is_between) (z_all : mg "all" = none) (z_sorted : mg "sorted" = none) (z_list : mg "list" = none) (z_range : mg "range" = none) : DefAt P w K mg base 3 "is_turn" ["thing"] sp_is_turn where
  f := f
  fd := fd
  g := g
  kp := F.kp
  b := F.binds (ps := ["thing"]) fun _ _ _ _ _ _ us hl => match us, hl with | [_], _ => rfl
  ok := by
    have sc := sc_is_turn
    refine fnD_of F sc (fun h => sp1_len h) fun cdv A outer s H E B qe hr tk po => ?_
    refine ⟨rd_is_turn (fun cls _ m => qe cls m), (dss_cons (ds_if (dt_w (dw_or (dt_not (dt_truth (de_callB c_isi (by rfl) z_isinstance (by decide +kernel) (da_cons (de_var 0) (da_cons (de_ty (by rfl) z_tuple (by decide +kernel)) da_nil))))) (dw_or1 (dt_not (dt_chain d_le d_le (de_gi i_LEAST_MANY (by rfl)) (de_callB c_len (by rfl) z_len (by decide +kernel) (da_cons (de_var 0) da_nil)) (de_gi i_MOST_MANY (by rfl))))))) (dss_one (ds_ret de_bl)) dss_nil)
  (dss_cons (ds_if (dt_not (dt_truth (de_newB (n_all rfl) (by rfl) z_all (by decide +kernel) (dl_comp [("letter", 1)] rfl sc.nd (di_seq (de_var 0)) (blkOk_by (N := ["thing", "letter"]) (sc := defScope s_is_turn) (by decide +kernel)) (fun _ _ _ _ _ => (dg_name (i := 1) sc.nd)) (fun _ _ _ _ _ => dts_nil) (fun _ _ _ _ _ => (de_callD d_is_between (hr.mono (by decide)) (by rfl) takesN (da_cons (de_var 1) (da_cons de_int (da_cons (de_op d_sub (de_callB c_len (by rfl) z_len (by decide +kernel) (da_cons (de_var 0) da_nil)) de_int) da_nil))))))))) (dss_one (ds_ret de_bl)) dss_nil)
  (dss_one (ds_ret (de_eqNN hr.units (dl_callB l_sorted (by rfl) z_sorted (by decide +kernel) (de_var 0)) (dl_listRg1 rfl (by rfl) z_list (by rfl) z_range (de_callB c_len (by rfl) z_len (by decide +kernel) (da_cons (de_var 0) da_nil)))))))), fun ds m q h => rdok_is_turn h⟩
def mk_is_hand {f : Addr} {fd : FuncData} (F : Fun K "is_hand" "is_hand" s_is_hand f fd) (g : mg "is_hand" = some (.ref f)) (z_tuple : mg "tuple" = none) (z_isinstance : mg "isinstance" = none) (z_len : mg "len" = none) (d_is_turn : DefAt P w K mg base 3 "is_turn" ["thing"] sp_is_turn) (d_is_between : DefAt P w K mg base 2 "is_between" ["thing", "least", "most"] sp_is_between) (z_all : mg "all" = none) : DefAt P w K mg base 4 "is_hand" ["thing", "many", "hands"] sp_is_hand where
  f := f
  fd := fd
  g := g
  kp := F.kp
  b := F.binds (ps := ["thing", "many", "hands"]) fun _ _ _ _ _ _ us hl => match us, hl with | [_, _, _], _ => rfl
  ok := by
    have sc := sc_is_hand
    refine fnD_of F sc (fun h => sp3_len h) fun cdv A outer s H E B qe hr tk po => ?_
    refine ⟨rd_is_hand (fun cls _ m => qe cls m), (dss_cons (ds_if (dt_w (dw_or (dt_not (dt_truth (de_callB c_isi (by rfl) z_isinstance (by decide +kernel) (da_cons (de_var 0) (da_cons (de_ty (by rfl) z_tuple (by decide +kernel)) da_nil))))) (dw_or (dt_cmp (d_ne hr.units) (de_callB c_len (by rfl) z_len (by decide +kernel) (da_cons (de_var 0) da_nil)) de_int (nomark _)) (dw_or (dt_not (dt_truth (de_callD d_is_turn (hr.mono (by decide)) (by rfl) tk (da_cons (de_ix (de_var 0) de_int) da_nil)))) (dw_or1 (dt_cmp (d_ne hr.units) (de_callB c_len (by rfl) z_len (by decide +kernel) (da_cons (de_ix (de_var 0) de_int) da_nil)) (de_var 1) (nomark _))))))) (dss_one (ds_ret de_bl)) dss_nil)
  (dss_cons (ds_if (dt_w (dw_or (dt_not (dt_truth (de_callB c_isi (by rfl) z_isinstance (by decide +kernel) (da_cons (de_ix (de_var 0) de_int) (da_cons (de_ty (by rfl) z_tuple (by decide +kernel)) da_nil))))) (dw_or1 (dt_cmp (d_ne hr.units) (de_callB c_len (by rfl) z_len (by decide +kernel) (da_cons (de_ix (de_var 0) de_int) da_nil)) (de_var 1) (nomark _))))) (dss_one (ds_ret de_bl)) dss_nil)
  (dss_one (ds_ret (de_newB (n_all rfl) (by rfl) z_all (by decide +kernel) (dl_comp [("step", 3)] rfl sc.nd (di_seq (de_ix (de_var 0) de_int)) (blkOk_by (N := ["thing", "many", "hands", "step"]) (sc := defScope s_is_hand) (by decide +kernel)) (fun _ _ _ _ _ => (dg_name (i := 3) sc.nd)) (fun _ _ _ _ _ => dts_nil) (fun _ _ _ _ _ => (de_callD d_is_between (hr.mono (by decide)) (by rfl) takesN (da_cons (de_var 3) (da_cons (de_un d_neg (de_var 2)) (da_cons (de_var 2) da_nil))))))))))), fun ds m q h => rdok_is_hand h⟩
def mk_are_hands {f : Addr} {fd : FuncData} (F : Fun K "are_hands" "are_hands" s_are_hands f fd) (g : mg "are_hands" = some (.ref f)) (z_tuple : mg "tuple" = none) (z_list : mg "list" = none) (z_isinstance : mg "isinstance" = none) (z_len : mg "len" = none) (i_MOST_HANDS   : GI mg "MOST_HANDS" 6) (d_is_hand : DefAt P w K mg base 4 "is_hand" ["thing", "many", "hands"] sp_is_hand) (z_all : mg "all" = none) : DefAt P w K mg base 5 "are_hands" ["thing", "many"] sp_are_hands where
  f := f
  fd := fd
  g := g
  kp := F.kp
  b := F.binds (ps := ["thing", "many"]) fun _ _ _ _ _ _ us hl => match us, hl with | [_, _], _ => rfl
  ok := by
    have sc := sc_are_hands
    refine fnD_of F sc (fun h => sp2_len h) fun cdv A outer s H E B qe hr tk po => ?_
    refine ⟨rd_are_hands (fun cls _ m => qe cls m), (dss_cons (ds_if (dt_w (dw_or (dt_not (dt_truth (de_callB c_isi (by rfl) z_isinstance (by decide +kernel) (da_cons (de_var 0) (da_cons (de_tup (da_cons (de_ty (by rfl) z_list (by decide +kernel)) (da_cons (de_ty (by rfl) z_tuple (by decide +kernel)) da_nil))) da_nil))))) (dw_or1 (dt_cmp d_gt (de_callB c_len (by rfl) z_len (by decide +kernel) (da_cons (de_var 0) da_nil)) (de_gi i_MOST_HANDS (by rfl)) (nomark _))))) (dss_one (ds_ret de_bl)) dss_nil)
  (dss_one (ds_ret (de_newB (n_all rfl) (by rfl) z_all (by decide +kernel) (dl_comp [("one", 2)] rfl sc.nd (di_seq (de_var 0)) (blkOk_by (N := ["thing", "many", "one"]) (sc := defScope s_are_hands) (by decide +kernel)) (fun _ _ _ _ _ => (dg_name (i := 2) sc.nd)) (fun _ _ _ _ _ => dts_nil) (fun _ _ _ _ _ => (de_callD d_is_hand (hr.mono (by decide)) (by rfl) takesN (da_cons (de_var 2) (da_cons (de_var 1) (da_cons (de_callB c_len (by rfl) z_len (by decide +kernel) (da_cons (de_var 0) da_nil)) da_nil)))))))))), fun ds m q h => rdok_are_hands h⟩
def mk_Book___init__ {C_Book : Addr} {C_NoBook : Addr} {f : Addr} {fd : FuncData} (F : Fun K "__init__" "Book.__init__" s_Book___init__ f fd) (me : Meth K C_Book "__init__" f) (g_Book : mg "Book" = some (.ref C_Book)) (g_NoBook : mg "NoBook" = some (.ref C_NoBook)) (d_is_between : DefAt P w K mg base 2 "is_between" ["thing", "least", "most"] sp_is_between) (i_MOST_MANY   : GI mg "MOST_MANY" 4) (i_LEAST_MANY   : GI mg "LEAST_MANY" 2) (d_are_hands : DefAt P w K mg base 5 "are_hands" ["thing", "many"] sp_are_hands) (x_NoBook : ExcF K mg "NoBook" C_NoBook) (cl_Book : Cls K C_Book) (na_Book_many : NoAttr K C_Book "many") (na_Book_pairs : NoAttr K C_Book "pairs") (z_list : mg "list" = none) : MethAt P w K mg base 6 C_Book "__init__" ["self", "many", "hands"] (sp_Book___init__ C_Book C_NoBook) where
  f := f
  fd := fd
  me := me
  b := F.binds (ps := ["self", "many", "hands"]) fun _ _ _ _ _ _ us hl => match us, hl with | [_, _, _], _ => rfl
  ok := by
    have sc := sc_Book___init__
    refine fnD_of F sc (fun h => sp3_len h) fun cdv A outer s H E B qe hr tk po => ?_
    refine ⟨rd_Book___init__ C_Book C_NoBook (fun cls _ m => qe cls m), (dss_cons (ds_if (dt_w (dw_or (dt_not (dt_truth (de_callD d_is_between (hr.mono (by decide)) (by rfl) tk (da_cons (de_var 1) (da_cons (de_gi i_LEAST_MANY (by rfl)) (da_cons (de_gi i_MOST_MANY (by rfl)) da_nil)))))) (dw_or1 (dt_not (dt_truth (de_callD d_are_hands (hr.mono (by decide)) (by rfl) tk (da_cons (de_var 2) (da_cons (de_var 1) da_nil)))))))) (dss_one (ds_raise rfl tk (pmk_own PySem.F.excBase_ValueError x_NoBook.q x_NoBook.g x_NoBook.k (raises_own x_NoBook.b x_NoBook.t) (by rfl)))) dss_nil)
  (dss_cons (ds_fld cl_Book na_Book_many (de_var 0) (de_var 1))
  (dss_one (ds_fld cl_Book na_Book_pairs (de_var 0) (de_new (dl_callTy l_list (by rfl) z_list (by decide +kernel) (de_var 2))))))), fun ds m q h => rdok_Book___init__ C_Book C_NoBook h⟩
def mk_Book_letters {C_Book : Addr} {f : Addr} {fd : FuncData} (F : Fun K "letters" "Book.letters" s_Book_letters f fd) (me : Meth K C_Book "letters" f) (g_Book : mg "Book" = some (.ref C_Book)) (cl_Book : Cls K C_Book) (na_Book_many : NoAttr K C_Book "many") : MethAt P w K mg base 1 C_Book "letters" ["self"] (sp_Book_letters C_Book) where
  f := f
  fd := fd
  me := me
  b := F.binds (ps := ["self"]) fun _ _ _ _ _ _ us hl => match us, hl with | [_], _ => rfl
  ok := by
    have sc := sc_Book_letters
    refine fnD_of F sc (fun h => sp1_len h) fun cdv A outer s H E B qe hr tk po => ?_
    refine ⟨rd_Book_letters C_Book (fun cls _ m => qe cls m), (dss_one (ds_ret (de_fld cl_Book na_Book_many (de_var 0)))), fun ds m q h => rdok_Book_letters C_Book h⟩
def mk_Book_told {C_Book : Addr} {f : Addr} {fd : FuncData} (F : Fun K "told" "Book.told" s_Book_told f fd) (me : Meth K C_Book "told" f) (g_Book : mg "Book" = some (.ref C_Book)) (cl_Book : Cls K C_Book) (na_Book_pairs : NoAttr K C_Book "pairs") (z_list : mg "list" = none) : MethAt P w K mg base 1 C_Book "told" ["self"] (sp_Book_told C_Book) where
  f := f
  fd := fd
  me := me
  b := F.binds (ps := ["self"]) fun _ _ _ _ _ _ us hl => match us, hl with | [_], _ => rfl
  ok := by
    have sc := sc_Book_told
    refine fnD_of F sc (fun h => sp1_len h) fun cdv A outer s H E B qe hr tk po => ?_
    refine ⟨rd_Book_told C_Book (fun cls _ m => qe cls m), (dss_one (ds_ret (de_new (dl_callTy l_list (by rfl) z_list (by decide +kernel) (de_fld cl_Book na_Book_pairs (de_var 0)))))), fun ds m q h => rdok_Book_told C_Book h⟩
def mk_law_state {f : Addr} {fd : FuncData} (F : Fun K "_law_state" "_law_state" s_law_state f fd) (g : mg "_law_state" = some (.ref f)) (z_len : mg "len" = none) (z_abs : mg "abs" = none) (z_enumerate : mg "enumerate" = none) : DefAt P w K mg base 1 "_law_state" ["_law_script", "_law_k"] sp_law_state where
  f := f
  fd := fd
  g := g
  kp := F.kp
  b := F.binds (ps := ["_law_script", "_law_k"]) fun _ _ _ _ _ _ us hl => match us, hl with | [_, _], _ => rfl
  ok := by
    have sc := sc_law_state
    refine fnD_of F sc (fun h => sp2_len h) fun cdv A outer s H E B qe hr tk po => ?_
    refine ⟨rd_law_state (fun cls _ m => qe cls m), (dss_cons (ds_set (i := 2) sc.nd (de_ifExp (dt_neNil hr.units (de_var 0)) (de_callB c_abs (by rfl) z_abs (by decide +kernel) (da_cons (de_ix (de_var 0) (de_op d_mod (de_var 1) (de_callB c_len (by rfl) z_len (by decide +kernel) (da_cons (de_var 0) da_nil)))) da_nil)) de_int))
  (dss_cons (ds_if (dt_w (dw_and (dt_cmp d_ge (de_var 2) (de_op d_pow de_int de_int) (nomark _)) (dw_and1 (dt_cmp d_lt (de_var 1) (de_callB c_len (by rfl) z_len (by decide +kernel) (da_cons (de_var 0) da_nil)) (nomark _))))) (dss_one (ds_ret (de_new (dl_lst (da_cons (de_op d_sub (de_var 2) (de_op d_pow de_int de_int)) da_nil))))) dss_nil)
  (dss_cons (ds_set (i := 3) sc.nd (de_new (dl_lst (da_cons de_int (da_cons de_int (da_cons de_int (da_cons de_int (da_cons de_int (da_cons de_int (da_cons de_int (da_cons de_int da_nil)))))))))))
  (dss_cons (ds_set (i := 3) sc.nd (de_op d_add (de_var 3) (de_new (dl_lst (da_cons de_int (da_cons de_int (da_cons de_int (da_cons de_int (da_cons de_int (da_cons de_int (da_cons de_int da_nil)))))))))))
  (dss_cons (ds_set (i := 4) sc.nd de_int)
  (dss_cons (ds_for (vs := [5, 6]) po rfl (di_enumL (by rfl) z_enumerate (de_var 3)) (dg_tup rfl (dgs_cons (dg_name (i := 5) sc.nd) (dgs_cons (dg_name (i := 6) sc.nd) dgs_nil))) (dss_cons (ds_set (i := 7) sc.nd (de_op d_mod (de_op d_add (de_op d_add (de_op d_add (de_var 2) (de_op d_mul de_int (de_var 1))) (de_op d_mul de_int (de_var 5))) de_int) (de_var 6)))
  (dss_one (ds_set (i := 4) sc.nd (de_op d_add (de_op d_mul (de_var 4) de_int) (de_op d_mod (de_op d_mul (de_var 7) (de_op d_add (de_op d_add (de_op d_mul (de_var 7) (de_var 7)) (de_op d_mul de_int (de_var 5))) de_int)) (de_var 6)))))))
  (dss_one (ds_ret (de_new (dl_lst (da_cons (de_var 4) da_nil))))))))))), fun ds m q h => rdok_law_state h⟩
def mk_law_next {f : Addr} {fd : FuncData} (F : Fun K "_law_next" "_law_next" s_law_next f fd) (g : mg "_law_next" = some (.ref f))  : DefAt P w K mg base 1 "_law_next" ["_law_state_here", "_law_size"] sp_law_next where
  f := f
  fd := fd
  g := g
  kp := F.kp
  b := F.binds (ps := ["_law_state_here", "_law_size"]) fun _ _ _ _ _ _ us hl => match us, hl with | [_, _], _ => rfl
  ok := by
    have sc := sc_law_next
    refine fnD_of F sc (fun h => sp2_len h) fun cdv A outer s H E B qe hr tk po => ?_
    refine ⟨rd_law_next (fun cls _ m => qe cls m), (dss_cons (ds_set (i := 2) sc.nd (de_op d_mod (de_ix (de_var 0) de_int) (de_var 1)))
  (dss_cons (ds_setIx (de_op d_fdiv (de_ix (de_var 0) de_int) (de_var 1)) (de_var 0) de_int)
  (dss_one (ds_ret (de_var 2))))), fun ds m q h => rdok_law_next h⟩
def mk_law_turn {f : Addr} {fd : FuncData} (F : Fun K "_law_turn" "_law_turn" s_law_turn f fd) (g : mg "_law_turn" = some (.ref f)) (z_list : mg "list" = none) (z_range : mg "range" = none) (d_law_next : DefAt P w K mg base 1 "_law_next" ["_law_state_here", "_law_size"] sp_law_next) (z_len : mg "len" = none) (z_tuple : mg "tuple" = none) : DefAt P w K mg base 2 "_law_turn" ["_law_state_here", "_law_size"] sp_law_turn where
  f := f
  fd := fd
  g := g
  kp := F.kp
  b := F.binds (ps := ["_law_state_here", "_law_size"]) fun _ _ _ _ _ _ us hl => match us, hl with | [_, _], _ => rfl
  ok := by
    have sc := sc_law_turn
    refine fnD_of F sc (fun h => sp2_len h) fun cdv A outer s H E B qe hr tk po => ?_
    refine ⟨rd_law_turn (fun cls _ m => qe cls m), (dss_cons (ds_set (i := 2) sc.nd (de_new (dl_listRg1 rfl (by rfl) z_list (by rfl) z_range (de_var 1))))
  (dss_one (ds_ret (de_newTy n_tuple (by rfl) z_tuple (by decide +kernel) (dl_comp [("_law_k", 3)] rfl sc.nd (di_range1 (by rfl) z_range (de_var 1)) (blkOk_by (N := ["_law_state_here", "_law_size", "_law_left", "_law_k"]) (sc := defScope s_law_turn) (by decide +kernel)) (fun _ _ _ _ _ => (dg_name (i := 3) sc.nd)) (fun _ _ _ _ _ => dts_nil) (fun _ _ _ _ _ => (de_bmL PySem.F.slot_list_pop PySem.F.type_list_pop m_popAt (de_var 2) (da_cons (de_op d_mod (de_op d_add (de_callD d_law_next (hr.mono (by decide)) (by rfl) takesN (da_cons (de_var 0) (da_cons (de_callB c_len (by rfl) z_len (by decide +kernel) (da_cons (de_var 2) da_nil)) da_nil))) de_int) (de_callB c_len (by rfl) z_len (by decide +kernel) (da_cons (de_var 2) da_nil))) da_nil)))))))), fun ds m q h => rdok_law_turn h⟩
def mk_law_pairs {f : Addr} {fd : FuncData} (F : Fun K "_law_pairs" "_law_pairs" s_law_pairs f fd) (g : mg "_law_pairs" = some (.ref f)) (d_law_next : DefAt P w K mg base 1 "_law_next" ["_law_state_here", "_law_size"] sp_law_next) (z_range : mg "range" = none) (d_law_turn : DefAt P w K mg base 2 "_law_turn" ["_law_state_here", "_law_size"] sp_law_turn) (z_tuple : mg "tuple" = none) : DefAt P w K mg base 3 "_law_pairs" ["_law_state_here"] sp_law_pairs where
  f := f
  fd := fd
  g := g
  kp := F.kp
  b := F.binds (ps := ["_law_state_here"]) fun _ _ _ _ _ _ us hl => match us, hl with | [_], _ => rfl
  ok := by
    have sc := sc_law_pairs
    refine fnD_of F sc (fun h => sp1_len h) fun cdv A outer s H E B qe hr tk po => ?_
    refine ⟨rd_law_pairs (fun cls _ m => qe cls m), (dss_cons (ds_set (i := 1) sc.nd (de_ix (de_new (dl_lst (da_cons de_int (da_cons de_int (da_cons de_int (da_cons de_int da_nil)))))) (de_callD d_law_next (hr.mono (by decide)) (by rfl) tk (da_cons (de_var 0) (da_cons de_int da_nil)))))
  (dss_cons (ds_set (i := 2) sc.nd (de_ix (de_new (dl_lst (da_cons de_int (da_cons de_int (da_cons de_int (da_cons de_int (da_cons de_int (da_cons de_int (da_cons de_int (da_cons de_int da_nil)))))))))) (de_callD d_law_next (hr.mono (by decide)) (by rfl) tk (da_cons (de_var 0) (da_cons de_int da_nil)))))
  (dss_cons (ds_set (i := 3) sc.nd (de_new (dl_lst da_nil)))
  (dss_cons (ds_for (vs := [4]) po rfl (di_range1 (by rfl) z_range (de_var 2)) (dg_name (i := 4) sc.nd) (dss_cons (ds_set (i := 5) sc.nd (de_callD d_law_turn (hr.mono (by decide)) (by rfl) tk (da_cons (de_var 0) (da_cons (de_var 1) da_nil))))
  (dss_cons (ds_setLc (i := 7) [("_law_j", 6)] rfl sc.nd rfl rfl (sw_true rfl rfl rfl (by decide +kernel)) (di_range1 (by rfl) z_range (de_var 1)) (blkOk_by (N := ["_law_state_here", "_law_size", "_law_rows", "_law_pairs_here", "_law_k", "_law_turn_here", "_law_j", "_law_onward"]) (sc := defScope s_law_pairs) (by decide +kernel)) (fun _ _ _ _ _ => (dg_name (i := 6) sc.nd)) (fun _ _ _ _ _ => dts_nil) (fun _ _ _ _ _ => (de_op d_mul (de_callD d_law_next (hr.mono (by decide)) (by rfl) takesN (da_cons (de_var 0) (da_cons de_int da_nil))) (de_op d_sub (de_callD d_law_next (hr.mono (by decide)) (by rfl) takesN (da_cons (de_var 0) (da_cons (de_op d_add (de_op d_mul de_int (de_var 2)) de_int) da_nil))) (de_var 2)))))
  (dss_one (ds_expr (de_bmL PySem.F.slot_list_append PySem.F.type_list_append m_append (de_var 3) (da_cons (de_tup (da_cons (de_var 5) (da_cons (de_callTy c_tuple (by rfl) z_tuple (by decide +kernel) (da_cons (de_var 7) da_nil)) da_nil))) da_nil)))))))
  (dss_one (ds_ret (de_tup (da_cons (de_var 1) (da_cons (de_var 3) da_nil))))))))), fun ds m q h => rdok_law_pairs h⟩
def mk_law_odd {f : Addr} {fd : FuncData} (F : Fun K "_law_odd" "_law_odd" s_law_odd f fd) (g : mg "_law_odd" = some (.ref f)) (d_law_next : DefAt P w K mg base 1 "_law_next" ["_law_state_here", "_law_size"] sp_law_next) : DefAt P w K mg base 2 "_law_odd" ["_law_state_here"] sp_law_odd where
  f := f
  fd := fd
  g := g
  kp := F.kp
  b := F.binds (ps := ["_law_state_here"]) fun _ _ _ _ _ _ us hl => match us, hl with | [_], _ => rfl
  ok := by
    have sc := sc_law_odd
    refine fnD_of F sc (fun h => sp1_len h) fun cdv A outer s H E B qe hr tk po => ?_
    refine ⟨rd_law_odd (fun cls _ m => qe cls m), (dss_cons (ds_set (i := 1) sc.nd (de_new (dl_lst (da_cons de_bl (da_cons de_bl (da_cons de_non (da_cons de_str (da_cons de_str (da_cons (de_tup (da_cons de_int da_nil)) (da_cons (de_new (dl_lst (da_cons de_int da_nil))) (da_cons de_dict0 (da_cons (de_op d_add (de_op d_pow de_int de_int) (de_callD d_law_next (hr.mono (by decide)) (by rfl) tk (da_cons (de_var 0) (da_cons (de_op d_pow de_int de_int) da_nil)))) (da_cons (de_un d_neg de_int) da_nil)))))))))))))
  (dss_one (ds_ret (de_ixG hr.units (de_var 1) (de_callD d_law_next (hr.mono (by decide)) (by rfl) tk (da_cons (de_var 0) (da_cons de_int da_nil))))))), fun ds m q h => rdok_law_odd h⟩
def mk_law_spoilt {f : Addr} {fd : FuncData} (F : Fun K "_law_spoilt" "_law_spoilt" s_law_spoilt f fd) (g : mg "_law_spoilt" = some (.ref f)) (d_law_next : DefAt P w K mg base 1 "_law_next" ["_law_state_here", "_law_size"] sp_law_next) (z_len : mg "len" = none) (d_law_odd : DefAt P w K mg base 2 "_law_odd" ["_law_state_here"] sp_law_odd) (z_list : mg "list" = none) : DefAt P w K mg base 3 "_law_spoilt" ["_law_state_here", "_law_hand", "_law_rows"] sp_law_spoilt where
  f := f
  fd := fd
  g := g
  kp := F.kp
  b := F.binds (ps := ["_law_state_here", "_law_hand", "_law_rows"]) fun _ _ _ _ _ _ us hl => match us, hl with | [_, _, _], _ => rfl
  ok := by
    have sc := sc_law_spoilt
    refine fnD_of F sc (fun h => sp3_len h) fun cdv A outer s H E B qe hr tk po => ?_
    refine ⟨rd_law_spoilt (fun cls _ m => qe cls m), (dss_cons (ds_set (i := 3) sc.nd (de_callD d_law_next (hr.mono (by decide)) (by rfl) tk (da_cons (de_var 0) (da_cons de_int da_nil))))
  (dss_cons (ds_set (i := 4) sc.nd (de_callD d_law_next (hr.mono (by decide)) (by rfl) tk (da_cons (de_var 0) (da_cons (de_callB c_len (by rfl) z_len (by decide +kernel) (da_cons (de_ix (de_var 1) de_int) da_nil)) da_nil))))
  (dss_cons (ds_set (i := 5) sc.nd (de_callD d_law_odd (hr.mono (by decide)) (by rfl) tk (da_cons (de_var 0) da_nil)))
  (dss_cons (ds_set (i := 6) sc.nd (de_callD d_law_next (hr.mono (by decide)) (by rfl) tk (da_cons (de_var 0) (da_cons de_int da_nil))))
  (dss_cons (ds_asg (vs := [7, 8]) (de_var 1) (dg_tup rfl (dgs_cons (dg_name (i := 7) sc.nd) (dgs_cons (dg_name (i := 8) sc.nd) dgs_nil))))
  (dss_cons (ds_if (dt_cmp (d_eq hr.units) (de_var 3) de_int (nomark _)) (dss_one (ds_ret (de_ix (de_new (dl_lst (da_cons (de_new (dl_callTy l_list (by rfl) z_list (by decide +kernel) (de_var 1))) (da_cons (de_var 5) (da_cons (de_op d_add (de_var 1) (de_tup (da_cons de_int da_nil))) (da_cons (de_tup (da_cons (de_var 7) da_nil)) da_nil)))))) (de_op d_mod (de_var 6) de_int)))) dss_nil)
  (dss_cons (ds_if (dt_cmp (d_eq hr.units) (de_var 3) de_int (nomark _)) (dss_one (ds_ret (de_tup (da_cons (de_op d_add (de_op d_add (de_slice (de_var 7) do_none (do_some (de_var 4))) (de_tup (da_cons (de_op d_sub (de_var 6) de_int) da_nil))) (de_slice (de_var 7) (do_some (de_op d_add (de_var 4) de_int)) do_none)) (da_cons (de_var 8) da_nil))))) dss_nil)
  (dss_cons (ds_if (dt_cmp (d_eq hr.units) (de_var 3) de_int (nomark _)) (dss_one (ds_ret (de_tup (da_cons (de_op d_add (de_op d_add (de_slice (de_var 7) do_none (do_some (de_var 4))) (de_tup (da_cons (de_var 5) da_nil))) (de_slice (de_var 7) (do_some (de_op d_add (de_var 4) de_int)) do_none)) (da_cons (de_var 8) da_nil))))) dss_nil)
  (dss_cons (ds_if (dt_cmp (d_eq hr.units) (de_var 3) de_int (nomark _)) (dss_one (ds_ret (de_tup (da_cons (de_ix (de_new (dl_lst (da_cons (de_new (dl_callTy l_list (by rfl) z_list (by decide +kernel) (de_var 7))) (da_cons (de_op d_add (de_var 7) (de_tup (da_cons (de_callB c_len (by rfl) z_len (by decide +kernel) (da_cons (de_var 7) da_nil)) da_nil))) (da_cons (de_slice (de_var 7) do_none (do_some (de_un d_neg de_int))) da_nil))))) (de_op d_mod (de_var 6) de_int)) (da_cons (de_var 8) da_nil))))) dss_nil)
  (dss_cons (ds_if (dt_cmp (d_eq hr.units) (de_var 3) de_int (nomark _)) (dss_one (ds_ret (de_tup (da_cons (de_var 7) (da_cons (de_op d_add (de_op d_add (de_slice (de_var 8) do_none (do_some (de_var 4))) (de_tup (da_cons (de_ix (de_new (dl_lst (da_cons (de_op d_add (de_var 2) de_int) (da_cons (de_op d_sub (de_un d_neg de_int) (de_var 2)) (da_cons (de_var 2) (da_cons (de_un d_neg (de_var 2)) da_nil)))))) (de_op d_mod (de_var 6) de_int)) da_nil))) (de_slice (de_var 8) (do_some (de_op d_add (de_var 4) de_int)) do_none)) da_nil))))) dss_nil)
  (dss_cons (ds_if (dt_cmp (d_eq hr.units) (de_var 3) de_int (nomark _)) (dss_one (ds_ret (de_tup (da_cons (de_var 7) (da_cons (de_op d_add (de_op d_add (de_slice (de_var 8) do_none (do_some (de_var 4))) (de_tup (da_cons (de_var 5) da_nil))) (de_slice (de_var 8) (do_some (de_op d_add (de_var 4) de_int)) do_none)) da_nil))))) dss_nil)
  (dss_cons (ds_if (dt_cmp (d_eq hr.units) (de_var 3) de_int (nomark _)) (dss_one (ds_ret (de_tup (da_cons (de_var 7) (da_cons (de_ix (de_new (dl_lst (da_cons (de_new (dl_callTy l_list (by rfl) z_list (by decide +kernel) (de_var 8))) (da_cons (de_op d_add (de_var 8) (de_tup (da_cons de_int da_nil))) (da_cons (de_slice (de_var 8) (do_some de_int) do_none) (da_cons (de_var 5) da_nil)))))) (de_op d_mod (de_var 6) de_int)) da_nil))))) dss_nil)
  (dss_one (ds_ret (de_ifExp (dt_cmp (d_eq hr.units) (de_var 3) de_int (nomark _)) (de_tup (da_cons (de_var 8) (da_cons (de_var 7) da_nil))) (de_var 1)))))))))))))))), fun ds m q h => rdok_law_spoilt h⟩
def mk_law_thing {f : Addr} {fd : FuncData} (F : Fun K "_law_thing" "_law_thing" s_law_thing f fd) (g : mg "_law_thing" = some (.ref f)) (d_law_next : DefAt P w K mg base 1 "_law_next" ["_law_state_here", "_law_size"] sp_law_next) (d_law_odd : DefAt P w K mg base 2 "_law_odd" ["_law_state_here"] sp_law_odd) (d_law_pairs : DefAt P w K mg base 3 "_law_pairs" ["_law_state_here"] sp_law_pairs) (z_len : mg "len" = none) (d_law_spoilt : DefAt P w K mg base 3 "_law_spoilt" ["_law_state_here", "_law_hand", "_law_rows"] sp_law_spoilt) (z_tuple : mg "tuple" = none) : DefAt P w K mg base 4 "_law_thing" ["_law_state_here"] sp_law_thing where
  f := f
  fd := fd
  g := g
  kp := F.kp
  b := F.binds (ps := ["_law_state_here"]) fun _ _ _ _ _ _ us hl => match us, hl with | [_], _ => rfl
  ok := by
    have sc := sc_law_thing
    refine fnD_of F sc (fun h => sp1_len h) fun cdv A outer s H E B qe hr tk po => ?_
    refine ⟨rd_law_thing (fun cls _ m => qe cls m), (dss_cons (ds_set (i := 1) sc.nd (de_callD d_law_next (hr.mono (by decide)) (by rfl) tk (da_cons (de_var 0) (da_cons de_int da_nil))))
  (dss_cons (ds_set (i := 2) sc.nd (de_callD d_law_next (hr.mono (by decide)) (by rfl) tk (da_cons (de_var 0) (da_cons de_int da_nil))))
  (dss_cons (ds_set (i := 3) sc.nd (de_callD d_law_odd (hr.mono (by decide)) (by rfl) tk (da_cons (de_var 0) da_nil)))
  (dss_cons (ds_set (i := 4) sc.nd (de_callD d_law_next (hr.mono (by decide)) (by rfl) tk (da_cons (de_var 0) (da_cons de_int da_nil))))
  (dss_cons (ds_set (i := 5) sc.nd (de_cmp (d_eq hr.units) (de_callD d_law_next (hr.mono (by decide)) (by rfl) tk (da_cons (de_var 0) (da_cons de_int da_nil))) de_int (nomark _)))
  (dss_cons (ds_asg (vs := [6, 7]) (de_callD d_law_pairs (hr.mono (by decide)) (by rfl) tk (da_cons (de_var 0) da_nil)) (dg_tup rfl (dgs_cons (dg_name (i := 6) sc.nd) (dgs_cons (dg_name (i := 7) sc.nd) dgs_nil))))
  (dss_cons (ds_if (dt_cmp (d_eq hr.units) (de_var 1) de_int (nomark _)) (dss_one (ds_set (i := 6) sc.nd (de_ix (de_new (dl_lst (da_cons (de_var 4) (da_cons (de_var 3) da_nil)))) (de_op d_mod (de_var 2) de_int)))) dss_nil)
  (dss_cons (ds_if (dt_cmp (d_eq hr.units) (de_var 1) de_int (nomark _)) (dss_one (ds_ret (de_tup (da_cons (de_var 6) (da_cons (de_var 3) da_nil))))) dss_nil)
  (dss_cons (ds_if (dt_cmp (d_eq hr.units) (de_var 1) de_int (nomark _)) (dss_one (ds_set (i := 7) sc.nd (de_op d_add (de_var 7) (de_op d_mulG (de_new (dl_lst (da_cons (de_tup (da_cons (de_slice (de_tup (da_cons de_int (da_cons de_int (da_cons de_int (da_cons de_int da_nil))))) do_none (do_some (de_var 6))) (da_cons (de_op d_mulG (de_tup (da_cons de_int da_nil)) (de_var 6)) da_nil))) da_nil))) (de_op d_sub (de_op d_add de_int (de_op d_mod (de_var 2) de_int)) (de_callB c_len (by rfl) z_len (by decide +kernel) (da_cons (de_var 7) da_nil))))))) dss_nil)
  (dss_cons (ds_if (dt_w (dw_and (dt_cmp d_gt (de_var 1) de_int (nomark _)) (dw_and1 (dt_neNil hr.units (de_var 7))))) (dss_cons (ds_set (i := 2) sc.nd (de_op d_mod (de_var 2) (de_callB c_len (by rfl) z_len (by decide +kernel) (da_cons (de_var 7) da_nil))))
  (dss_one (ds_set (i := 7) sc.nd (de_op d_add (de_op d_add (de_slice (de_var 7) do_none (do_some (de_var 2))) (de_new (dl_lst (da_cons (de_callD d_law_spoilt (hr.mono (by decide)) (by rfl) tk (da_cons (de_var 0) (da_cons (de_ix (de_var 7) (de_var 2)) (da_cons (de_callB c_len (by rfl) z_len (by decide +kernel) (da_cons (de_var 7) da_nil)) da_nil)))) da_nil)))) (de_slice (de_var 7) (do_some (de_op d_add (de_var 2) de_int)) do_none))))) dss_nil)
  (dss_one (ds_ret (de_tup (da_cons (de_var 6) (da_cons (de_ifExp (dt_truth (de_var 5)) (de_var 7) (de_callTy c_tuple (by rfl) z_tuple (by decide +kernel) (da_cons (de_var 7) da_nil))) da_nil))))))))))))))), fun ds m q h => rdok_law_thing h⟩
def mk_law_whole {f : Addr} {fd : FuncData} (F : Fun K "_law_whole" "_law_whole" s_law_whole f fd) (g : mg "_law_whole" = some (.ref f)) (z_int : mg "int" = none) (z_isinstance : mg "isinstance" = none) (z_bool : mg "bool" = none) : DefAt P w K mg base 1 "_law_whole" ["_law_thing_here", "_law_low", "_law_most"] sp_law_whole where
  f := f
  fd := fd
  g := g
  kp := F.kp
  b := F.binds (ps := ["_law_thing_here", "_law_low", "_law_most"]) fun _ _ _ _ _ _ us hl => match us, hl with | [_, _, _], _ => rfl
  ok := by
    have sc := sc_law_whole
    refine fnD_of F sc (fun h => sp3_len h) fun cdv A outer s H E B qe hr tk po => ?_
    refine ⟨rd_law_whole (fun cls _ m => qe cls m), (dss_one (ds_ret (de_and (de_callB c_isi (by rfl) z_isinstance (by decide +kernel) (da_cons (de_var 0) (da_cons (de_ty (by rfl) z_int (by decide +kernel)) da_nil))) (de_and (de_not (de_callB c_isi (by rfl) z_isinstance (by decide +kernel) (da_cons (de_var 0) (da_cons (de_ty (by rfl) z_bool (by decide +kernel)) da_nil)))) (de_one (de_chain d_le d_le (de_var 1) (de_var 0) (de_var 2))))))), fun ds m q h => rdok_law_whole h⟩
def mk_law_is_hand {f : Addr} {fd : FuncData} (F : Fun K "_law_is_hand" "_law_is_hand" s_law_is_hand f fd) (g : mg "_law_is_hand" = some (.ref f)) (z_tuple : mg "tuple" = none) (z_isinstance : mg "isinstance" = none) (z_len : mg "len" = none) (z_repr : mg "repr" = none) (z_sorted : mg "sorted" = none) (z_range : mg "range" = none) (z_str : mg "str" = none) (d_law_whole : DefAt P w K mg base 1 "_law_whole" ["_law_thing_here", "_law_low", "_law_most"] sp_law_whole) (z_all : mg "all" = none) : DefG P w K mg base 2 "_law_is_hand" ["_law_thing_here", "_law_size", "_law_rows"] sp_law_is_hand where
  f := f
  fd := fd
  g := g
  kp := F.kp
  b := F.binds (ps := ["_law_thing_here", "_law_size", "_law_rows"]) fun _ _ _ _ _ _ us hl => match us, hl with | [_, _, _], _ => rfl
  ok := by
    have sc := sc_law_is_hand
    refine fnDG_of F sc (fun h => sp3_len h) fun cdv A outer s H E B qe hr gd tk po => ?_
    refine ⟨rd_law_is_hand (fun cls _ m => qe cls m), (dss_cons (ds_if (dt_w (dw_or (dt_not (dt_truth (de_callB c_isi (by rfl) z_isinstance (by decide +kernel) (da_cons (de_var 0) (da_cons (de_ty (by rfl) z_tuple (by decide +kernel)) da_nil))))) (dw_or1 (dt_cmp (d_ne hr.units) (de_callB c_len (by rfl) z_len (by decide +kernel) (da_cons (de_var 0) da_nil)) de_int (nomark _))))) (dss_one (ds_ret de_bl)) dss_nil)
  (dss_cons (ds_asg (vs := [3, 4]) (de_var 0) (dg_tup rfl (dgs_cons (dg_name (i := 3) sc.nd) (dgs_cons (dg_name (i := 4) sc.nd) dgs_nil))))
  (dss_cons (ds_if (dt_w (dw_or (dt_not (dt_truth (de_callB c_isi (by rfl) z_isinstance (by decide +kernel) (da_cons (de_var 3) (da_cons (de_ty (by rfl) z_tuple (by decide +kernel)) da_nil))))) (dw_or (dt_not (dt_truth (de_callB c_isi (by rfl) z_isinstance (by decide +kernel) (da_cons (de_var 4) (da_cons (de_ty (by rfl) z_tuple (by decide +kernel)) da_nil))))) (dw_or1 (dt_cmp (d_ne hr.units) (de_tup (da_cons (de_callB c_len (by rfl) z_len (by decide +kernel) (da_cons (de_var 3) da_nil)) (da_cons (de_callB c_len (by rfl) z_len (by decide +kernel) (da_cons (de_var 4) da_nil)) da_nil))) (de_tup (da_cons (de_var 1) (da_cons (de_var 1) da_nil))) (nomark _)))))) (dss_one (ds_ret de_bl)) dss_nil)
  (dss_cons (ds_if (dt_neNN hr.units (dl_newB nl_sortedS (by rfl) z_sorted (by decide +kernel) (dl_comp [("_law_one", 5)] rfl sc.nd (di_seq (de_var 3)) (blkOk_by (N := ["_law_thing_here", "_law_size", "_law_rows", "_law_turn_here", "_law_onward", "_law_one", "_law_k", "_law_step"]) (sc := defScope s_law_is_hand) (by decide +kernel)) (fun _ _ _ _ _ => (dg_name (i := 5) sc.nd)) (fun _ _ _ _ _ => dts_nil) (fun _ _ _ _ _ => (de_callB (c_reprX gd hr.units) (by rfl) z_repr (by decide +kernel) (da_cons (de_var 5) da_nil))))) (dl_comp [("_law_k", 6)] rfl sc.nd (di_range1 (by rfl) z_range (de_var 1)) (blkOk_by (N := ["_law_thing_here", "_law_size", "_law_rows", "_law_turn_here", "_law_onward", "_law_one", "_law_k", "_law_step"]) (sc := defScope s_law_is_hand) (by decide +kernel)) (fun _ _ _ _ _ => (dg_name (i := 6) sc.nd)) (fun _ _ _ _ _ => dts_nil) (fun _ _ _ _ _ => (de_callTy c_str (by rfl) z_str (by decide +kernel) (da_cons (de_var 6) da_nil))))) (dss_one (ds_ret de_bl)) dss_nil)
  (dss_one (ds_ret (de_newB (n_all rfl) (by rfl) z_all (by decide +kernel) (dl_comp [("_law_step", 7)] rfl sc.nd (di_seq (de_var 4)) (blkOk_by (N := ["_law_thing_here", "_law_size", "_law_rows", "_law_turn_here", "_law_onward", "_law_one", "_law_k", "_law_step"]) (sc := defScope s_law_is_hand) (by decide +kernel)) (fun _ _ _ _ _ => (dg_name (i := 7) sc.nd)) (fun _ _ _ _ _ => dts_nil) (fun _ _ _ _ _ => (de_callD d_law_whole (hr.mono (by decide)) (by rfl) takesN (da_cons (de_var 7) (da_cons (de_un d_neg (de_var 2)) (da_cons (de_var 2) da_nil))))))))))))), fun ds m q h => rdok_law_is_hand h⟩
def mk_law_is_book {f : Addr} {fd : FuncData} (F : Fun K "_law_is_book" "_law_is_book" s_law_is_book f fd) (g : mg "_law_is_book" = some (.ref f)) (d_law_whole : DefAt P w K mg base 1 "_law_whole" ["_law_thing_here", "_law_low", "_law_most"] sp_law_whole) (z_tuple : mg "tuple" = none) (z_list : mg "list" = none) (z_isinstance : mg "isinstance" = none) (z_len : mg "len" = none) (d_law_is_hand : DefG P w K mg base 2 "_law_is_hand" ["_law_thing_here", "_law_size", "_law_rows"] sp_law_is_hand) (z_all : mg "all" = none) : DefG P w K mg base 3 "_law_is_book" ["_law_size", "_law_rows"] sp_law_is_book where
  f := f
  fd := fd
  g := g
  kp := F.kp
  b := F.binds (ps := ["_law_size", "_law_rows"]) fun _ _ _ _ _ _ us hl => match us, hl with | [_, _], _ => rfl
  ok := by
    have sc := sc_law_is_book
    refine fnDG_of F sc (fun h => sp2_len h) fun cdv A outer s H E B qe hr gd tk po => ?_
    refine ⟨rd_law_is_book (fun cls _ m => qe cls m), (dss_cons (ds_if (dt_w (dw_or (dt_not (dt_truth (de_callD d_law_whole (hr.mono (by decide)) (by rfl) tk (da_cons (de_var 0) (da_cons de_int (da_cons de_int da_nil)))))) (dw_or (dt_not (dt_truth (de_callB c_isi (by rfl) z_isinstance (by decide +kernel) (da_cons (de_var 1) (da_cons (de_tup (da_cons (de_ty (by rfl) z_list (by decide +kernel)) (da_cons (de_ty (by rfl) z_tuple (by decide +kernel)) da_nil))) da_nil))))) (dw_or1 (dt_cmp d_gt (de_callB c_len (by rfl) z_len (by decide +kernel) (da_cons (de_var 1) da_nil)) de_int (nomark _)))))) (dss_one (ds_ret de_bl)) dss_nil)
  (dss_one (ds_ret (de_newB (n_all rfl) (by rfl) z_all (by decide +kernel) (dl_comp [("_law_one", 2)] rfl sc.nd (di_seq (de_var 1)) (blkOk_by (N := ["_law_size", "_law_rows", "_law_one"]) (sc := defScope s_law_is_book) (by decide +kernel)) (fun _ _ _ _ _ => (dg_name (i := 2) sc.nd)) (fun _ _ _ _ _ => dts_nil) (fun _ _ _ _ _ => (de_callG d_law_is_hand gd (hr.mono (by decide)) (by rfl) takesN (da_cons (de_var 2) (da_cons (de_var 0) (da_cons (de_callB c_len (by rfl) z_len (by decide +kernel) (da_cons (de_var 1) da_nil)) da_nil)))))))))), fun ds m q h => rdok_law_is_book h⟩
theorem mk_law_told {X : Cx} {C_NoBook : Addr} {C_HandError : Addr} {C_NoText : Addr} {C_NoDeed : Addr} {C_InUse : Addr} {C_NoName : Addr} {C_TooMany : Addr} {C_NoNumber : Addr} {C_NoMachine : Addr} {C_NoRow : Addr} {C_NoWord : Addr} {C_NoTurn : Addr} {g : Addr} {cdv : Value} {kk : Nat} (hkk : 1 ≤ kk) (g_NoBook : X.mg "NoBook" = some (.ref C_NoBook)) (g_HandError : X.mg "HandError" = some (.ref C_HandError)) (ex_NoBook_HandError : PySem.W.exmOne X.K (.ref C_NoBook) (.ref C_HandError) = some true) (g_NoText : X.mg "NoText" = some (.ref C_NoText)) (kt_NoneType_NoText : PySem.W.kitOne X.K (.type "NoneType") (.ref C_NoText) = some false) (ec_NoBook : ExcC X.K C_NoBook) (kt_NoBook_NoText : PySem.W.kitOne X.K (.ref C_NoBook) (.ref C_NoText) = some false) (z_isinstance : X.mg "isinstance" = none) (g_NoDeed : X.mg "NoDeed" = some (.ref C_NoDeed)) (kt_NoneType_NoDeed : PySem.W.kitOne X.K (.type "NoneType") (.ref C_NoDeed) = some false) (kt_NoBook_NoDeed : PySem.W.kitOne X.K (.ref C_NoBook) (.ref C_NoDeed) = some false) (g_InUse : X.mg "InUse" = some (.ref C_InUse)) (kt_NoneType_InUse : PySem.W.kitOne X.K (.type "NoneType") (.ref C_InUse) = some false) (kt_NoBook_InUse : PySem.W.kitOne X.K (.ref C_NoBook) (.ref C_InUse) = some false) (g_NoName : X.mg "NoName" = some (.ref C_NoName)) (kt_NoneType_NoName : PySem.W.kitOne X.K (.type "NoneType") (.ref C_NoName) = some false) (kt_NoBook_NoName : PySem.W.kitOne X.K (.ref C_NoBook) (.ref C_NoName) = some false) (g_TooMany : X.mg "TooMany" = some (.ref C_TooMany)) (kt_NoneType_TooMany : PySem.W.kitOne X.K (.type "NoneType") (.ref C_TooMany) = some false) (kt_NoBook_TooMany : PySem.W.kitOne X.K (.ref C_NoBook) (.ref C_TooMany) = some false) (g_NoNumber : X.mg "NoNumber" = some (.ref C_NoNumber)) (kt_NoneType_NoNumber : PySem.W.kitOne X.K (.type "NoneType") (.ref C_NoNumber) = some false) (kt_NoBook_NoNumber : PySem.W.kitOne X.K (.ref C_NoBook) (.ref C_NoNumber) = some false) (g_NoMachine : X.mg "NoMachine" = some (.ref C_NoMachine)) (kt_NoneType_NoMachine : PySem.W.kitOne X.K (.type "NoneType") (.ref C_NoMachine) = some false) (kt_NoBook_NoMachine : PySem.W.kitOne X.K (.ref C_NoBook) (.ref C_NoMachine) = some false) (g_NoRow : X.mg "NoRow" = some (.ref C_NoRow)) (kt_NoneType_NoRow : PySem.W.kitOne X.K (.type "NoneType") (.ref C_NoRow) = some false) (kt_NoBook_NoRow : PySem.W.kitOne X.K (.ref C_NoBook) (.ref C_NoRow) = some false) (g_NoWord : X.mg "NoWord" = some (.ref C_NoWord)) (kt_NoneType_NoWord : PySem.W.kitOne X.K (.type "NoneType") (.ref C_NoWord) = some false) (kt_NoBook_NoWord : PySem.W.kitOne X.K (.ref C_NoBook) (.ref C_NoWord) = some false) (kt_NoneType_NoBook : PySem.W.kitOne X.K (.type "NoneType") (.ref C_NoBook) = some false) (kt_NoBook_NoBook : PySem.W.kitOne X.K (.ref C_NoBook) (.ref C_NoBook) = some true) (g_NoTurn : X.mg "NoTurn" = some (.ref C_NoTurn)) (kt_NoneType_NoTurn : PySem.W.kitOne X.K (.type "NoneType") (.ref C_NoTurn) = some false) (kt_NoBook_NoTurn : PySem.W.kitOne X.K (.ref C_NoBook) (.ref C_NoTurn) = some false) : GivesD X kk N_law_told "_law_told" (defScope s_law_told) g cdv (defBody s_law_told) "_law_work" (sp_law_told C_NoBook) := by
  have sc := sc_law_told
  intro f s H dl m q hr act hsp
  replace hr := hr.mono hkk
  have st : Step H m H m := Step.refl _ _
  have po : ∀ {M : Model} {A : Around} {env : Env}, PassesOwn M A env (fun _ _ => False) := PassesOwn.never
  exact ⟨rd_law_told C_NoBook C_HandError C_NoText C_NoDeed C_InUse C_NoName C_TooMany C_NoNumber C_NoMachine C_NoRow C_NoWord C_NoTurn f dl (fun _ _ _ => False), (dss_cons (ds_set (i := 1) sc.nd de_non)
  (dss_cons (ds_set (i := 2) sc.nd de_non)
  (dss_cons (ds_tryKS (i := 3) rfl rfl rfl sc.nd (exOk_cons ex_NoBook_HandError exOk_nil) (takes0D fun _ _ _ h => h) (fun B we pn xe st tk po => (dss_one (ds_set (i := 1) sc.nd (act _ _ _ _ _ _ st tk)))) (fun B a pn => (dss_one (ds_set (i := 2) sc.nd (de_var 3)))) (by refine ⟨by rfl, by decide, .inl g_HandError⟩))
  (dss_cons (ds_if (dt_cmp d_isN (de_var 2) de_non (nomark _)) (dss_one (ds_ret (de_tup (da_cons de_str (da_cons (de_var 1) da_nil))))) dss_nil)
  (dss_cons (ds_set (i := 4) sc.nd (de_new (dl_lst (da_cons (de_tup (da_cons de_str (da_cons (de_callB (c_isiE (.ty kt_NoneType_NoTurn (.own ec_NoBook kt_NoBook_NoTurn CtOk.nil))) (by rfl) z_isinstance (by decide +kernel) (da_cons (de_var 2) (da_cons (de_gref (by rfl) g_NoTurn) da_nil))) da_nil))) (da_cons (de_tup (da_cons de_str (da_cons (de_callB (c_isiE (.ty kt_NoneType_NoBook (.own ec_NoBook kt_NoBook_NoBook CtOk.nil))) (by rfl) z_isinstance (by decide +kernel) (da_cons (de_var 2) (da_cons (de_gref (by rfl) g_NoBook) da_nil))) da_nil))) (da_cons (de_tup (da_cons de_str (da_cons (de_callB (c_isiE (.ty kt_NoneType_NoWord (.own ec_NoBook kt_NoBook_NoWord CtOk.nil))) (by rfl) z_isinstance (by decide +kernel) (da_cons (de_var 2) (da_cons (de_gref (by rfl) g_NoWord) da_nil))) da_nil))) (da_cons (de_tup (da_cons de_str (da_cons (de_callB (c_isiE (.ty kt_NoneType_NoRow (.own ec_NoBook kt_NoBook_NoRow CtOk.nil))) (by rfl) z_isinstance (by decide +kernel) (da_cons (de_var 2) (da_cons (de_gref (by rfl) g_NoRow) da_nil))) da_nil))) (da_cons (de_tup (da_cons de_str (da_cons (de_callB (c_isiE (.ty kt_NoneType_NoMachine (.own ec_NoBook kt_NoBook_NoMachine CtOk.nil))) (by rfl) z_isinstance (by decide +kernel) (da_cons (de_var 2) (da_cons (de_gref (by rfl) g_NoMachine) da_nil))) da_nil))) (da_cons (de_tup (da_cons de_str (da_cons (de_callB (c_isiE (.ty kt_NoneType_NoNumber (.own ec_NoBook kt_NoBook_NoNumber CtOk.nil))) (by rfl) z_isinstance (by decide +kernel) (da_cons (de_var 2) (da_cons (de_gref (by rfl) g_NoNumber) da_nil))) da_nil))) (da_cons (de_tup (da_cons de_str (da_cons (de_callB (c_isiE (.ty kt_NoneType_TooMany (.own ec_NoBook kt_NoBook_TooMany CtOk.nil))) (by rfl) z_isinstance (by decide +kernel) (da_cons (de_var 2) (da_cons (de_gref (by rfl) g_TooMany) da_nil))) da_nil))) (da_cons (de_tup (da_cons de_str (da_cons (de_callB (c_isiE (.ty kt_NoneType_NoName (.own ec_NoBook kt_NoBook_NoName CtOk.nil))) (by rfl) z_isinstance (by decide +kernel) (da_cons (de_var 2) (da_cons (de_gref (by rfl) g_NoName) da_nil))) da_nil))) (da_cons (de_tup (da_cons de_str (da_cons (de_callB (c_isiE (.ty kt_NoneType_InUse (.own ec_NoBook kt_NoBook_InUse CtOk.nil))) (by rfl) z_isinstance (by decide +kernel) (da_cons (de_var 2) (da_cons (de_gref (by rfl) g_InUse) da_nil))) da_nil))) (da_cons (de_tup (da_cons de_str (da_cons (de_callB (c_isiE (.ty kt_NoneType_NoDeed (.own ec_NoBook kt_NoBook_NoDeed CtOk.nil))) (by rfl) z_isinstance (by decide +kernel) (da_cons (de_var 2) (da_cons (de_gref (by rfl) g_NoDeed) da_nil))) da_nil))) (da_cons (de_tup (da_cons de_str (da_cons (de_callB (c_isiE (.ty kt_NoneType_NoText (.own ec_NoBook kt_NoBook_NoText CtOk.nil))) (by rfl) z_isinstance (by decide +kernel) (da_cons (de_var 2) (da_cons (de_gref (by rfl) g_NoText) da_nil))) da_nil))) da_nil))))))))))))))
  (dss_one (ds_ret (de_tup (da_cons de_str (da_cons (de_join de_str (de_new (dl_comp [("_law_name", 5), ("_law_there", 6)] rfl sc.nd (di_seq (de_var 4)) (blkOk_by (N := ["_law_work", "_law_found", "_law_error", "e", "_law_marks", "_law_name", "_law_there"]) (sc := defScope s_law_told) (by decide +kernel)) (fun _ _ _ _ _ => (dg_tup rfl (dgs_cons (dg_name (i := 5) sc.nd) (dgs_cons (dg_name (i := 6) sc.nd) dgs_nil)))) (fun _ _ _ _ _ => (dts_one (dt_truth (de_var 6)))) (fun _ _ _ _ _ => (de_var 5))))) da_nil)))))))))), rdok_law_told C_NoBook C_HandError C_NoText C_NoDeed C_InUse C_NoName C_TooMany C_NoNumber C_NoMachine C_NoRow C_NoWord C_NoTurn f dl hsp⟩
def mk_law {C_Book : Addr} {C_NoBook : Addr} {P_law : Addr} {cc_law : Addr} {g_law_told : Addr} {fd_law_told : FuncData} {f : Addr} {fd : FuncData} (F : Fun K "law" "law" s_law f fd) (g : mg "law" = some (.ref f)) (g_Book : mg "Book" = some (.ref C_Book)) (z_len : mg "len" = none) (z_max : mg "max" = none) (z_range : mg "range" = none) (d_law_state : DefAt P w K mg base 1 "_law_state" ["_law_script", "_law_k"] sp_law_state) (d_law_next : DefAt P w K mg base 1 "_law_next" ["_law_state_here", "_law_size"] sp_law_next) (d_law_thing : DefAt P w K mg base 4 "_law_thing" ["_law_state_here"] sp_law_thing) (F_law_told : Fun K "_law_told" "_law_told" s_law_told g_law_told fd_law_told) (gm_law_told : mg "_law_told" = some (.ref g_law_told)) (b_law_told : Binds K fd_law_told ["_law_work"] []) (G_law_told : ∀ (X : Cx) (cdv : Value), X.K = K → X.mg = mg → GivesD X 9 N_law_told "_law_told" (defScope s_law_told) g_law_told cdv (defBody s_law_told) "_law_work" (sp_law_told C_NoBook)) (TB_law : TabB base mg cc_law P_law) (hcT_law : fd.code = .ref cc_law) (g_NoBook : mg "NoBook" = some (.ref C_NoBook)) (d_Book___init__ : MethAt P w K mg base 6 C_Book "__init__" ["self", "many", "hands"] (sp_Book___init__ C_Book C_NoBook)) (mb_Book___init___1_0 : MkB K d_Book___init__.fd ["self", "many", "hands"] ["hands", "many"] [1, 0]) (d_law_is_book : DefG P w K mg base 3 "_law_is_book" ["_law_size", "_law_rows"] sp_law_is_book) (cl_Book : Cls K C_Book) (d_Book_told : MethAt P w K mg base 1 C_Book "told" ["self"] (sp_Book_told C_Book)) (d_Book_letters : MethAt P w K mg base 1 C_Book "letters" ["self"] (sp_Book_letters C_Book)) (z_repr : mg "repr" = none) (z_list : mg "list" = none) (mk_Book : Mk K C_Book d_Book___init__.f) : DefG P w K mg base 11 "law" ["_law_script"] (spLawT 63 [(cc_law, P_law, lamQ "law")]) where
  f := f
  fd := fd
  g := g
  kp := F.kp
  b := F.binds (ps := ["_law_script"]) fun _ _ _ _ _ _ us hl => match us, hl with | [_], _ => rfl
  ok := by
    have sc := sc_law
    refine fnDG_ofC F sc (fun h => sp1_len h) fun cdv A outer s H E B qe hc hr gd tk po => ?_
    refine ⟨rd_law C_Book C_NoBook P_law (fun cls _ m => qe cls m), (dss_cons (ds_for (vs := [1]) po rfl (di_range1 (by rfl) z_range (de_callB (c_max2 rfl) (by rfl) z_max (by decide +kernel) (da_cons de_int (da_cons (de_callB c_len (by rfl) z_len (by decide +kernel) (da_cons (de_var 0) da_nil)) da_nil)))) (dg_name (i := 1) sc.nd) (dss_cons (ds_set (i := 2) sc.nd (de_callD d_law_state (hr.mono (by decide)) (by rfl) tk (da_cons (de_var 0) (da_cons (de_var 1) da_nil))))
  (dss_cons (ds_set (i := 3) sc.nd (de_cmp (d_eq hr.units) (de_callD d_law_next (hr.mono (by decide)) (by rfl) tk (da_cons (de_var 2) (da_cons de_int da_nil))) de_int (nomark _)))
  (dss_cons (ds_asg (vs := [4, 5]) (de_callD d_law_thing (hr.mono (by decide)) (by rfl) tk (da_cons (de_var 2) da_nil)) (dg_tup rfl (dgs_cons (dg_name (i := 4) sc.nd) (dgs_cons (dg_name (i := 5) sc.nd) dgs_nil))))
  (dss_cons (ds_if (dt_truth (de_var 3)) (dss_one (ds_asg (vs := [6, 7]) (de_lamF (k := 8) F_law_told gm_law_told sc_law_told b_law_told (fun cdv => G_law_told _ cdv rfl rfl) TB_law (hc.symm.trans hcT_law) hr (lamS_by (sc := defScope s_law) (by decide +kernel)) (fun _ _ _ _ _ _ _ _ we hr tk => (de_makeK (ks := ["hands", "many"]) (ix := [1, 0]) mk_Book d_Book___init__.ok (kbn_of mb_Book___init___1_0) (fun _ _ _ => rfl) (by decide) (hr.mono (by decide)) (by rfl) g_Book tk (dk_cons (de_var 5) (dk_cons (de_var 4) dk_nil))))) (dg_tup rfl (dgs_cons (dg_name (i := 6) sc.nd) (dgs_cons (dg_name (i := 7) sc.nd) dgs_nil))))) (dss_one (ds_asg (vs := [6, 7]) (de_lamF (k := 8) F_law_told gm_law_told sc_law_told b_law_told (fun cdv => G_law_told _ cdv rfl rfl) TB_law (hc.symm.trans hcT_law) hr (lamS_by (sc := defScope s_law) (by decide +kernel)) (fun _ _ _ _ _ _ _ _ we hr tk => (de_make mk_Book d_Book___init__.ok d_Book___init__.b (hr.mono (by decide)) (by rfl) g_Book tk (da_cons (de_var 4) (da_cons (de_var 5) da_nil))))) (dg_tup rfl (dgs_cons (dg_name (i := 6) sc.nd) (dgs_cons (dg_name (i := 7) sc.nd) dgs_nil))))))
  (dss_one (ds_if (dt_not (dt_truth (de_callG d_law_is_book gd (hr.mono (by decide)) (by rfl) tk (da_cons (de_var 4) (da_cons (de_var 5) da_nil))))) (dss_one (ds_if (dt_cmp (d_ne hr.units) (de_tup (da_cons (de_var 6) (da_cons (de_var 7) da_nil))) (de_tup (da_cons de_str (da_cons de_str da_nil))) (nomark _)) (dss_one (ds_ret de_bl)) dss_nil)) (dss_one (ds_if (dt_w (dw_or (dt_cmp (d_ne hr.units) (de_var 6) de_str (nomark _)) (dw_or1 (dt_cmp (d_ne hr.units) (de_callB (c_reprX gd hr.units) (by rfl) z_repr (by decide +kernel) (da_cons (de_tup (da_cons (de_meth0 d_Book_letters cl_Book (hr.mono (by decide)) tk (de_var 7)) (da_cons (de_meth0 d_Book_told cl_Book (hr.mono (by decide)) tk (de_var 7)) da_nil))) da_nil)) (de_callB (c_reprX gd hr.units) (by rfl) z_repr (by decide +kernel) (da_cons (de_tup (da_cons (de_var 4) (da_cons (de_new (dl_callTy l_list (by rfl) z_list (by decide +kernel) (de_var 5))) da_nil))) da_nil)) (nomark _))))) (dss_one (ds_ret de_bl)) dss_nil)))))))))
  (dss_one (ds_ret de_bl))), fun ds m q h => rdok_law C_Book C_NoBook P_law h⟩
end
theorem all_mk {l : PySem.W.OpenLaw} {w : World} {K : PySem.W.Frag} {h : Heap} {mg : Str → Option Value} {fa : Addr} (X : K.In h) (G : h.Ns mainGlobals mg) (hfa : mg "law" = some (.ref fa))
    {C_Book : Addr}
    {C_NoBook : Addr}
    {C_HandError : Addr}
    {C_NoText : Addr}
    {C_NoDeed : Addr}
    {C_InUse : Addr}
    {C_NoName : Addr}
    {C_TooMany : Addr}
    {C_NoNumber : Addr}
    {C_NoMachine : Addr}
    {C_NoRow : Addr}
    {C_NoWord : Addr}
    {C_NoTurn : Addr}
    {f0 : Addr} {od0 an0 : Option Addr} {sl0 : Array (Option Value)} {oc0 kV0 dc0 pm0 cd0 ct0 : Value}
    {f1 : Addr} {od1 an1 : Option Addr} {sl1 : Array (Option Value)} {oc1 kV1 dc1 pm1 cd1 ct1 : Value}
    {f2 : Addr} {od2 an2 : Option Addr} {sl2 : Array (Option Value)} {oc2 kV2 dc2 pm2 cd2 ct2 : Value}
    {f3 : Addr} {od3 an3 : Option Addr} {sl3 : Array (Option Value)} {oc3 kV3 dc3 pm3 cd3 ct3 : Value}
    {f4 : Addr} {od4 an4 : Option Addr} {sl4 : Array (Option Value)} {oc4 kV4 dc4 pm4 cd4 ct4 : Value}
    {f5 : Addr} {od5 an5 : Option Addr} {sl5 : Array (Option Value)} {oc5 kV5 dc5 pm5 cd5 ct5 : Value}
    {f6 : Addr} {od6 an6 : Option Addr} {sl6 : Array (Option Value)} {oc6 kV6 dc6 pm6 cd6 ct6 : Value}
    {f7 : Addr} {od7 an7 : Option Addr} {sl7 : Array (Option Value)} {oc7 kV7 dc7 pm7 cd7 ct7 : Value}
    {f8 : Addr} {od8 an8 : Option Addr} {sl8 : Array (Option Value)} {oc8 kV8 dc8 pm8 cd8 ct8 : Value}
    {f9 : Addr} {od9 an9 : Option Addr} {sl9 : Array (Option Value)} {oc9 kV9 dc9 pm9 cd9 ct9 : Value}
    {f10 : Addr} {od10 an10 : Option Addr} {sl10 : Array (Option Value)} {oc10 kV10 dc10 pm10 cd10 ct10 : Value}
    {f11 : Addr} {od11 an11 : Option Addr} {sl11 : Array (Option Value)} {oc11 kV11 dc11 pm11 cd11 ct11 : Value}
    {f12 : Addr} {od12 an12 : Option Addr} {sl12 : Array (Option Value)} {oc12 kV12 dc12 pm12 cd12 ct12 : Value}
    {f13 : Addr} {od13 an13 : Option Addr} {sl13 : Array (Option Value)} {oc13 kV13 dc13 pm13 cd13 ct13 : Value}
    {f14 : Addr} {od14 an14 : Option Addr} {sl14 : Array (Option Value)} {oc14 kV14 dc14 pm14 cd14 ct14 : Value}
    {f15 : Addr} {od15 an15 : Option Addr} {sl15 : Array (Option Value)} {oc15 kV15 dc15 pm15 cd15 ct15 : Value}
    {f16 : Addr} {od16 an16 : Option Addr} {sl16 : Array (Option Value)} {oc16 kV16 dc16 pm16 cd16 ct16 : Value}
    {f17 : Addr} {od17 an17 : Option Addr} {sl17 : Array (Option Value)} {oc17 kV17 dc17 pm17 cd17 ct17 : Value}
    {f18 : Addr} {od18 an18 : Option Addr} {sl18 : Array (Option Value)} {oc18 kV18 dc18 pm18 cd18 ct18 : Value}
    {f19 : Addr} {od19 an19 : Option Addr} {sl19 : Array (Option Value)} {oc19 kV19 dc19 pm19 cd19 ct19 : Value}
    {cc_law P_law : Addr} {ev19 : Value} {dv19 : Option Addr} {vv19 : Array Value} {sv19 : Array (Option Value)}
    {t_LEAST_MANY : Tok}
    {t_MOST_MANY : Tok}
    {t_MOST_HANDS : Tok}
    (g_Book : PySem.W.nsIn K mainGlobals "Book" = some (some (.ref C_Book)))
    (g_NoBook : PySem.W.nsIn K mainGlobals "NoBook" = some (some (.ref C_NoBook)))
    (g_HandError : PySem.W.nsIn K mainGlobals "HandError" = some (some (.ref C_HandError)))
    (g_NoText : PySem.W.nsIn K mainGlobals "NoText" = some (some (.ref C_NoText)))
    (g_NoDeed : PySem.W.nsIn K mainGlobals "NoDeed" = some (some (.ref C_NoDeed)))
    (g_InUse : PySem.W.nsIn K mainGlobals "InUse" = some (some (.ref C_InUse)))
    (g_NoName : PySem.W.nsIn K mainGlobals "NoName" = some (some (.ref C_NoName)))
    (g_TooMany : PySem.W.nsIn K mainGlobals "TooMany" = some (some (.ref C_TooMany)))
    (g_NoNumber : PySem.W.nsIn K mainGlobals "NoNumber" = some (some (.ref C_NoNumber)))
    (g_NoMachine : PySem.W.nsIn K mainGlobals "NoMachine" = some (some (.ref C_NoMachine)))
    (g_NoRow : PySem.W.nsIn K mainGlobals "NoRow" = some (some (.ref C_NoRow)))
    (g_NoWord : PySem.W.nsIn K mainGlobals "NoWord" = some (some (.ref C_NoWord)))
    (g_NoTurn : PySem.W.nsIn K mainGlobals "NoTurn" = some (some (.ref C_NoTurn)))
    (cl1_Book : PySem.W.plainGet K C_Book Str.empty = true) (cl2_Book : PySem.W.hasDictIn K C_Book = true) (cl3_Book : PySem.W.plainOver K C_Book = true) (cl4_Book : PySem.W.findIn K (.ref C_Book) "__setattr__" = some (some (.builtin "object.__setattr__")))
    (na_Book_many : PySem.W.findIn K (.ref C_Book) "many" = some none)
    (na_Book_pairs : PySem.W.findIn K (.ref C_Book) "pairs" = some none)
    (mk1_Book : PySem.W.makesIn K C_Book = true) (mk2_Book : PySem.W.keepIn K (.ref C_Book) = true)
    (a0 : PySem.W.nsIn K mainGlobals "is_whole" = some (some (.ref f0))) (l0 : K.lookup f0 = some ⟨oc0, od0, .func (PySem.W.fnOf "is_whole" "is_whole" (defArgs s_is_whole) (defBody s_is_whole) (defScope s_is_whole) .none kV0 dc0 pm0 an0 cd0 ct0), sl0⟩) (c0 : PySem.W.codeIn K cd0 "is_whole" = true) (k0 : PySem.W.keepIn K (.ref f0) = true)
    (a1 : PySem.W.nsIn K mainGlobals "is_between" = some (some (.ref f1))) (l1 : K.lookup f1 = some ⟨oc1, od1, .func (PySem.W.fnOf "is_between" "is_between" (defArgs s_is_between) (defBody s_is_between) (defScope s_is_between) .none kV1 dc1 pm1 an1 cd1 ct1), sl1⟩) (c1 : PySem.W.codeIn K cd1 "is_between" = true) (k1 : PySem.W.keepIn K (.ref f1) = true)
    (a2 : PySem.W.nsIn K mainGlobals "is_turn" = some (some (.ref f2))) (l2 : K.lookup f2 = some ⟨oc2, od2, .func (PySem.W.fnOf "is_turn" "is_turn" (defArgs s_is_turn) (defBody s_is_turn) (defScope s_is_turn) .none kV2 dc2 pm2 an2 cd2 ct2), sl2⟩) (c2 : PySem.W.codeIn K cd2 "is_turn" = true) (k2 : PySem.W.keepIn K (.ref f2) = true)
    (a3 : PySem.W.nsIn K mainGlobals "is_hand" = some (some (.ref f3))) (l3 : K.lookup f3 = some ⟨oc3, od3, .func (PySem.W.fnOf "is_hand" "is_hand" (defArgs s_is_hand) (defBody s_is_hand) (defScope s_is_hand) .none kV3 dc3 pm3 an3 cd3 ct3), sl3⟩) (c3 : PySem.W.codeIn K cd3 "is_hand" = true) (k3 : PySem.W.keepIn K (.ref f3) = true)
    (a4 : PySem.W.nsIn K mainGlobals "are_hands" = some (some (.ref f4))) (l4 : K.lookup f4 = some ⟨oc4, od4, .func (PySem.W.fnOf "are_hands" "are_hands" (defArgs s_are_hands) (defBody s_are_hands) (defScope s_are_hands) .none kV4 dc4 pm4 an4 cd4 ct4), sl4⟩) (c4 : PySem.W.codeIn K cd4 "are_hands" = true) (k4 : PySem.W.keepIn K (.ref f4) = true)
    (a5 : PySem.W.findIn K (.ref C_Book) "__init__" = some (some (.ref f5))) (l5 : K.lookup f5 = some ⟨oc5, od5, .func (PySem.W.fnOf "__init__" "Book.__init__" (defArgs s_Book___init__) (defBody s_Book___init__) (defScope s_Book___init__) .none kV5 dc5 pm5 an5 cd5 ct5), sl5⟩) (c5 : PySem.W.codeIn K cd5 "Book.__init__" = true) (k5 : PySem.W.keepIn K (.ref f5) = true) (i5 : PySem.W.isFn K (.ref f5) = true)
    (a6 : PySem.W.findIn K (.ref C_Book) "letters" = some (some (.ref f6))) (l6 : K.lookup f6 = some ⟨oc6, od6, .func (PySem.W.fnOf "letters" "Book.letters" (defArgs s_Book_letters) (defBody s_Book_letters) (defScope s_Book_letters) .none kV6 dc6 pm6 an6 cd6 ct6), sl6⟩) (c6 : PySem.W.codeIn K cd6 "Book.letters" = true) (k6 : PySem.W.keepIn K (.ref f6) = true) (i6 : PySem.W.isFn K (.ref f6) = true)
    (a7 : PySem.W.findIn K (.ref C_Book) "told" = some (some (.ref f7))) (l7 : K.lookup f7 = some ⟨oc7, od7, .func (PySem.W.fnOf "told" "Book.told" (defArgs s_Book_told) (defBody s_Book_told) (defScope s_Book_told) .none kV7 dc7 pm7 an7 cd7 ct7), sl7⟩) (c7 : PySem.W.codeIn K cd7 "Book.told" = true) (k7 : PySem.W.keepIn K (.ref f7) = true) (i7 : PySem.W.isFn K (.ref f7) = true)
    (a8 : PySem.W.nsIn K mainGlobals "_law_state" = some (some (.ref f8))) (l8 : K.lookup f8 = some ⟨oc8, od8, .func (PySem.W.fnOf "_law_state" "_law_state" (defArgs s_law_state) (defBody s_law_state) (defScope s_law_state) .none kV8 dc8 pm8 an8 cd8 ct8), sl8⟩) (c8 : PySem.W.codeIn K cd8 "_law_state" = true) (k8 : PySem.W.keepIn K (.ref f8) = true)
    (a9 : PySem.W.nsIn K mainGlobals "_law_next" = some (some (.ref f9))) (l9 : K.lookup f9 = some ⟨oc9, od9, .func (PySem.W.fnOf "_law_next" "_law_next" (defArgs s_law_next) (defBody s_law_next) (defScope s_law_next) .none kV9 dc9 pm9 an9 cd9 ct9), sl9⟩) (c9 : PySem.W.codeIn K cd9 "_law_next" = true) (k9 : PySem.W.keepIn K (.ref f9) = true)
    (a10 : PySem.W.nsIn K mainGlobals "_law_turn" = some (some (.ref f10))) (l10 : K.lookup f10 = some ⟨oc10, od10, .func (PySem.W.fnOf "_law_turn" "_law_turn" (defArgs s_law_turn) (defBody s_law_turn) (defScope s_law_turn) .none kV10 dc10 pm10 an10 cd10 ct10), sl10⟩) (c10 : PySem.W.codeIn K cd10 "_law_turn" = true) (k10 : PySem.W.keepIn K (.ref f10) = true)
    (a11 : PySem.W.nsIn K mainGlobals "_law_pairs" = some (some (.ref f11))) (l11 : K.lookup f11 = some ⟨oc11, od11, .func (PySem.W.fnOf "_law_pairs" "_law_pairs" (defArgs s_law_pairs) (defBody s_law_pairs) (defScope s_law_pairs) .none kV11 dc11 pm11 an11 cd11 ct11), sl11⟩) (c11 : PySem.W.codeIn K cd11 "_law_pairs" = true) (k11 : PySem.W.keepIn K (.ref f11) = true)
    (a12 : PySem.W.nsIn K mainGlobals "_law_odd" = some (some (.ref f12))) (l12 : K.lookup f12 = some ⟨oc12, od12, .func (PySem.W.fnOf "_law_odd" "_law_odd" (defArgs s_law_odd) (defBody s_law_odd) (defScope s_law_odd) .none kV12 dc12 pm12 an12 cd12 ct12), sl12⟩) (c12 : PySem.W.codeIn K cd12 "_law_odd" = true) (k12 : PySem.W.keepIn K (.ref f12) = true)
    (a13 : PySem.W.nsIn K mainGlobals "_law_spoilt" = some (some (.ref f13))) (l13 : K.lookup f13 = some ⟨oc13, od13, .func (PySem.W.fnOf "_law_spoilt" "_law_spoilt" (defArgs s_law_spoilt) (defBody s_law_spoilt) (defScope s_law_spoilt) .none kV13 dc13 pm13 an13 cd13 ct13), sl13⟩) (c13 : PySem.W.codeIn K cd13 "_law_spoilt" = true) (k13 : PySem.W.keepIn K (.ref f13) = true)
    (a14 : PySem.W.nsIn K mainGlobals "_law_thing" = some (some (.ref f14))) (l14 : K.lookup f14 = some ⟨oc14, od14, .func (PySem.W.fnOf "_law_thing" "_law_thing" (defArgs s_law_thing) (defBody s_law_thing) (defScope s_law_thing) .none kV14 dc14 pm14 an14 cd14 ct14), sl14⟩) (c14 : PySem.W.codeIn K cd14 "_law_thing" = true) (k14 : PySem.W.keepIn K (.ref f14) = true)
    (a15 : PySem.W.nsIn K mainGlobals "_law_whole" = some (some (.ref f15))) (l15 : K.lookup f15 = some ⟨oc15, od15, .func (PySem.W.fnOf "_law_whole" "_law_whole" (defArgs s_law_whole) (defBody s_law_whole) (defScope s_law_whole) .none kV15 dc15 pm15 an15 cd15 ct15), sl15⟩) (c15 : PySem.W.codeIn K cd15 "_law_whole" = true) (k15 : PySem.W.keepIn K (.ref f15) = true)
    (a16 : PySem.W.nsIn K mainGlobals "_law_is_hand" = some (some (.ref f16))) (l16 : K.lookup f16 = some ⟨oc16, od16, .func (PySem.W.fnOf "_law_is_hand" "_law_is_hand" (defArgs s_law_is_hand) (defBody s_law_is_hand) (defScope s_law_is_hand) .none kV16 dc16 pm16 an16 cd16 ct16), sl16⟩) (c16 : PySem.W.codeIn K cd16 "_law_is_hand" = true) (k16 : PySem.W.keepIn K (.ref f16) = true)
    (a17 : PySem.W.nsIn K mainGlobals "_law_is_book" = some (some (.ref f17))) (l17 : K.lookup f17 = some ⟨oc17, od17, .func (PySem.W.fnOf "_law_is_book" "_law_is_book" (defArgs s_law_is_book) (defBody s_law_is_book) (defScope s_law_is_book) .none kV17 dc17 pm17 an17 cd17 ct17), sl17⟩) (c17 : PySem.W.codeIn K cd17 "_law_is_book" = true) (k17 : PySem.W.keepIn K (.ref f17) = true)
    (a18 : PySem.W.nsIn K mainGlobals "_law_told" = some (some (.ref f18))) (l18 : K.lookup f18 = some ⟨oc18, od18, .func (PySem.W.fnOf "_law_told" "_law_told" (defArgs s_law_told) (defBody s_law_told) (defScope s_law_told) .none kV18 dc18 pm18 an18 cd18 ct18), sl18⟩) (c18 : PySem.W.codeIn K cd18 "_law_told" = true) (k18 : PySem.W.keepIn K (.ref f18) = true)
    (a19 : PySem.W.nsIn K mainGlobals "law" = some (some (.ref f19))) (l19 : K.lookup f19 = some ⟨oc19, od19, .func (PySem.W.fnOf "law" "law" (defArgs s_law) (defBody s_law) (defScope s_law) .none kV19 dc19 pm19 an19 cd19 ct19), sl19⟩) (c19 : PySem.W.codeIn K cd19 "law" = true) (k19 : PySem.W.keepIn K (.ref f19) = true)
    (ce19 : cd19 = .ref cc_law) (lc19 : K.lookup cc_law = some ⟨ev19, dv19, .fields vv19, sv19⟩) (lp19 : vv19[11]? = some (.ref P_law)) (np19 : K.lookup P_law = none)
    (z_int : PySem.W.nsIn K mainGlobals "int" = some none)
    (z_isinstance : PySem.W.nsIn K mainGlobals "isinstance" = some none)
    (z_bool : PySem.W.nsIn K mainGlobals "bool" = some none)
    (z_tuple : PySem.W.nsIn K mainGlobals "tuple" = some none)
    (z_len : PySem.W.nsIn K mainGlobals "len" = some none)
    (z_all : PySem.W.nsIn K mainGlobals "all" = some none)
    (z_sorted : PySem.W.nsIn K mainGlobals "sorted" = some none)
    (z_list : PySem.W.nsIn K mainGlobals "list" = some none)
    (z_range : PySem.W.nsIn K mainGlobals "range" = some none)
    (z_abs : PySem.W.nsIn K mainGlobals "abs" = some none)
    (z_enumerate : PySem.W.nsIn K mainGlobals "enumerate" = some none)
    (z_repr : PySem.W.nsIn K mainGlobals "repr" = some none)
    (z_str : PySem.W.nsIn K mainGlobals "str" = some none)
    (z_max : PySem.W.nsIn K mainGlobals "max" = some none)
    (i_LEAST_MANY : PySem.W.nsIn K mainGlobals "LEAST_MANY" = some (some (.int 2 t_LEAST_MANY)))
    (i_MOST_MANY : PySem.W.nsIn K mainGlobals "MOST_MANY" = some (some (.int 4 t_MOST_MANY)))
    (i_MOST_HANDS : PySem.W.nsIn K mainGlobals "MOST_HANDS" = some (some (.int 6 t_MOST_HANDS)))
    (xq_NoBook : PySem.W.excIn K C_NoBook [.type "ValueError", .type "Exception", .type "BaseException", .type "object"] "ValueError.__new__" = true) (xk_NoBook : PySem.W.keepIn K (.ref C_NoBook) = true) (xb_NoBook : PySem.W.subIn K (.ref C_NoBook) (.type "BaseException") = some true) (xt_NoBook : PySem.W.typeIn K (.ref C_NoBook) = some (.type "type"))
    (ex_NoBook_HandError : PySem.W.exmOne K (.ref C_NoBook) (.ref C_HandError) = some true)
    (kt_NoneType_NoText : PySem.W.kitOne K (.type "NoneType") (.ref C_NoText) = some false)
    (echg_NoBook : PySem.W.findIn K (.ref C_NoBook) "__getattribute__" = some (some (.builtin "BaseException.__getattribute__")))
    (echk_NoBook : PySem.W.findIn K (.ref C_NoBook) "__getattr__" = some none)
    (echs_NoBook : PySem.W.subIn K (.ref C_NoBook) (.type "BaseException") = some true)
    (echd_NoBook : PySem.W.hasDictIn K C_NoBook = true)
    (echa_NoBook : PySem.W.findIn K (.ref C_NoBook) "__class__" = some (some (.builtin "object.__class__")))
    (echn_NoBook : PySem.W.specialIn K (.builtin "object.__class__") "__get__" = some (some (.builtin "getset_descriptor.__get__")))
    (echt_NoBook : PySem.W.takesIn K (.builtin "object.__class__") = some true)
    (echm_NoBook : PySem.W.mroIn K C_NoBook (.type "object") = some true)
    (kt_NoBook_NoText : PySem.W.kitOne K (.ref C_NoBook) (.ref C_NoText) = some false)
    (kt_NoneType_NoDeed : PySem.W.kitOne K (.type "NoneType") (.ref C_NoDeed) = some false)
    (kt_NoBook_NoDeed : PySem.W.kitOne K (.ref C_NoBook) (.ref C_NoDeed) = some false)
    (kt_NoneType_InUse : PySem.W.kitOne K (.type "NoneType") (.ref C_InUse) = some false)
    (kt_NoBook_InUse : PySem.W.kitOne K (.ref C_NoBook) (.ref C_InUse) = some false)
    (kt_NoneType_NoName : PySem.W.kitOne K (.type "NoneType") (.ref C_NoName) = some false)
    (kt_NoBook_NoName : PySem.W.kitOne K (.ref C_NoBook) (.ref C_NoName) = some false)
    (kt_NoneType_TooMany : PySem.W.kitOne K (.type "NoneType") (.ref C_TooMany) = some false)
    (kt_NoBook_TooMany : PySem.W.kitOne K (.ref C_NoBook) (.ref C_TooMany) = some false)
    (kt_NoneType_NoNumber : PySem.W.kitOne K (.type "NoneType") (.ref C_NoNumber) = some false)
    (kt_NoBook_NoNumber : PySem.W.kitOne K (.ref C_NoBook) (.ref C_NoNumber) = some false)
    (kt_NoneType_NoMachine : PySem.W.kitOne K (.type "NoneType") (.ref C_NoMachine) = some false)
    (kt_NoBook_NoMachine : PySem.W.kitOne K (.ref C_NoBook) (.ref C_NoMachine) = some false)
    (kt_NoneType_NoRow : PySem.W.kitOne K (.type "NoneType") (.ref C_NoRow) = some false)
    (kt_NoBook_NoRow : PySem.W.kitOne K (.ref C_NoBook) (.ref C_NoRow) = some false)
    (kt_NoneType_NoWord : PySem.W.kitOne K (.type "NoneType") (.ref C_NoWord) = some false)
    (kt_NoBook_NoWord : PySem.W.kitOne K (.ref C_NoBook) (.ref C_NoWord) = some false)
    (kt_NoneType_NoBook : PySem.W.kitOne K (.type "NoneType") (.ref C_NoBook) = some false)
    (kt_NoBook_NoBook : PySem.W.kitOne K (.ref C_NoBook) (.ref C_NoBook) = some true)
    (kt_NoneType_NoTurn : PySem.W.kitOne K (.type "NoneType") (.ref C_NoTurn) = some false)
    (kt_NoBook_NoTurn : PySem.W.kitOne K (.ref C_NoBook) (.ref C_NoTurn) = some false) (own : ∀ nm ∈ [("law" : Str)], OwnT K mg h nm) :
    ∃ (fd : FuncData) (T : List Tb), (T.map (·.2.1)).Nodup ∧ (∀ t ∈ T, h.get? t.2.1 = some emptyTab) ∧ (∀ t ∈ T, K.lookup t.2.1 = none) ∧ (∀ t ∈ T, PySem.W.CodeHd h t.1 t.2.1) ∧ (∀ (s : Shared) (v : Value), BindsTo s fd ⟨[v], []⟩ [("_law_script", v)]) ∧ ∀ base : Heap, K.In base → base.Ns mainGlobals mg → (∀ t ∈ T, TabB base mg t.1 t.2.1) → FnDG l.prog w K mg base 11 fa fd ["_law_script"] (spLawT 63 T) := by
  have e := hfa.symm.trans (PySem.W.mg_of X G a19)
  cases e
  have F0 := fun_mk (st := s_is_whole) l0 c0 k0
  have F1 := fun_mk (st := s_is_between) l1 c1 k1
  have F2 := fun_mk (st := s_is_turn) l2 c2 k2
  have F3 := fun_mk (st := s_is_hand) l3 c3 k3
  have F4 := fun_mk (st := s_are_hands) l4 c4 k4
  have F5 := fun_mk (st := s_Book___init__) l5 c5 k5
  have F6 := fun_mk (st := s_Book_letters) l6 c6 k6
  have F7 := fun_mk (st := s_Book_told) l7 c7 k7
  have F8 := fun_mk (st := s_law_state) l8 c8 k8
  have F9 := fun_mk (st := s_law_next) l9 c9 k9
  have F10 := fun_mk (st := s_law_turn) l10 c10 k10
  have F11 := fun_mk (st := s_law_pairs) l11 c11 k11
  have F12 := fun_mk (st := s_law_odd) l12 c12 k12
  have F13 := fun_mk (st := s_law_spoilt) l13 c13 k13
  have F14 := fun_mk (st := s_law_thing) l14 c14 k14
  have F15 := fun_mk (st := s_law_whole) l15 c15 k15
  have F16 := fun_mk (st := s_law_is_hand) l16 c16 k16
  have F17 := fun_mk (st := s_law_is_book) l17 c17 k17
  have F18 := fun_mk (st := s_law_told) l18 c18 k18
  have F19 := fun_mk (st := s_law) l19 c19 k19
  have z_int := PySem.W.mg_none_of X G z_int
  have z_isinstance := PySem.W.mg_none_of X G z_isinstance
  have z_bool := PySem.W.mg_none_of X G z_bool
  have z_tuple := PySem.W.mg_none_of X G z_tuple
  have z_len := PySem.W.mg_none_of X G z_len
  have z_all := PySem.W.mg_none_of X G z_all
  have z_sorted := PySem.W.mg_none_of X G z_sorted
  have z_list := PySem.W.mg_none_of X G z_list
  have z_range := PySem.W.mg_none_of X G z_range
  have z_abs := PySem.W.mg_none_of X G z_abs
  have z_enumerate := PySem.W.mg_none_of X G z_enumerate
  have z_repr := PySem.W.mg_none_of X G z_repr
  have z_str := PySem.W.mg_none_of X G z_str
  have z_max := PySem.W.mg_none_of X G z_max
  have i_LEAST_MANY : GI mg "LEAST_MANY" 2 := ⟨_, PySem.W.mg_of X G i_LEAST_MANY⟩
  have i_MOST_MANY : GI mg "MOST_MANY" 4 := ⟨_, PySem.W.mg_of X G i_MOST_MANY⟩
  have i_MOST_HANDS : GI mg "MOST_HANDS" 6 := ⟨_, PySem.W.mg_of X G i_MOST_HANDS⟩
  have g_Book := PySem.W.mg_of X G g_Book
  have g_NoBook := PySem.W.mg_of X G g_NoBook
  have g_HandError := PySem.W.mg_of X G g_HandError
  have g_NoText := PySem.W.mg_of X G g_NoText
  have g_NoDeed := PySem.W.mg_of X G g_NoDeed
  have g_InUse := PySem.W.mg_of X G g_InUse
  have g_NoName := PySem.W.mg_of X G g_NoName
  have g_TooMany := PySem.W.mg_of X G g_TooMany
  have g_NoNumber := PySem.W.mg_of X G g_NoNumber
  have g_NoMachine := PySem.W.mg_of X G g_NoMachine
  have g_NoRow := PySem.W.mg_of X G g_NoRow
  have g_NoWord := PySem.W.mg_of X G g_NoWord
  have g_NoTurn := PySem.W.mg_of X G g_NoTurn
  have cl_Book : Cls K C_Book := ⟨cl1_Book, cl2_Book, cl3_Book, cl4_Book⟩
  have x_NoBook : ExcF K mg "NoBook" C_NoBook := ⟨xq_NoBook, g_NoBook, xk_NoBook, xb_NoBook, xt_NoBook⟩
  have ow19 := own "law" (by simp) _ cc_law P_law _ _ _ _ _ _ (PySem.W.mg_of X G a19) l19 rfl ce19 lc19 lp19
  refine ⟨PySem.W.fnOf "law" "law" (defArgs s_law) (defBody s_law) (defScope s_law) .none kV19 dc19 pm19 an19 cd19 ct19, [(cc_law, P_law, lamQ "law")], (by simp), (all_cons ow19.1 (fun _ z => nomatch z)), (all_cons np19 (fun _ z => nomatch z)), (all_cons ow19.2 (fun _ z => nomatch z)), fun s v => .of_eq rfl, fun base _ _ TB => ?_⟩
  let d_is_whole := mk_is_whole (P := l.prog) (w := w) (base := base) F0 (PySem.W.mg_of X G a0) z_int z_isinstance z_bool
  let d_Book_letters := mk_Book_letters (P := l.prog) (w := w) (mg := mg) (base := base) F6 ⟨a6, i6, k6⟩ g_Book cl_Book na_Book_many
  let d_Book_told := mk_Book_told (P := l.prog) (w := w) (mg := mg) (base := base) F7 ⟨a7, i7, k7⟩ g_Book cl_Book na_Book_pairs z_list
  let d_law_state := mk_law_state (P := l.prog) (w := w) (base := base) F8 (PySem.W.mg_of X G a8) z_len z_abs z_enumerate
  let d_law_next := mk_law_next (P := l.prog) (w := w) (base := base) F9 (PySem.W.mg_of X G a9) 
  let d_law_whole := mk_law_whole (P := l.prog) (w := w) (base := base) F15 (PySem.W.mg_of X G a15) z_int z_isinstance z_bool
  let d_is_between := mk_is_between (P := l.prog) (w := w) (base := base) F1 (PySem.W.mg_of X G a1) d_is_whole
  let d_law_turn := mk_law_turn (P := l.prog) (w := w) (base := base) F10 (PySem.W.mg_of X G a10) z_list z_range d_law_next z_len z_tuple
  let d_law_odd := mk_law_odd (P := l.prog) (w := w) (base := base) F12 (PySem.W.mg_of X G a12) d_law_next
  let d_law_is_hand := mk_law_is_hand (P := l.prog) (w := w) (base := base) F16 (PySem.W.mg_of X G a16) z_tuple z_isinstance z_len z_repr z_sorted z_range z_str d_law_whole z_all
  let d_is_turn := mk_is_turn (P := l.prog) (w := w) (base := base) F2 (PySem.W.mg_of X G a2) z_tuple z_isinstance i_LEAST_MANY z_len i_MOST_MANY d_is_between z_all z_sorted z_list z_range
  let d_law_pairs := mk_law_pairs (P := l.prog) (w := w) (base := base) F11 (PySem.W.mg_of X G a11) d_law_next z_range d_law_turn z_tuple
  let d_law_spoilt := mk_law_spoilt (P := l.prog) (w := w) (base := base) F13 (PySem.W.mg_of X G a13) d_law_next z_len d_law_odd z_list
  let d_law_is_book := mk_law_is_book (P := l.prog) (w := w) (base := base) F17 (PySem.W.mg_of X G a17) d_law_whole z_tuple z_list z_isinstance z_len d_law_is_hand z_all
  let d_is_hand := mk_is_hand (P := l.prog) (w := w) (base := base) F3 (PySem.W.mg_of X G a3) z_tuple z_isinstance z_len d_is_turn d_is_between z_all
  let d_law_thing := mk_law_thing (P := l.prog) (w := w) (base := base) F14 (PySem.W.mg_of X G a14) d_law_next d_law_odd d_law_pairs z_len d_law_spoilt z_tuple
  let d_are_hands := mk_are_hands (P := l.prog) (w := w) (base := base) F4 (PySem.W.mg_of X G a4) z_tuple z_list z_isinstance z_len i_MOST_HANDS d_is_hand z_all
  let d_Book___init__ := mk_Book___init__ (P := l.prog) (w := w) (mg := mg) (base := base) F5 ⟨a5, i5, k5⟩ g_Book g_NoBook d_is_between i_MOST_MANY i_LEAST_MANY d_are_hands x_NoBook cl_Book na_Book_many na_Book_pairs z_list
  exact (mk_law (P := l.prog) (w := w) (base := base) F19 (PySem.W.mg_of X G a19) g_Book z_len z_max z_range d_law_state d_law_next d_law_thing F18 (PySem.W.mg_of X G a18) (F18.binds (ps := ["_law_work"]) fun _ _ _ _ _ _ us hl => match us, hl with | [_], _ => rfl) (fun X2 cdv h1 h2 => by cases h1; cases h2; exact mk_law_told (X := X2) (by decide) g_NoBook g_HandError ex_NoBook_HandError g_NoText kt_NoneType_NoText ⟨echg_NoBook, echk_NoBook, echs_NoBook, echd_NoBook, echa_NoBook, echn_NoBook, echt_NoBook, echm_NoBook⟩ kt_NoBook_NoText z_isinstance g_NoDeed kt_NoneType_NoDeed kt_NoBook_NoDeed g_InUse kt_NoneType_InUse kt_NoBook_InUse g_NoName kt_NoneType_NoName kt_NoBook_NoName g_TooMany kt_NoneType_TooMany kt_NoBook_TooMany g_NoNumber kt_NoneType_NoNumber kt_NoBook_NoNumber g_NoMachine kt_NoneType_NoMachine kt_NoBook_NoMachine g_NoRow kt_NoneType_NoRow kt_NoBook_NoRow g_NoWord kt_NoneType_NoWord kt_NoBook_NoWord kt_NoneType_NoBook kt_NoBook_NoBook g_NoTurn kt_NoneType_NoTurn kt_NoBook_NoTurn) (TB (cc_law, P_law, lamQ "law") (by simp)) ce19 g_NoBook d_Book___init__ (mkB_of (ix := [1, 0]) F5 fun _ _ _ _ _ _ _ ws hl => match ws, hl with | [_, _], _ => rfl) d_law_is_book cl_Book d_Book_told d_Book_letters z_repr z_list ⟨mk1_Book, a5, i5, mk2_Book⟩).ok
end
end L2.Lh
open PySem PySem.W PyProof.Rows
set_option maxHeartbeats 0 in
theorem PySem.Challenge.cw_letterhand_k05_books_refused_holds : PySem.Challenge.rw_letterhand_k05_books_refused.Holds := by
  w_on; o_law; k_head; (case hw => w_witness2)
  k_fill
  refine L2.Lh.walkGT (l := PySem.Challenge.rw_letterhand_k05_books_refused) (n := 63) (k := 11) (x := "_law_script") [("law" : Str)] rfl (by decide) rfl ⟨rfl, by decide, by decide⟩ (by decide +kernel) (by first | exact fun w h Y => PySem.W.km_in_of Y | exact fun w h Y => PySem.W.kIn_of Y) ?F
  case F =>
    intro w mg fa h KX G hmg own
    refine' L2.Lh.all_mk KX G hmg ?g_Book ?g_NoBook ?g_HandError ?g_NoText ?g_NoDeed ?g_InUse ?g_NoName ?g_TooMany ?g_NoNumber ?g_NoMachine ?g_NoRow ?g_NoWord ?g_NoTurn ?cl1_Book ?cl2_Book ?cl3_Book ?cl4_Book ?na_Book_many ?na_Book_pairs ?mk1_Book ?mk2_Book ?a0 ?l0 ?c0 ?k0 ?a1 ?l1 ?c1 ?k1 ?a2 ?l2 ?c2 ?k2 ?a3 ?l3 ?c3 ?k3 ?a4 ?l4 ?c4 ?k4 ?a5 ?l5 ?c5 ?k5 ?i5 ?a6 ?l6 ?c6 ?k6 ?i6 ?a7 ?l7 ?c7 ?k7 ?i7 ?a8 ?l8 ?c8 ?k8 ?a9 ?l9 ?c9 ?k9 ?a10 ?l10 ?c10 ?k10 ?a11 ?l11 ?c11 ?k11 ?a12 ?l12 ?c12 ?k12 ?a13 ?l13 ?c13 ?k13 ?a14 ?l14 ?c14 ?k14 ?a15 ?l15 ?c15 ?k15 ?a16 ?l16 ?c16 ?k16 ?a17 ?l17 ?c17 ?k17 ?a18 ?l18 ?c18 ?k18 ?a19 ?l19 ?c19 ?k19 ?ce19 ?lc19 ?lp19 ?np19 ?z_int ?z_isinstance ?z_bool ?z_tuple ?z_len ?z_all ?z_sorted ?z_list ?z_range ?z_abs ?z_enumerate ?z_repr ?z_str ?z_max ?i_LEAST_MANY ?i_MOST_MANY ?i_MOST_HANDS ?xq_NoBook ?xk_NoBook ?xb_NoBook ?xt_NoBook ?ex_NoBook_HandError ?kt_NoneType_NoText ?echg_NoBook ?echk_NoBook ?echs_NoBook ?echd_NoBook ?echa_NoBook ?echn_NoBook ?echt_NoBook ?echm_NoBook ?kt_NoBook_NoText ?kt_NoneType_NoDeed ?kt_NoBook_NoDeed ?kt_NoneType_InUse ?kt_NoBook_InUse ?kt_NoneType_NoName ?kt_NoBook_NoName ?kt_NoneType_TooMany ?kt_NoBook_TooMany ?kt_NoneType_NoNumber ?kt_NoBook_NoNumber ?kt_NoneType_NoMachine ?kt_NoBook_NoMachine ?kt_NoneType_NoRow ?kt_NoBook_NoRow ?kt_NoneType_NoWord ?kt_NoBook_NoWord ?kt_NoneType_NoBook ?kt_NoBook_NoBook ?kt_NoneType_NoTurn ?kt_NoBook_NoTurn own
    (case g_Book => k_is); (case g_NoBook => k_is); (case g_HandError => k_is); (case g_NoText => k_is); (case g_NoDeed => k_is); (case g_InUse => k_is); (case g_NoName => k_is); (case g_TooMany => k_is); (case g_NoNumber => k_is); (case g_NoMachine => k_is); (case g_NoRow => k_is); (case g_NoWord => k_is); (case g_NoTurn => k_is); (case cl1_Book => k_is); (case cl2_Book => k_is); (case cl3_Book => k_is); (case cl4_Book => k_is); (case na_Book_many => k_is); (case na_Book_pairs => k_is); (case mk1_Book => k_is); (case mk2_Book => k_is); (case a0 => k_is); (case l0 => k_is); (case c0 => k_is); (case k0 => k_is); (case a1 => k_is); (case l1 => k_is); (case c1 => k_is); (case k1 => k_is); (case a2 => k_is); (case l2 => k_is); (case c2 => k_is); (case k2 => k_is); (case a3 => k_is); (case l3 => k_is); (case c3 => k_is); (case k3 => k_is); (case a4 => k_is); (case l4 => k_is); (case c4 => k_is); (case k4 => k_is); (case a5 => k_is); (case l5 => k_is); (case c5 => k_is); (case k5 => k_is); (case i5 => k_is); (case a6 => k_is); (case l6 => k_is); (case c6 => k_is); (case k6 => k_is); (case i6 => k_is); (case a7 => k_is); (case l7 => k_is); (case c7 => k_is); (case k7 => k_is); (case i7 => k_is); (case a8 => k_is); (case l8 => k_is); (case c8 => k_is); (case k8 => k_is); (case a9 => k_is); (case l9 => k_is); (case c9 => k_is); (case k9 => k_is); (case a10 => k_is); (case l10 => k_is); (case c10 => k_is); (case k10 => k_is); (case a11 => k_is); (case l11 => k_is); (case c11 => k_is); (case k11 => k_is); (case a12 => k_is); (case l12 => k_is); (case c12 => k_is); (case k12 => k_is); (case a13 => k_is); (case l13 => k_is); (case c13 => k_is); (case k13 => k_is); (case a14 => k_is); (case l14 => k_is); (case c14 => k_is); (case k14 => k_is); (case a15 => k_is); (case l15 => k_is); (case c15 => k_is); (case k15 => k_is); (case a16 => k_is); (case l16 => k_is); (case c16 => k_is); (case k16 => k_is); (case a17 => k_is); (case l17 => k_is); (case c17 => k_is); (case k17 => k_is); (case a18 => k_is); (case l18 => k_is); (case c18 => k_is); (case k18 => k_is); (case a19 => k_is); (case l19 => k_is); (case c19 => k_is); (case k19 => k_is); (case ce19 => rfl); (case lc19 => k_is); (case lp19 => rfl); (case np19 => kernel_rfl); (case z_int => k_is); (case z_isinstance => k_is); (case z_bool => k_is); (case z_tuple => k_is); (case z_len => k_is); (case z_all => k_is); (case z_sorted => k_is); (case z_list => k_is); (case z_range => k_is); (case z_abs => k_is); (case z_enumerate => k_is); (case z_repr => k_is); (case z_str => k_is); (case z_max => k_is); (case i_LEAST_MANY => k_is); (case i_MOST_MANY => k_is); (case i_MOST_HANDS => k_is); (case xq_NoBook => k_exc); (case xk_NoBook => k_is); (case xb_NoBook => k_is); (case xt_NoBook => k_is); (case ex_NoBook_HandError => kts_exm); (case kt_NoneType_NoText => kit_is); (case echg_NoBook => k_is); (case echk_NoBook => k_is); (case echs_NoBook => k_is); (case echd_NoBook => k_is); (case echa_NoBook => k_is); (case echn_NoBook => k_is); (case echt_NoBook => k_is); (case echm_NoBook => k_is); (case kt_NoBook_NoText => kit_is); (case kt_NoneType_NoDeed => kit_is); (case kt_NoBook_NoDeed => kit_is); (case kt_NoneType_InUse => kit_is); (case kt_NoBook_InUse => kit_is); (case kt_NoneType_NoName => kit_is); (case kt_NoBook_NoName => kit_is); (case kt_NoneType_TooMany => kit_is); (case kt_NoBook_TooMany => kit_is); (case kt_NoneType_NoNumber => kit_is); (case kt_NoBook_NoNumber => kit_is); (case kt_NoneType_NoMachine => kit_is); (case kt_NoBook_NoMachine => kit_is); (case kt_NoneType_NoRow => kit_is); (case kt_NoBook_NoRow => kit_is); (case kt_NoneType_NoWord => kit_is); (case kt_NoBook_NoWord => kit_is); (case kt_NoneType_NoBook => kit_is); (case kt_NoBook_NoBook => kit_is); (case kt_NoneType_NoTurn => kit_is); (case kt_NoBook_NoTurn => kit_is)
