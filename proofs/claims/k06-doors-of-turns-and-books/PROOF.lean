import PyProof.Rows.All
import Wide.All
import OpenK.AllK
import Wide.FinOn
import HandS.ForMost
import HandS.ForExc
import KE.KDictKeyed
import HandS.Lambda
import HandS.ExcInit
import HandS.IsInst
import HandS.TupAny
import HandS.TupMul
import HandS.Conv
import HandS.Rev
import HandS.Remove
import PyProof.ReprLen
import HandS.RaiseMore
import KE.KIndexOf
import KE.KDictDisplayH
import KE.GoesMore
import HandS.ExcIs
import HandS.Style
import HandS.More
import HandS.Deep
import PyProof.P3In
import KE.RegKIsAll
import KE.RegKTryMore
import PyProof.Rows.InDataRows
import HandS.EndTab
import HandS.TryOnly
import HandS.EndOwn
import HandS.Text
import HandS.Wide
import KE.GoesZip
import HandS.Zip
import HandS.RaiseOp
import KE.KDictCopyH
import KE.KEqDict
import PyProof.CallStr
import PyProof.EqKinds
import HandS.MakeKwOnly
import KE.KDictItemsList
import PyProof.StrOps2
import HandS.TupSets
import KE.KDictSum
import HandS.List
import HandS.RevRange
import HandS.Defaults
import HandS.Dict
import HandS.SortInts
import HandS.TryMany
import PyProof.ReprRoads
import HandS.HotCalls
import HandS.SuiteRaise
import HandS.ExcInitHot
import HandS.RaiseFrom
import HandS.ExcField
import HandS.NoneIn
import PyProof.EqAt
import PyProof.NeKinds
import HandS.FStr
import KE.KFmtOwn
import PyProof.InstNe
import HandS.Head0
import HandS.Head1
import HandS.Head2
import HandS.HeadHook1
import HandS.HeadHook2
import HandS.Flow
import KE.KExcIs
import PySem.Challenge.RW_letterhand_k06_doors_of_turns_and_books
set_option Elab.async false
set_option linter.all false
set_option maxRecDepth 100000
set_option maxHeartbeats 4000000
/-! Lh: plain data over HandS: tuples are values, lists and instances stand in a small memory. -/
namespace L2.Lh
open PySem PySem.Spec PyProof.Rows

inductive D where
  | non | bl (b : Bool) | int (i : Int) | str (x : Str) | ty (n : String) | ref (a : Addr) | tup (xs : List D) | rol (xs : List D) | ftup (xs : List D)

mutual
inductive Rep (K : PySem.W.Frag) (H : Hp) : D → V → Prop
  | non : Rep K H .non .non
  | bl (b : Bool) : Rep K H (.bl b) (.bl b)
  | int (i : Int) : Rep K H (.int i) (.int i)
  | str (x : Str) : Rep K H (.str x) (.str x)
  | ty (n : String) : Rep K H (.ty n) (.ty n)
  | ref (a : Addr) : Rep K H (.ref a) (.ref a)
  | tup {a : Addr} {vs : List V} {ds : List D} : H a = some (.tup vs) → Reps K H ds vs → Rep K H (.tup ds) (.ref a)
  | rol {a : Addr} {vs : List V} {ds : List D} : ((∃ o, H a = some (.frz o (.lst vs))) ∨ (∃ (o : Obj) (its : Array Value) (n : Nat), K.lookup a = some o ∧ o.cls = .type "list" ∧ o.dict = none ∧ o.data = .seq its n ∧ its.size ≤ sizeLine ∧ Vals vs its.toList)) → Reps K H ds vs → Rep K H (.rol ds) (.ref a)
  | ftup {a : Addr} {o : Obj} {vs : List V} {ds : List D} : H a = some (.frz o (.tup vs)) → o.dict = none → Reps K H ds vs → Rep K H (.ftup ds) (.ref a)
inductive Reps (K : PySem.W.Frag) (H : Hp) : List D → List V → Prop
  | nil : Reps K H [] []
  | cons {d : D} {v : V} {ds : List D} {vs : List V} : Rep K H d v → Reps K H ds vs → Reps K H (d :: ds) (v :: vs)
end

/-- a lambda as it is written -/
structure LamSyn where
  params : Arguments
  body : Expr
  scope : Scope

inductive MO where
  | lst (xs : List D)
  | ins (C : Addr) (fs : List (Str × D))
  | exc (cls : Value)
  | xd (fs : List (Str × D))
  | dK (kvs : List (Key × D))
  | dN (kvs : List (NestedKey × D))
  | dR (kvs : List (NestedKey × D)) (es : Array DictEntry) (ep : Nat) (ds : List D)
  | tbl (q : Str)
  | dF (kvs : List (Key × D))
  | lam (nm : Str) (L : LamSyn) (fr : List Str) (CL : List (Str × Addr))
  | clo (nm : Str) (L : LamSyn) (ds : List (Str × D))
  | own (C : Addr) (f : Str) (d : D)
/-- all but what is frozen may be written -/
def MO.mut : MO → Bool
  | .dF _ => false
  | .lam .. => false
  | .clo .. => false
  | .own .. => false
  | _ => true
abbrev Mem := Addr → Option MO
def Mem.set (m : Mem) (a : Addr) (o : MO) : Mem := fun b => if b = a then some o else m b
theorem Mem.set_same {m : Mem} {a : Addr} {o : MO} : (m.set a o) a = some o := if_pos rfl
theorem Mem.set_ne {m : Mem} {a b : Addr} {o : MO} (h : b ≠ a) : (m.set a o) b = m b := if_neg h
theorem Mem.set_set {m : Mem} {a : Addr} {o u : MO} : (m.set a o).set a u = m.set a u := by
  funext b; unfold Mem.set; split <;> rfl
theorem Mem.set_comm {m : Mem} {a b : Addr} {o u : MO} (h : a ≠ b) : (m.set a o).set b u = (m.set b u).set a o := by
  funext c
  unfold Mem.set
  by_cases h1 : c = a
  · subst h1; rw [if_neg h]; simp
  · by_cases h2 : c = b
    · subst h2; simp [h1]
    · simp [h1, h2]
theorem Mem.set_id {m : Mem} {a : Addr} {o : MO} (h : m a = some o) : m.set a o = m := by
  funext b; unfold Mem.set; split
  · rename_i e; rw [e, h]
  · rfl
theorem Mem.ne_of {m : Mem} {a b : Addr} {o : MO} (h : m a = some o) (h' : m b = none) : b ≠ a := fun e => by
  rw [e, h] at h'; cases h'
theorem Mem.ne_of' {m : Mem} {a b : Addr} {o : MO} (h : m a = some o) (h' : m b = none) : a ≠ b := (Mem.ne_of h h').symm

/-- one memory within another -/
def Mem.le (m m' : Mem) : Prop := ∀ a o, m a = some o → m' a = some o
theorem Mem.le_refl (m : Mem) : m.le m := fun _ _ h => h
theorem Mem.le_set {m : Mem} {a : Addr} {o : MO} (h : m a = none) : m.le (m.set a o) := fun b u e => by
  rw [Mem.set_ne (Mem.ne_of' e h)]; exact e
theorem Mem.le_trans {m m1 m2 : Mem} (a : m.le m1) (b : m1.le m2) : m.le m2 := fun c o h => b c o (a c o h)
theorem Mem.le_set_of {m m' : Mem} {a : Addr} {o : MO} (l : m.le m') (h : m a = none) : m.le (m'.set a o) := fun b u e => by
  rw [Mem.set_ne (Mem.ne_of' e h)]; exact l b u e
theorem Mem.le_none {m m' : Mem} {a : Addr} (l : m.le m') (h : m' a = none) : m a = none := by
  cases e : m a with
  | none => rfl
  | some o => rw [l a o e] at h; cases h
theorem Mem.set_le {m m' : Mem} {a : Addr} {o : MO} (l : m.le m') : (m.set a o).le (m'.set a o) := fun b u e => by
  by_cases h : b = a
  · subst h; rw [Mem.set_same] at e ⊢; exact e
  · rw [Mem.set_ne h] at e ⊢; exact l b u e

/-! ### how the abstract heap moves -/
structure Ext (H H' : Hp) : Prop where
  tup : ∀ b xs, H b = some (.tup xs) → H' b = some (.tup xs)
  frz : ∀ b o u, H b = some (.frz o u) → H' b = some (.frz o u)
  cod : ∀ b q, H b = some (LamX.CodeO b q) → H' b = some (LamX.CodeO b q)
theorem Ext.refl (H : Hp) : Ext H H := ⟨fun _ _ h => h, fun _ _ _ h => h, fun _ _ h => h⟩
theorem Ext.trans {H H1 H2 : Hp} (a : Ext H H1) (b : Ext H1 H2) : Ext H H2 := ⟨fun c xs h => b.tup c xs (a.tup c xs h), fun c o u h => b.frz c o u (a.frz c o u h), fun c q h => b.cod c q (a.cod c q h)⟩
structure Step (H : Hp) (m : Mem) (H' : Hp) (m' : Mem) : Prop where
  ext : Ext H H'
  dom : ∀ b, H' b = none → H b = none
  keep : ∀ b o, m b = none → H b = some o → H' b = some o
  new : ∀ b o, m b = none → H b = some o → m' b = none
theorem Step.refl (H : Hp) (m : Mem) : Step H m H m := ⟨Ext.refl H, fun _ h => h, fun _ _ _ h => h, fun _ _ h _ => h⟩
theorem Step.trans {H H1 H2 : Hp} {m m1 m2 : Mem} (a : Step H m H1 m1) (b : Step H1 m1 H2 m2) : Step H m H2 m2 :=
  ⟨a.ext.trans b.ext, fun c h => a.dom c (b.dom c h),
    fun c o n h => b.keep c o (a.new c o n h) (a.keep c o n h), fun c o n h => b.new c o (a.new c o n h) (a.keep c o n h)⟩
theorem Step.forget {H H' : Hp} {m m' m'' : Mem} (a : Step H m H' m') (l : m''.le m') : Step H m H' m'' :=
  ⟨a.ext, a.dom, a.keep, fun b o n h => Mem.le_none l (a.new b o n h)⟩

mutual
theorem Rep.mono {K : PySem.W.Frag} {H H' : Hp} (t : Ext H H') : ∀ {d : D} {v : V}, Rep K H d v → Rep K H' d v
  | _, _, .non => .non
  | _, _, .bl b => .bl b
  | _, _, .int i => .int i
  | _, _, .str x => .str x
  | _, _, .ty n => .ty n
  | _, _, .ref a => .ref a
  | _, _, .tup h r => .tup (t.tup _ _ h) (Reps.mono t r)
  | _, _, .ftup h n r => .ftup (t.frz _ _ _ h) n (Reps.mono t r)
  | _, _, .rol h r => .rol (by
      rcases h with ⟨o, h⟩ | h
      · exact .inl ⟨o, t.frz _ _ _ h⟩
      · exact .inr h) (Reps.mono t r)
theorem Reps.mono {K : PySem.W.Frag} {H H' : Hp} (t : Ext H H') : ∀ {ds : List D} {vs : List V}, Reps K H ds vs → Reps K H' ds vs
  | _, _, .nil => .nil
  | _, _, .cons h r => .cons (Rep.mono t h) (Reps.mono t r)
end
theorem Reps.length {K : PySem.W.Frag} {H : Hp} : ∀ {ds : List D} {vs : List V}, Reps K H ds vs → ds.length = vs.length
  | _, _, .nil => rfl
  | _, _, .cons _ r => by rw [List.length_cons, List.length_cons, Reps.length r]
theorem Reps.append {K : PySem.W.Frag} {H : Hp} : ∀ {ds es : List D} {vs us : List V}, Reps K H ds vs → Reps K H es us → Reps K H (ds ++ es) (vs ++ us)
  | _, _, _, _, .nil, s => s
  | _, _, _, _, .cons h r, s => .cons h (Reps.append r s)
theorem Reps.get {K : PySem.W.Frag} {H : Hp} : ∀ {ds : List D} {vs : List V} {i : Nat} {d : D}, Reps K H ds vs → ds[i]? = some d → ∃ v, vs[i]? = some v ∧ Rep K H d v
  | _, _, _, _, .nil, e => by simp at e
  | _, _, 0, _, .cons h _, e => by simp at e; subst e; exact ⟨_, rfl, h⟩
  | _, _, i + 1, _, .cons _ r, e => by
    obtain ⟨v, h1, h2⟩ := Reps.get (i := i) r (by simpa using e)
    exact ⟨v, by simpa using h1, h2⟩
theorem Reps.set {K : PySem.W.Frag} {H : Hp} {d : D} {v : V} (h : Rep K H d v) : ∀ {ds : List D} {vs : List V} (i : Nat), Reps K H ds vs → Reps K H (ds.set i d) (vs.set i v)
  | _, _, _, .nil => .nil
  | _, _, 0, .cons _ r => .cons h r
  | _, _, i + 1, .cons q r => .cons q (Reps.set h i r)
theorem Reps.take {K : PySem.W.Frag} {H : Hp} : ∀ {ds : List D} {vs : List V} (n : Nat), Reps K H ds vs → Reps K H (ds.take n) (vs.take n)
  | _, _, 0, _ => .nil
  | _, _, _ + 1, .nil => .nil
  | _, _, n + 1, .cons h r => .cons h (Reps.take n r)
theorem Reps.drop {K : PySem.W.Frag} {H : Hp} : ∀ {ds : List D} {vs : List V} (n : Nat), Reps K H ds vs → Reps K H (ds.drop n) (vs.drop n)
  | _, _, 0, r => r
  | _, _, _ + 1, .nil => .nil
  | _, _, n + 1, .cons _ r => Reps.drop n r
theorem Reps.eraseIdx {K : PySem.W.Frag} {H : Hp} : ∀ {ds : List D} {vs : List V} (n : Nat), Reps K H ds vs → Reps K H (ds.eraseIdx n) (vs.eraseIdx n)
  | _, _, _, .nil => .nil
  | _, _, 0, .cons _ r => r
  | _, _, n + 1, .cons h r => .cons h (Reps.eraseIdx n r)
theorem Reps.dropLast {K : PySem.W.Frag} {H : Hp} {ds : List D} {vs : List V} (h : Reps K H ds vs) : Reps K H ds.dropLast vs.dropLast := by
  rw [List.dropLast_eq_take, List.dropLast_eq_take, ← h.length]; exact h.take _
theorem Reps.rep {K : PySem.W.Frag} {H : Hp} {ds : List D} {vs : List V} (h : Reps K H ds vs) : ∀ k : Nat, Reps K H (List.replicate k ds).flatten (List.replicate k vs).flatten
  | 0 => .nil
  | k + 1 => by
    rw [List.replicate_succ, List.replicate_succ, List.flatten_cons, List.flatten_cons]
    exact h.append (Reps.rep h k)
theorem Reps.ints {K : PySem.W.Frag} {H : Hp} : ∀ (ns : List Int), Reps K H (ns.map D.int) (ns.map V.int)
  | [] => .nil
  | n :: ns => .cons (.int n) (Reps.ints ns)
theorem Reps.ofInts {K : PySem.W.Frag} {H : Hp} : ∀ {ns : List Int} {vs : List V}, Reps K H (ns.map D.int) vs → vs = ns.map V.int
  | [], _, h => by cases h; rfl
  | n :: ns, _, h => by
    rw [List.map_cons] at h
    cases h with
    | cons h r => cases h; rw [List.map_cons, Reps.ofInts r]
theorem Reps.ofBls {K : PySem.W.Frag} {H : Hp} : ∀ {bs : List Bool} {vs : List V}, Reps K H (bs.map D.bl) vs → vs = bs.map V.bl
  | [], _, h => by cases h; rfl
  | n :: ns, _, h => by
    rw [List.map_cons] at h
    cases h with
    | cons h r => cases h; rw [List.map_cons, Reps.ofBls r]
theorem Reps.ofStrs {K : PySem.W.Frag} {H : Hp} : ∀ {bs : List Str} {vs : List V}, Reps K H (bs.map D.str) vs → vs = bs.map V.str
  | [], _, h => by cases h; rfl
  | n :: ns, _, h => by
    rw [List.map_cons] at h
    cases h with
    | cons h r => cases h; rw [List.map_cons, Reps.ofStrs r]
theorem Reps.strs {K : PySem.W.Frag} {H : Hp} : ∀ (ns : List Str), Reps K H (ns.map D.str) (ns.map V.str)
  | [] => .nil
  | n :: ns => .cons (.str n) (Reps.strs ns)

/-- the memory's objects as they stand in the abstract heap -/
def RepF (K : PySem.W.Frag) (H : Hp) : List (Str × D) → List (Str × V) → Prop := Paired fun p q => p.1 = q.1 ∧ Rep K H p.2 q.2
def excIs (a : Addr) (cls : Value) : Heap → Prop := fun h => ∃ oe vs, h.get? a = some oe ∧ oe.cls = cls ∧ oe.dict = none ∧ oe.data = .fields vs
-- a thing as a key
mutual
def keyN : D → Option NestedKey
  | .non => some .none
  | .int i => some (.num i)
  | .tup xs => (keyNs xs).map .tup
  | .ftup xs => (keyNs xs).map .tup
  | _ => none
def keyNs : List D → Option (List NestedKey)
  | [] => some []
  | d :: ds => match keyN d, keyNs ds with
    | some k, some ks => some (k :: ks)
    | _, _ => none
end
def KeyRep (K : PySem.W.Frag) (H : Hp) (k : NestedKey) (a : Addr) : Prop := ∃ d, Rep K H d (.ref a) ∧ keyN d = some k ∧ k.depth ≤ 8
def rawIs (a : Addr) (es : Array DictEntry) (ep : Nat) : Heap → Prop := fun h => ∃ o, h.get? a = some o ∧ o.ExactDict ∧ o.data = .dict es ep
def RepK (K : PySem.W.Frag) (H : Hp) : List (Key × D) → List (Key × V) → Prop := Paired fun p q => p.1 = q.1 ∧ Rep K H p.2 q.2
def RepN (K : PySem.W.Frag) (H : Hp) : List (NestedKey × D) → List (NestedKey × Addr × Value) → Prop := Paired fun p x => p.1 = x.1 ∧ KeyRep K H x.1 x.2.1 ∧ ∃ v, Rep K H p.2 v ∧ RelV v x.2.2
structure RawN (K : PySem.W.Frag) (H : Hp) (a : Addr) (kvs : List (NestedKey × D)) (es : Array DictEntry) (ep : Nat) (xs : List (NestedKey × Addr × Value)) : Prop where
  ent : ∀ (P : Program) (w : World), es.toList = xs.map (entryOfKey (nestedKind P w))
  nd : (xs.map (·.1)).Nodup
  sz : xs.length ≤ sizeLine
  sys : (a == sysModules) = false
  rel : RepN K H kvs xs
/-- the object at f is a lambda's, of these cells -/
def LamAt (H : Hp) (f : Addr) (nm : Str) (L : LamSyn) (cl : List (Str × Addr)) : Prop :=
  ∃ (pm ctv : Value) (c' : Addr), H f = some (.frz (PySem.W.kla_obj "<lambda>" nm L.params L.body L.scope cl pm c' ctv) (.ext fun _ => True)) ∧ H c' = some (LamX.CodeO c' nm)
/-- a cell that is never written again -/
def CelAt (K : PySem.W.Frag) (H : Hp) (c : Addr) (d : D) : Prop := ∃ (o : Obj) (u : Value) (v : V), H c = some (.frz o (.ext fun _ => True)) ∧ o.data = .cell (some u) ∧ RelV v u ∧ Rep K H d v
def CelsAt (K : PySem.W.Frag) (H : Hp) : List (Str × D) → List (Str × Addr) → Prop := Paired fun p q => p.1 = q.1 ∧ CelAt K H q.2 p.2
/-- an own error of class C that is kept: its field f is d -/
def OwnErr (K : PySem.W.Frag) (H : Hp) (a C : Addr) (f : Str) (d : D) : Prop :=
  ∃ (oe od : Obj) (dx : Addr) (y : V), H a = some (.frz oe (exo a C (some dx))) ∧ H dx = some (.frz od (exd dx [(f, y)])) ∧ Rep K H d y
def RepO (K : PySem.W.Frag) (H : Hp) (a : Addr) : MO → Prop
  | .lst ds => ∃ vs, H a = some (.lst vs) ∧ Reps K H ds vs
  | .ins C fs => ∃ dx fv, H a = some (.ins C dx fv) ∧ RepF K H fs fv
  | .exc cls => H a = some (.ext (excIs a cls))
  | .xd fs => ∃ fv, H a = some (.xd fv) ∧ RepF K H fs fv
  | .dK kvs => ∃ kv, H a = some (.dK kv) ∧ RepK K H kvs kv
  | .dN kvs => ∃ es ep xs, H a = some (.ext (rawIs a es ep)) ∧ RawN K H a kvs es ep xs
  | .dR kvs es ep ds => H a = some (.ext (rawIs a es ep)) ∧ ∃ xs, RawN K H a kvs es ep xs ∧ Reps K H ds (xs.map fun x => V.ref x.2.1)
  | .tbl q => LamX.TabS H a q
  | .dF kvs => ∃ od kv, H a = some (.frz od (.dK kv)) ∧ RepK K H kvs kv
  | .lam nm L fr CL => LamAt H a nm L (L2.cloFrom CL L.scope.names []) ∧ (L2.cloFrom CL L.scope.names []).map (·.1) = fr ∧ ∀ y ∈ L.scope.names, y.2 = .free → ∃ c, CL.lookup y.1 = some c
  | .clo nm L ds => ∃ cl, LamAt H a nm L cl ∧ (∀ x y c, cl.lookup x = some c → cl.lookup y = some c → x = y) ∧ (∀ y ∈ L.scope.names, y.2 = .free → ∃ c, cl.lookup y.1 = some c) ∧ CelsAt K H ds cl
  | .own C f d => OwnErr K H a C f d
theorem LamAt.mono {H H' : Hp} (t : Ext H H') {f : Addr} {nm : Str} {L : LamSyn} {cl : List (Str × Addr)} (h : LamAt H f nm L cl) : LamAt H' f nm L cl :=
  let ⟨pm, ctv, c', e1, e2⟩ := h; ⟨pm, ctv, c', t.frz _ _ _ e1, t.cod _ _ e2⟩
theorem CelAt.mono {K : PySem.W.Frag} {H H' : Hp} (t : Ext H H') {c : Addr} {d : D} (h : CelAt K H c d) : CelAt K H' c d :=
  let ⟨o, u, v, e1, e2, e3, e4⟩ := h; ⟨o, u, v, t.frz _ _ _ e1, e2, e3, e4.mono t⟩
theorem OwnErr.mono {K : PySem.W.Frag} {H H' : Hp} (t : Ext H H') {a C : Addr} {f : Str} {d : D} (h : OwnErr K H a C f d) : OwnErr K H' a C f d :=
  let ⟨oe, od, dx, y, e1, e2, e3⟩ := h; ⟨oe, od, dx, y, t.frz _ _ _ e1, t.frz _ _ _ e2, e3.mono t⟩
theorem CelsAt.mono {K : PySem.W.Frag} {H H' : Hp} (t : Ext H H') {ds : List (Str × D)} {cl : List (Str × Addr)} (h : CelsAt K H ds cl) : CelsAt K H' ds cl :=
  Paired.mapP h fun _ _ q => ⟨q.1, q.2.mono t⟩
theorem RepF.mono {K : PySem.W.Frag} {H H' : Hp} (t : Ext H H') {fs : List (Str × D)} {fv : List (Str × V)} (h : RepF K H fs fv) : RepF K H' fs fv :=
  Paired.mapP h fun _ _ q => ⟨q.1, q.2.mono t⟩
theorem KeyRep.mono {K : PySem.W.Frag} {H H' : Hp} (t : Ext H H') {k : NestedKey} {a : Addr} (h : KeyRep K H k a) : KeyRep K H' k a :=
  let ⟨d, r, e, z⟩ := h; ⟨d, r.mono t, e, z⟩
theorem RepK.mono {K : PySem.W.Frag} {H H' : Hp} (t : Ext H H') {fs : List (Key × D)} {fv : List (Key × V)} (h : RepK K H fs fv) : RepK K H' fs fv :=
  Paired.mapP h fun _ _ q => ⟨q.1, q.2.mono t⟩
theorem RepN.mono {K : PySem.W.Frag} {H H' : Hp} (t : Ext H H') {fs : List (NestedKey × D)} {fv : List (NestedKey × Addr × Value)} (h : RepN K H fs fv) : RepN K H' fs fv :=
  Paired.mapP h fun _ _ ⟨e, k, v, r, rv⟩ => ⟨e, k.mono t, v, r.mono t, rv⟩
theorem RawN.mono {K : PySem.W.Frag} {H H' : Hp} (t : Ext H H') {a : Addr} {kvs : List (NestedKey × D)} {es : Array DictEntry} {ep : Nat} {xs : List (NestedKey × Addr × Value)} (h : RawN K H a kvs es ep xs) : RawN K H' a kvs es ep xs :=
  ⟨h.ent, h.nd, h.sz, h.sys, h.rel.mono t⟩
def Sim (K : PySem.W.Frag) (H : Hp) (m : Mem) : Prop := ∀ a o, m a = some o → RepO K H a o
theorem Sim.forget {K : PySem.W.Frag} {H : Hp} {m m' : Mem} (s : Sim K H m') (l : m.le m') : Sim K H m := fun a o e => s a o (l a o e)
/-- what an object's place leans on -/
theorem RepO.mono {K : PySem.W.Frag} {H H' : Hp} {a : Addr} {o : MO} (t : Ext H H') (h : ∀ u, H a = some u → H' a = some u) (r : RepO K H a o) : RepO K H' a o := by
  cases o with
  | lst ds => obtain ⟨vs, e, q⟩ := r; exact ⟨vs, h _ e, q.mono t⟩
  | ins C fs => obtain ⟨dx, fv, e, q⟩ := r; exact ⟨dx, fv, h _ e, q.mono t⟩
  | exc cls => exact h _ r
  | xd fs => obtain ⟨fv, e, q⟩ := r; exact ⟨fv, h _ e, q.mono t⟩
  | dK kvs => obtain ⟨kv, e, q⟩ := r; exact ⟨kv, h _ e, q.mono t⟩
  | dN kvs => obtain ⟨es, ep, xs, e, q⟩ := r; exact ⟨es, ep, xs, h _ e, q.mono t⟩
  | dR kvs es ep ds => obtain ⟨e, xs, q, r⟩ := r; exact ⟨h _ e, xs, q.mono t, r.mono t⟩
  | tbl q =>
    obtain ⟨ps, h1, h2, h3⟩ := r
    exact ⟨ps, h _ h1, h2, fun pos cv hc => let ⟨c, e1, e2⟩ := h3 pos cv hc; ⟨c, e1, t.cod c q e2⟩⟩
  | dF kvs => obtain ⟨od, kv, e, q⟩ := r; exact ⟨od, kv, h _ e, q.mono t⟩
  | lam nm L fr CL => exact ⟨LamAt.mono t r.1, r.2⟩
  | clo nm L ds => obtain ⟨cl, e, i, f, q⟩ := r; exact ⟨cl, e.mono t, i, f, q.mono t⟩
  | own C f d => exact OwnErr.mono t r
theorem raw_ne {a c : Addr} {es : Array DictEntry} {ep : Nat} {q : Str} : HO.ext (rawIs a es ep) ≠ LamX.CodeO c q := fun z => by
  have z' : rawIs a es ep = _ := HO.ext.inj z
  have e := congrFun z' ({ objs := Array.replicate (max a c + 1) { cls := .none, data := .fields #[.none, .str q 0] } } : Heap)
  have hg : ∀ b, b ≤ max a c → Heap.get? ({ objs := Array.replicate (max a c + 1) { cls := .none, data := .fields #[.none, .str q 0] } } : Heap) b = some { cls := .none, data := .fields #[.none, .str q 0] } := fun b hb => by
    unfold Heap.get?
    simp [Array.getElem?_replicate, Nat.lt_succ_of_le hb]
  have h2 := e.mpr ⟨_, _, 0, hg c (Nat.le_max_right _ _), rfl, rfl⟩
  obtain ⟨o, h3, h4, h5⟩ := h2
  rw [hg a (Nat.le_max_left _ _)] at h3
  cases h3
  cases h5
theorem exc_ne {a c : Addr} {cls : Value} {q : Str} : HO.ext (excIs a cls) ≠ LamX.CodeO c q := fun z => by
  have z' : excIs a cls = _ := HO.ext.inj z
  have e := congrFun z' ({ objs := Array.replicate (max a c + 1) { cls := cls, data := .fields #[] } } : Heap)
  have hg : ∀ b, b ≤ max a c → Heap.get? ({ objs := Array.replicate (max a c + 1) { cls := cls, data := .fields #[] } } : Heap) b = some { cls := cls, data := .fields #[] } := fun b hb => by
    unfold Heap.get?
    simp [Array.getElem?_replicate, Nat.lt_succ_of_le hb]
  have h2 := e.mp ⟨_, _, hg a (Nat.le_max_left _ _), rfl, rfl, rfl⟩
  obtain ⟨o, vs, t, h3, h4, h5⟩ := h2
  rw [hg c (Nat.le_max_right _ _)] at h3
  cases h3
  cases h4
  simp at h5
theorem RepO.any {K : PySem.W.Frag} {H : Hp} {a : Addr} {o : MO} (r : RepO K H a o) : ∃ u, H a = some u := by
  cases o with
  | lst ds => obtain ⟨vs, e, _⟩ := r; exact ⟨_, e⟩
  | ins C fs => obtain ⟨dx, fv, e, _⟩ := r; exact ⟨_, e⟩
  | exc cls => exact ⟨_, r⟩
  | xd fs => obtain ⟨fv, e, _⟩ := r; exact ⟨_, e⟩
  | dK kvs => obtain ⟨kv, e, _⟩ := r; exact ⟨_, e⟩
  | dN kvs => obtain ⟨es, ep, xs, e, _⟩ := r; exact ⟨_, e⟩
  | dR kvs es ep ds => obtain ⟨e, _⟩ := r; exact ⟨_, e⟩
  | tbl q => obtain ⟨ps, e, _⟩ := r; exact ⟨_, e⟩
  | dF kvs => obtain ⟨od, kv, e, _⟩ := r; exact ⟨_, e⟩
  | lam nm L fr CL => obtain ⟨⟨_, _, _, e, _⟩, _⟩ := r; exact ⟨_, e⟩
  | clo nm L ds => obtain ⟨cl, ⟨_, _, _, e, _⟩, _⟩ := r; exact ⟨_, e⟩
  | own C f d => obtain ⟨_, _, _, _, e, _⟩ := r; exact ⟨_, e⟩
theorem RepO.there {K : PySem.W.Frag} {H : Hp} {a : Addr} {o : MO} (r : RepO K H a o) (hw : o.mut = true := by rfl) : ∃ u, H a = some u ∧ (∀ xs, u ≠ .tup xs) ∧ (∀ ob x, u ≠ .frz ob x) ∧ ∀ b q, u ≠ LamX.CodeO b q := by
  cases o with
  | dF kvs => cases hw
  | lam nm L fr CL => cases hw
  | clo nm L ds => cases hw
  | own C f d => cases hw
  | lst ds => obtain ⟨vs, e, _⟩ := r; exact ⟨_, e, (fun _ z => nomatch z), (fun _ _ z => nomatch z), fun _ _ z => by unfold LamX.CodeO at z; cases z⟩
  | ins C fs => obtain ⟨dx, fv, e, _⟩ := r; exact ⟨_, e, (fun _ z => nomatch z), (fun _ _ z => nomatch z), fun _ _ z => by unfold LamX.CodeO at z; cases z⟩
  | exc cls => exact ⟨_, r, (fun _ z => nomatch z), (fun _ _ z => nomatch z), fun _ _ => exc_ne⟩
  | xd fs => obtain ⟨fv, e, _⟩ := r; exact ⟨_, e, (fun _ z => nomatch z), (fun _ _ z => nomatch z), fun _ _ z => by unfold LamX.CodeO at z; cases z⟩
  | dK kvs => obtain ⟨kv, e, _⟩ := r; exact ⟨_, e, (fun _ z => nomatch z), (fun _ _ z => nomatch z), fun _ _ z => by unfold LamX.CodeO at z; cases z⟩
  | dN kvs => obtain ⟨es, ep, xs, e, _⟩ := r; exact ⟨_, e, (fun _ z => nomatch z), (fun _ _ z => nomatch z), fun _ _ => raw_ne⟩
  | dR kvs es ep ds => obtain ⟨e, _⟩ := r; exact ⟨_, e, (fun _ z => nomatch z), (fun _ _ z => nomatch z), fun _ _ => raw_ne⟩
  | tbl q => obtain ⟨ps, e, _⟩ := r; exact ⟨_, e, (fun _ z => nomatch z), (fun _ _ z => nomatch z), fun _ _ z => by unfold LamX.CodeO at z; cases z⟩
theorem Sim.free {K : PySem.W.Frag} {H : Hp} {m : Mem} {a : Addr} (s : Sim K H m) (h : H a = none) : m a = none := by
  cases e : m a with
  | none => rfl
  | some o => obtain ⟨u, q⟩ := (s a o e).any; rw [h] at q; cases q

/-! ### the moves -/
/-- a new object that is not remembered -/
theorem upd_new {H : Hp} {p : Addr} {o : HO} (n : H p = none) : Ext H (upd H p o) := ⟨fun b xs h => by
  rw [upd_ne (ne_of_none h n)]; exact h, fun b ob u h => by rw [upd_ne (ne_of_none h n)]; exact h, fun b q h => by rw [upd_ne (ne_of_none h n)]; exact h⟩
theorem Step.alloc {H : Hp} {m : Mem} {p : Addr} {o : HO} (n : H p = none) : Step H m (upd H p o) m :=
  ⟨upd_new n, fun b h => by
    by_cases e : b = p
    · subst e; exact n
    · rw [upd_ne e] at h; exact h, fun b ob _ h => by rw [upd_ne (ne_of_none h n)]; exact h, fun b ob h _ => h⟩
theorem Sim.alloc {K : PySem.W.Frag} {H : Hp} {m : Mem} {p : Addr} {o : HO} (s : Sim K H m) (n : H p = none) : Sim K (upd H p o) m := fun a u e =>
  (s a u e).mono (upd_new n) fun w h => by rw [upd_ne (ne_of_none h n)]; exact h
/-- .. remembered -/
theorem Step.allocM {H : Hp} {m : Mem} {p : Addr} {o : HO} {u : MO} (n : H p = none) : Step H m (upd H p o) (m.set p u) :=
  let s := Step.alloc (m := m) (o := o) n
  ⟨s.ext, s.dom, s.keep, fun b ob h e => by rw [Mem.set_ne (ne_of_none e n)]; exact h⟩
theorem Sim.allocM {K : PySem.W.Frag} {H : Hp} {m : Mem} {p : Addr} {o : HO} {u : MO} (s : Sim K H m) (n : H p = none) (r : RepO K (upd H p o) p u) : Sim K (upd H p o) (m.set p u) := fun a w e => by
  by_cases h : a = p
  · subst h; rw [Mem.set_same] at e; cases e; exact r
  · rw [Mem.set_ne h] at e; exact (s.alloc n) a w e
/-- a remembered object is written -/
theorem upd_old {K : PySem.W.Frag} {H : Hp} {m : Mem} {p : Addr} {o : HO} {w : MO} (s : Sim K H m) (e : m p = some w) (hw : w.mut = true := by rfl) : Ext H (upd H p o) := by
  obtain ⟨u, q, h1, h2, h3⟩ := (s p w e).there hw
  exact ⟨fun b xs h => by rw [upd_ne (fun z => by subst z; rw [q] at h; cases h; exact h1 xs rfl)]; exact h,
    fun b ob x h => by rw [upd_ne (fun z => by subst z; rw [q] at h; cases h; exact h2 ob x rfl)]; exact h,
    fun b k h => by rw [upd_ne (fun z => by subst z; rw [q] at h; exact h3 b k (Option.some.inj h))]; exact h⟩
theorem Step.write {K : PySem.W.Frag} {H : Hp} {m : Mem} {p : Addr} {o : HO} {u w : MO} (s : Sim K H m) (e : m p = some w) (hw : w.mut = true := by rfl) : Step H m (upd H p o) (m.set p u) :=
  ⟨upd_old s e hw, fun b h => by
    by_cases z : b = p
    · subst z; rw [upd_same] at h; cases h
    · rw [upd_ne z] at h; exact h,
    fun b ob n h => by rw [upd_ne (fun z => by subst z; rw [e] at n; cases n)]; exact h,
    fun b ob n h => by rw [Mem.set_ne (fun z => by subst z; rw [e] at n; cases n)]; exact n⟩
theorem Sim.write {K : PySem.W.Frag} {H : Hp} {m : Mem} {p : Addr} {o : HO} {u w : MO} (s : Sim K H m) (e : m p = some w) (r : RepO K (upd H p o) p u) (hw : w.mut = true := by rfl) : Sim K (upd H p o) (m.set p u) := fun a x q => by
  by_cases h : a = p
  · subst h; rw [Mem.set_same] at q; cases q; exact r
  · rw [Mem.set_ne h] at q
    exact (s a x q).mono (upd_old s e hw) fun y z => by rw [upd_ne h]; exact z

/-! ### slots -/
abbrev DEnv := List (Option D)
def RelO2 (K : PySem.W.Frag) (H : Hp) : Option D → Option V → Prop
  | some d, some v => Rep K H d v
  | none, _ => True
  | some _, none => False
abbrev RepEnv (K : PySem.W.Frag) (H : Hp) : DEnv → St → Prop := Paired (RelO2 K H)
theorem RelO2.mono {K : PySem.W.Frag} {H H' : Hp} (t : Ext H H') : ∀ {d : Option D} {v : Option V}, RelO2 K H d v → RelO2 K H' d v
  | some _, some _, h => Rep.mono t h
  | none, _, _ => trivial
  | some _, none, h => h
theorem RepEnv.mono {K : PySem.W.Frag} {H H' : Hp} (t : Ext H H') {ρ : DEnv} {σ : St} (h : RepEnv K H ρ σ) : RepEnv K H' ρ σ := Paired.mapP h fun _ _ q => RelO2.mono t q
theorem RepEnv.get {K : PySem.W.Frag} {H : Hp} : ∀ {ρ : DEnv} {σ : St} {i : Nat} {d : D}, RepEnv K H ρ σ → ρ[i]? = some (some d) → ∃ v, σ[i]? = some (some v) ∧ Rep K H d v
  | _, _, _, _, .nil, e => by simp at e
  | _, _, 0, _, .cons (b := some v) h _, e => by simp at e; subst e; exact ⟨v, rfl, h⟩
  | _, _, 0, _, .cons (b := none) h _, e => by simp at e; subst e; exact h.elim
  | _, _, i + 1, _, .cons _ r, e => by
    obtain ⟨v, h1, h2⟩ := RepEnv.get (i := i) r (by simpa using e)
    exact ⟨v, by simpa using h1, h2⟩
theorem RepEnv.set {K : PySem.W.Frag} {H : Hp} {d : D} {v : V} (h : Rep K H d v) : ∀ {ρ : DEnv} {σ : St} (i : Nat), RepEnv K H ρ σ → RepEnv K H (ρ.set i (some d)) (σ.set i (some v))
  | _, _, _, .nil => .nil
  | _, _, 0, .cons _ r => .cons h r
  | _, _, i + 1, .cons q r => .cons q (RepEnv.set h i r)
theorem RepEnv.setNone {K : PySem.W.Frag} {H : Hp} {v : Option V} : ∀ {ρ : DEnv} {σ : St} (i : Nat), RepEnv K H ρ σ → RepEnv K H (ρ.set i none) (σ.set i v)
  | _, _, _, .nil => .nil
  | _, _, 0, .cons _ r => .cons trivial r
  | _, _, i + 1, .cons q r => .cons q (RepEnv.setNone i r)
def wipeD (ρ : DEnv) : List Nat → DEnv
  | [] => ρ
  | v :: vs => (wipeD ρ vs).set v none
theorem RepEnv.wipe {K : PySem.W.Frag} {H : Hp} {ρ : DEnv} {σ : St} (h : RepEnv K H ρ σ) : ∀ vs : List Nat, RepEnv K H (wipeD ρ vs) (L2.wipe σ vs)
  | [] => h
  | v :: vs => (RepEnv.wipe h vs).setNone v
end L2.Lh

namespace L2.Lh
open PySem PySem.Spec PyProof.Rows

abbrev DQ := D → Mem → Prop
abbrev DTE := DEnv → Mem → DQ → Prop
abbrev DTT := DEnv → Mem → (Bool → Mem → Prop) → Prop
abbrev DTA := DEnv → Mem → (List D → Mem → Prop) → Prop
structure DEnds where
  nx : DEnv → Mem → Prop
  rt : DQ
  bk : DEnv → Mem → Prop := fun _ _ => False
  ct : DEnv → Mem → Prop := fun _ _ => False
abbrev DTS := DEnds → DEnv → Mem → Prop
abbrev DTG := D → DEnv → Mem → (DEnv → Mem → Prop) → Prop

structure Bs where
  H : Hp
  m : Mem
structure Pre (K : PySem.W.Frag) (B : Bs) (ρ : DEnv) (m : Mem) (σ : St) (H : Hp) : Prop where
  env : RepEnv K H ρ σ
  sim : Sim K H m
  st : Step B.H B.m H m
theorem Pre.next {K : PySem.W.Frag} {B : Bs} {ρ : DEnv} {m m' : Mem} {σ : St} {H H' : Hp} (p : Pre K B ρ m σ H) (s : Sim K H' m') (t : Step H m H' m') : Pre K B ρ m' σ H' := ⟨p.env.mono t.ext, s, p.st.trans t⟩

def PostE (K : PySem.W.Frag) (H : Hp) (m : Mem) (q : DQ) (Q : VK) : Prop := ∀ d m' v H', q d m' → Rep K H' d v → Sim K H' m' → Step H m H' m' → Q v H'
def upE (K : PySem.W.Frag) (B : Bs) (t : DTE) : TE := fun σ H Q => ∃ ρ m q, Pre K B ρ m σ H ∧ t ρ m q ∧ PostE K H m q Q
def upT (K : PySem.W.Frag) (B : Bs) (t : DTT) : TT := fun σ H Q => ∃ ρ m q, Pre K B ρ m σ H ∧ t ρ m q ∧ ∀ b m' H', q b m' → Sim K H' m' → Step H m H' m' → Q b H'
def upA (K : PySem.W.Frag) (B : Bs) (t : DTA) : TA := fun σ H Q => ∃ ρ m q, Pre K B ρ m σ H ∧ t ρ m q ∧ ∀ ds m' vs H', q ds m' → Reps K H' ds vs → Sim K H' m' → Step H m H' m' → Q vs H'
/-- a new list, not remembered -/
abbrev DTL := DTA
def upL (K : PySem.W.Frag) (B : Bs) (t : DTL) : TE := fun σ H Q => ∃ ρ m q, Pre K B ρ m σ H ∧ t ρ m q ∧
  ∀ ds m' a vs H', q ds m' → H' a = some (.lst vs) → Reps K H' ds vs → m' a = none → H a = none → Sim K H' m' → Step H m H' m' → Q (.ref a) H'
structure EndsOk (K : PySem.W.Frag) (H : Hp) (m : Mem) (E : DEnds) (F : Ends) : Prop where
  nx : ∀ ρ' m' σ' H', E.nx ρ' m' → RepEnv K H' ρ' σ' → Sim K H' m' → Step H m H' m' → F.nx σ' H'
  rt : ∀ d m' v H', E.rt d m' → Rep K H' d v → Sim K H' m' → Step H m H' m' → F.rt v H'
  bk : ∀ ρ' m' σ' H', E.bk ρ' m' → RepEnv K H' ρ' σ' → Sim K H' m' → Step H m H' m' → F.bk σ' H'
  ct : ∀ ρ' m' σ' H', E.ct ρ' m' → RepEnv K H' ρ' σ' → Sim K H' m' → Step H m H' m' → F.ct σ' H'
theorem EndsOk.next {K : PySem.W.Frag} {H H1 : Hp} {m m1 : Mem} {E : DEnds} {F : Ends} (o : EndsOk K H m E F) (t : Step H m H1 m1) : EndsOk K H1 m1 E F :=
  ⟨fun a b c d h1 h2 h3 h4 => o.nx a b c d h1 h2 h3 (t.trans h4), fun a b c d h1 h2 h3 h4 => o.rt a b c d h1 h2 h3 (t.trans h4),
    fun a b c d h1 h2 h3 h4 => o.bk a b c d h1 h2 h3 (t.trans h4), fun a b c d h1 h2 h3 h4 => o.ct a b c d h1 h2 h3 (t.trans h4)⟩
def upS (K : PySem.W.Frag) (B : Bs) (t : DTS) : TS := fun F σ H => ∃ ρ m E, Pre K B ρ m σ H ∧ t E ρ m ∧ EndsOk K H m E F
/-- a target: vs are the slots that it may change -/
def upG (K : PySem.W.Frag) (B : Bs) (vs : List Nat) (t : DTG) : TG := fun v σ H Q => ∃ d ρ m q, Rep K H d v ∧ Pre K B ρ m σ H ∧ t d ρ m q ∧
  ∀ ρ' m' σ' H', q ρ' m' → RepEnv K H' ρ' σ' → L2.wipe σ' vs = L2.wipe σ vs → Sim K H' m' → Step H m H' m' → Q σ' H'

abbrev DE (B : Bs) (X : Cx) (e : Expr) (t : DTE) : Prop := PE X e (upE X.K B t)
abbrev DT (B : Bs) (X : Cx) (e : Expr) (t : DTT) : Prop := PT X e (upT X.K B t)
abbrev DW (B : Bs) (X : Cx) (e : Expr) (t : DTT) : Prop := PW X e (upT X.K B t)
abbrev DA (B : Bs) (X : Cx) (es : List Expr) (t : DTA) : Prop := PA X es (upA X.K B t)
abbrev DL (B : Bs) (X : Cx) (e : Expr) (t : DTL) : Prop := PE X e (upL X.K B t)
abbrev DS (B : Bs) (X : Cx) (s : Stmt) (t : DTS) : Prop := PS X s (upS X.K B t)
abbrev DSs (B : Bs) (X : Cx) (s : List Stmt) (t : DTS) : Prop := PSs X s (upS X.K B t)
abbrev DG (B : Bs) (X : Cx) (vs : List Nat) (e : Expr) (t : DTG) : Prop := PG X e (upG X.K B vs t)

section
variable {X : Cx}
theorem pe_imp {e : Expr} {t t' : TE} (h : PE X e t) (i : ∀ σ H Q, t' σ H Q → t σ H Q) : PE X e t' := ⟨fun pins s σ H Q I w => h.run pins s σ H Q I (i σ H Q w)⟩
theorem pt_imp {e : Expr} {t t' : TT} (h : PT X e t) (i : ∀ σ H Q, t' σ H Q → t σ H Q) : PT X e t' := ⟨fun pins s σ H Q I w => h.run pins s σ H Q I (i σ H Q w)⟩
theorem pw_imp {e : Expr} {t t' : TT} (h : PW X e t) (i : ∀ σ H Q, t' σ H Q → t σ H Q) : PW X e t' := ⟨fun wh pins s σ H Q I w => h.run wh pins s σ H Q I (i σ H Q w)⟩
theorem pa_imp {e : List Expr} {t t' : TA} (h : PA X e t) (i : ∀ σ H Q, t' σ H Q → t σ H Q) : PA X e t' := ⟨fun p pins s σ H Q I w => h.run p pins s σ H Q I (i σ H Q w)⟩
theorem ps_imp {e : Stmt} {t t' : TS} (h : PS X e t) (i : ∀ F σ H, t' F σ H → t F σ H) : PS X e t' := ⟨fun pins s σ H F I w => h.run pins s σ H F I (i F σ H w)⟩
theorem pss_imp {e : List Stmt} {t t' : TS} (h : PSs X e t) (i : ∀ F σ H, t' F σ H → t F σ H) : PSs X e t' := ⟨fun pins s σ H F I w => h.run pins s σ H F I (i F σ H w)⟩
theorem pg_imp {e : Expr} {t t' : TG} (h : PG X e t) (i : ∀ v σ H Q, t' v σ H Q → t v σ H Q) : PG X e t' := ⟨fun pins s σ H v u Q I r w => h.run pins s σ H v u Q I r (i v σ H Q w)⟩
end

/-! ### names, constants -/
def dVar (i : Nat) : DTE := fun ρ m q => match ρ[i]? with | some (some d) => q d m | _ => False
def dC (d : D) : DTE := fun _ m q => q d m
section
variable {X : Cx} {B : Bs}
theorem de_var (i : Nat) {x : Str} {pos : Pos} (hN : X.N[i]? = some x := by rfl) (hv : Vis X.env.scope x := by first | exact Or.inl rfl | exact Or.inr (Or.inl rfl) | exact Or.inr (Or.inr rfl)) (hd : (x == ("__debug__" : Str)) = false := by decide)
    (hcd : (x == ("__classdict__" : Str)) = false := by decide) : DE B X (.Name x pos) (dVar i) :=
  pe_imp (pe_var hN hv hd hcd) fun σ H Q ⟨ρ, m, q, p, h, post⟩ => by
    unfold dVar at h
    split at h
    · rename_i d e
      obtain ⟨v, e1, r⟩ := p.env.get e
      exact ⟨v, e1, post d m v H h r p.sim (Step.refl _ _)⟩
    · exact h.elim
theorem de_const {e : Expr} {d : D} {v : V} (h : PE X e (tC v)) (r : ∀ H, Rep X.K H d v) : DE B X e (dC d) :=
  pe_imp h fun σ H Q ⟨ρ, m, q, p, h, post⟩ => post d m v H h (r H) p.sim (Step.refl _ _)
theorem de_int {i j pos} : DE B X (.Constant (.int i) j pos) (dC (.int i)) := de_const pe_int fun _ => .int i
theorem de_bl {i j pos} : DE B X (.Constant (.bool i) j pos) (dC (.bl i)) := de_const pe_bl fun _ => .bl i
theorem de_non {j pos} : DE B X (.Constant .none j pos) (dC .non) := de_const pe_non fun _ => .non
theorem de_str {i j pos} : DE B X (.Constant (.str i) j pos) (dC (.str i)) := de_const pe_str fun _ => .str i
theorem de_gint {x : Str} {i : Int} {t : Tok} {pos : Pos} (hg : Gl X x) (hm : X.mg x = some (.int i t)) (hd : (x == ("__debug__" : Str)) = false := by decide) : DE B X (.Name x pos) (dC (.int i)) := de_const (pe_glob (v := .int i) hg hm ⟨t, rfl⟩ hd) fun _ => .int i
theorem de_gref {x : Str} {a : Addr} {pos : Pos} (hg : Gl X x) (hm : X.mg x = some (.ref a)) (hd : (x == ("__debug__" : Str)) = false := by decide) : DE B X (.Name x pos) (dC (.ref a)) := de_const (pe_glob (v := .ref a) hg hm rfl hd) fun _ => .ref a
theorem de_ty {x : Str} {n : String} {pos : Pos} (hg : Gl X x) (hm : X.mg x = none) (hv : bootBuiltins x = some (.type n)) (hn : x ≠ "__name__" := by decide) (hd : (x == ("__debug__" : Str)) = false := by decide) : DE B X (.Name x pos) (dC (.ty n)) :=
  de_const (pe_bltn (v := .ty n) hg hm hv rfl hn hd) fun _ => .ty n
/-- a remembered list of a new one -/
theorem de_dl {e : Expr} {t : DTL} (h : DL B X e t) : DE B X e (fun ρ m q => t ρ m fun ds m' => ∀ a, m' a = none → q (.ref a) (m'.set a (.lst ds))) :=
  pe_imp h fun σ H Q ⟨ρ, m, q, p, h, post⟩ => ⟨ρ, m, _, p, h, fun ds m' a vs H' hq ha hr hn h0 hs st =>
    post (.ref a) (m'.set a (.lst ds)) (.ref a) H' (hq a hn) (.ref a) (fun b o e => by
      by_cases z : b = a
      · subst z; rw [Mem.set_same] at e; cases e; exact ⟨vs, ha, hr⟩
      · rw [Mem.set_ne z] at e; exact hs b o e)
    ⟨st.ext, st.dom, st.keep, fun b o n e => by rw [Mem.set_ne (fun z => by rw [z, h0] at e; cases e)]; exact st.new b o n e⟩⟩
end

/-! ### operations by values -/
abbrev DR2 := D → D → Mem → DQ → Prop
abbrev DR1 := D → Mem → DQ → Prop
abbrev DRC := List D → Mem → DQ → Prop
def up2 (K : PySem.W.Frag) (r : DR2) : R2 := fun x y H Q => ∃ dx dy m q, Rep K H dx x ∧ Rep K H dy y ∧ Sim K H m ∧ r dx dy m q ∧ PostE K H m q Q
def up1 (K : PySem.W.Frag) (r : DR1) : V → Hp → VK → Prop := fun x H Q => ∃ dx m q, Rep K H dx x ∧ Sim K H m ∧ r dx m q ∧ PostE K H m q Q
def upC (K : PySem.W.Frag) (r : DRC) : List V → Hp → VK → Prop := fun xs H Q => ∃ ds m q, Reps K H ds xs ∧ Sim K H m ∧ r ds m q ∧ PostE K H m q Q
abbrev OpD (X : Cx) (f : Value → Value → Sem Value) (r : DR2) : Prop := OpR X f (up2 X.K r)
abbrev UnD (X : Cx) (f : Value → Sem Value) (r : DR1) : Prop := UnR X f (up1 X.K r)
abbrev CallD (X : Cx) (f : Value) (r : DRC) : Prop := CallR X f (upC X.K r)
def dOp (r : DR2) (ta tb : DTE) : DTE := fun ρ m q => ta ρ m fun x m1 => tb ρ m1 fun y m2 => r x y m2 q
def dUn (r : DR1) (ta : DTE) : DTE := fun ρ m q => ta ρ m fun x m1 => r x m1 q
def dTest (t : DTE) : DTT := fun ρ m q => t ρ m fun d m' => match d with | .bl b => q b m' | _ => False
section
variable {X : Cx} {B : Bs} {a b c : Expr} {ta tb tc : DTE} {pos : Pos}
theorem op_lift {r : DR2} {K : PySem.W.Frag} : ∀ σ H Q, upE K B (dOp r ta tb) σ H Q → tOp (up2 K r) (upE K B ta) (upE K B tb) σ H Q :=
  fun σ H Q ⟨ρ, m, q, p, h, post⟩ => ⟨ρ, m, _, p, h, fun d m1 v H1 h1 r1 s1 t1 => ⟨ρ, m1, _, p.next s1 t1, h1, fun d2 m2 v2 H2 h2 r2 s2 t2 =>
    ⟨d, d2, m2, q, r1.mono t2.ext, r2, s2, h2, fun d3 m3 v3 H3 h3 r3 s3 t3 => post d3 m3 v3 H3 h3 r3 s3 (t1.trans (t2.trans t3))⟩⟩⟩
theorem de_op {op : Operator} {r : DR2} (ho : OpD X (binaryOp op) r) (ha : DE B X a ta) (hb : DE B X b tb) : DE B X (.BinOp a op b pos) (dOp r ta tb) := pe_imp (pe_op ho ha hb) op_lift
theorem de_un {op : UnaryOp} {r : DR1} (ho : UnD X (unaryOp op) r) (ha : DE B X a ta) : DE B X (.UnaryOp op a pos) (dUn r ta) :=
  pe_imp (pe_un ho ha) fun σ H Q ⟨ρ, m, q, p, h, post⟩ => ⟨ρ, m, _, p, h, fun d m1 v H1 h1 r1 s1 t1 => ⟨d, m1, q, r1, s1, h1, fun d3 m3 v3 H3 h3 r3 s3 t3 => post d3 m3 v3 H3 h3 r3 s3 (t1.trans t3)⟩⟩
theorem de_cmp {op : CmpOp} {r : DR2} (ho : OpD X (compareOp op) r) (ha : DE B X a ta) (hb : DE B X b tb) (hm : behindInMarks op b = false) : DE B X (.Compare a [op] [b] pos) (dOp r ta tb) := pe_imp (pe_cmpR ho ha hb hm) op_lift
theorem test_lift {t : DTE} {t' : TE} {K : PySem.W.Frag} (hl : ∀ σ H Q, upE K B t σ H Q → t' σ H Q) : ∀ σ H Q, upT K B (dTest t) σ H Q → tTest t' σ H Q :=
  fun σ H Q ⟨ρ, m, q, p, h, post⟩ => hl σ H _ ⟨ρ, m, _, p, h, fun d m1 v H1 h1 r1 s1 t1 => by
    cases d with
    | bl b => cases r1; exact ⟨b, rfl, post b m1 H1 h1 s1 t1⟩
    | _ => exact (show False from h1).elim⟩
theorem dt_cmp {op : CmpOp} {r : DR2} (ho : OpD X (compareOp op) r) (ha : DE B X a ta) (hb : DE B X b tb) (hm : behindInMarks op b = false) : DT B X (.Compare a [op] [b] pos) (dTest (dOp r ta tb)) :=
  pt_imp (pt_cmpR ho ha hb hm) (test_lift op_lift)
def dChain (r r' : DR2) (ta tb tc : DTE) : DTE := fun ρ m q => ta ρ m fun x m1 => tb ρ m1 fun y m2 => r x y m2 fun z m3 => match z with
  | .bl k => if k = true then tc ρ m3 fun w m4 => r' y w m4 q else q (.bl false) m3
  | _ => False
theorem chain_lift {r r' : DR2} {K : PySem.W.Frag} : ∀ σ H Q, upE K B (dChain r r' ta tb tc) σ H Q → tChain (up2 K r) (up2 K r') (upE K B ta) (upE K B tb) (upE K B tc) σ H Q :=
  fun σ H Q ⟨ρ, m, q, p, h, post⟩ => ⟨ρ, m, _, p, h, fun d m1 v H1 h1 r1 s1 t1 => ⟨ρ, m1, _, p.next s1 t1, h1, fun d2 m2 v2 H2 h2 r2 s2 t2 =>
    ⟨d, d2, m2, _, r1.mono t2.ext, r2, s2, h2, fun z m3 v3 H3 h3 r3 s3 t3 => by
      cases z with
      | bl k =>
        cases r3
        refine ⟨k, rfl, ?_⟩
        cases k with
        | false => exact post (.bl false) m3 (.bl false) H3 h3 (.bl false) s3 (t1.trans (t2.trans t3))
        | true => exact ⟨ρ, m3, _, (p.next s1 t1).next s2 t2 |>.next s3 t3, h3, fun d4 m4 v4 H4 h4 r4 s4 t4 =>
            ⟨d2, d4, m4, q, (r2.mono t3.ext).mono t4.ext, r4, s4, h4, fun d5 m5 v5 H5 h5 r5 s5 t5 => post d5 m5 v5 H5 h5 r5 s5 (t1.trans (t2.trans (t3.trans (t4.trans t5))))⟩⟩
      | _ => exact (show False from h3).elim⟩⟩⟩
theorem de_chain {op op' : CmpOp} {r r' : DR2} (ho : OpD X (compareOp op) r) (ho' : OpD X (compareOp op') r') (ha : DE B X a ta) (hb : DE B X b tb) (hc : DE B X c tc)
    (hm : lastMarks [op, op'] [b, c] = false := by with_unfolding_all rfl) : DE B X (.Compare a [op, op'] [b, c] pos) (dChain r r' ta tb tc) := pe_imp (pe_chain ho ho' ha hb hc hm) chain_lift
theorem dt_chain {op op' : CmpOp} {r r' : DR2} (ho : OpD X (compareOp op) r) (ho' : OpD X (compareOp op') r') (ha : DE B X a ta) (hb : DE B X b tb) (hc : DE B X c tc)
    (hm : lastMarks [op, op'] [b, c] = false := by with_unfolding_all rfl) : DT B X (.Compare a [op, op'] [b, c] pos) (dTest (dChain r r' ta tb tc)) := pt_imp (pt_chain ho ho' ha hb hc hm) (test_lift chain_lift)
end

/-! ### truth, and, or, not -/
/-- the items of a list: a remembered one or a read-only one -/
def itemsL (m : Mem) : D → Option (List D)
  | .rol xs => some xs
  | .ref a => match m a with
    | some (.lst xs) => some xs
    | _ => none
  | _ => none
def truD (d : D) (m : Mem) : Option Bool := match d with
  | .non => some false
  | .bl b => some b
  | .int i => some (i != 0)
  | .tup xs => some (!xs.isEmpty)
  | .ftup xs => some (!xs.isEmpty)
  | .rol xs => some (!xs.isEmpty)
  | .ref a => match m a with
    | some (.lst xs) => some (!xs.isEmpty)
    | _ => none
  | _ => none
theorem isEmpty_reps {K : PySem.W.Frag} {H : Hp} {ds : List D} {vs : List V} (r : Reps K H ds vs) : (!ds.isEmpty) = !vs.isEmpty := by cases r <;> rfl
theorem rol_sq {K : PySem.W.Frag} {H : Hp} {a : Addr} {vs : List V} (h : (∃ o, H a = some (.frz o (.lst vs))) ∨ (∃ (o : Obj) (its : Array Value) (n : Nat), K.lookup a = some o ∧ o.cls = .type "list" ∧ o.dict = none ∧ o.data = .seq its n ∧ its.size ≤ sizeLine ∧ Vals vs its.toList)) : SqL K H a vs := by
  rcases h with ⟨o, h⟩ | h
  · exact .inl (.inr ⟨o, h⟩)
  · exact .inr h
theorem Sim.sq {K : PySem.W.Frag} {H : Hp} {m : Mem} {d : D} {v : V} {xs : List D} (s : Sim K H m) (r : Rep K H d v) (e : itemsL m d = some xs) : ∃ a vs, v = .ref a ∧ SqL K H a vs ∧ Reps K H xs vs := by
  cases r with
  | rol h rs => cases e; exact ⟨_, _, rfl, rol_sq h, rs⟩
  | ref a =>
    unfold itemsL at e
    dsimp only at e
    split at e
    · rename_i ys q; cases e; obtain ⟨vs, h, r⟩ := s a _ q; exact ⟨a, vs, rfl, .inl (.inl h), r⟩
    · cases e
  | _ => cases e
theorem truD_ok {K : PySem.W.Frag} {H : Hp} {m : Mem} {d : D} {v : V} {k : Bool} (s : Sim K H m) (r : Rep K H d v) (e : truD d m = some k) : TruV K v H k := by
  cases r with
  | non => cases e; rfl
  | bl b => cases e; rfl
  | int i => cases e; rfl
  | str x => cases e
  | ty n => cases e
  | tup h rs => cases e; exact .inr (.inl ⟨_, SqT.of h, isEmpty_reps rs⟩)
  | ftup h _ rs => cases e; exact .inr (.inl ⟨_, .inl (.inr ⟨_, h⟩), isEmpty_reps rs⟩)
  | rol h rs => cases e; exact .inl ⟨_, rol_sq h, isEmpty_reps rs⟩
  | ref a =>
    refine .inl ?_
    unfold truD at e
    dsimp only at e
    split at e
    · rename_i xs q
      obtain ⟨vs, h, rr⟩ := s a _ q
      cases e
      exact ⟨vs, .inl (.inl h), isEmpty_reps rr⟩
    · cases e
def dTruth (t : DTE) : DTT := fun ρ m q => t ρ m fun d m' => match truD d m' with | some b => q b m' | none => False
def dAnd (t u : DTT) : DTT := fun ρ m q => t ρ m fun c m1 => if c = true then u ρ m1 q else q false m1
def dOr (t u : DTT) : DTT := fun ρ m q => t ρ m fun c m1 => if c = true then q true m1 else u ρ m1 q
def dNot (t : DTT) : DTT := fun ρ m q => t ρ m fun c m1 => q (!c) m1
def dAndV (ta tb : DTE) : DTE := fun ρ m q => ta ρ m fun x m1 => match x with | .bl c => if c = true then tb ρ m1 q else q (.bl false) m1 | _ => False
def dOrV (ta tb : DTE) : DTE := fun ρ m q => ta ρ m fun x m1 => match x with | .bl c => if c = true then q (.bl true) m1 else tb ρ m1 q | _ => False
def dNotV (ta : DTE) : DTE := fun ρ m q => ta ρ m fun x m1 => match x with | .bl c => q (.bl (!c)) m1 | _ => False
def dIf (t : DTT) (ta tb : DTE) : DTE := fun ρ m q => t ρ m fun c m1 => if c = true then ta ρ m1 q else tb ρ m1 q
section
variable {X : Cx} {B : Bs} {a b c : Expr} {ta tb tc : DTE} {tA tB : DTT} {pos : Pos} {rest : List Expr}
theorem dt_truth (ha : DE B X a ta) (he : ∀ whole, isTrue a X.env whole = (do let v ← whole; standAt a.pos; holding [v] (truthy v)) := by intro _; rfl) : DT B X a (dTruth ta) :=
  pt_imp (pt_truth ha he) fun σ H Q ⟨ρ, m, q, p, h, post⟩ => ⟨ρ, m, _, p, h, fun d m1 v H1 h1 r1 s1 t1 => by
    cases e : truD d m1 with
    | none => rw [e] at h1; exact h1.elim
    | some k => rw [e] at h1; exact ⟨k, truD_ok s1 r1 e, post k m1 H1 h1 s1 t1⟩⟩
theorem and_lift {K : PySem.W.Frag} : ∀ σ H Q, upT K B (dAnd tA tB) σ H Q → tAnd (upT K B tA) (upT K B tB) σ H Q :=
  fun σ H Q ⟨ρ, m, q, p, h, post⟩ => ⟨ρ, m, _, p, h, fun k m1 H1 h1 s1 t1 => by
    cases k with
    | true => exact ⟨ρ, m1, q, p.next s1 t1, h1, fun k2 m2 H2 h2 s2 t2 => post k2 m2 H2 h2 s2 (t1.trans t2)⟩
    | false => exact post false m1 H1 h1 s1 t1⟩
theorem or_lift {K : PySem.W.Frag} : ∀ σ H Q, upT K B (dOr tA tB) σ H Q → tOr (upT K B tA) (upT K B tB) σ H Q :=
  fun σ H Q ⟨ρ, m, q, p, h, post⟩ => ⟨ρ, m, _, p, h, fun k m1 H1 h1 s1 t1 => by
    cases k with
    | false => exact ⟨ρ, m1, q, p.next s1 t1, h1, fun k2 m2 H2 h2 s2 t2 => post k2 m2 H2 h2 s2 (t1.trans t2)⟩
    | true => exact post true m1 H1 h1 s1 t1⟩
theorem dw_and1 (ha : DT B X a tA) : DW B X (.BoolOp .And [a] pos) tA := pw_and1 ha
theorem dw_or1 (ha : DT B X a tA) : DW B X (.BoolOp .Or [a] pos) tA := pw_or1 ha
theorem dw_and (ha : DT B X a tA) (hb : DW B X (.BoolOp .And (b :: rest) pos) tB) : DW B X (.BoolOp .And (a :: b :: rest) pos) (dAnd tA tB) := pw_imp (pw_and ha hb) and_lift
theorem dw_or (ha : DT B X a tA) (hb : DW B X (.BoolOp .Or (b :: rest) pos) tB) : DW B X (.BoolOp .Or (a :: b :: rest) pos) (dOr tA tB) := pw_imp (pw_or ha hb) or_lift
theorem dt_w {e : Expr} (h : DW B X e tA) : DT B X e tA := PW.pt h
theorem dt_not (ha : DT B X a tA) : DT B X (.UnaryOp .Not a pos) (dNot tA) :=
  pt_imp (pt_not ha) fun σ H Q ⟨ρ, m, q, p, h, post⟩ => ⟨ρ, m, _, p, h, fun k m1 H1 h1 s1 t1 => post (!k) m1 H1 h1 s1 t1⟩
theorem de_one {op} {t : DTE} (h : DE B X a t) : DE B X (.BoolOp op [a] pos) t := pe_one h
theorem de_and (ha : DE B X a ta) (hb : DE B X (.BoolOp .And (b :: rest) pos) tb) : DE B X (.BoolOp .And (a :: b :: rest) pos) (dAndV ta tb) :=
  pe_imp (pe_and ha hb) fun σ H Q ⟨ρ, m, q, p, h, post⟩ => ⟨ρ, m, _, p, h, fun d m1 v H1 h1 r1 s1 t1 => by
    cases d with
    | bl k =>
      cases r1
      refine ⟨k, rfl, ?_⟩
      cases k with
      | true => exact ⟨ρ, m1, q, p.next s1 t1, h1, fun d2 m2 v2 H2 h2 r2 s2 t2 => post d2 m2 v2 H2 h2 r2 s2 (t1.trans t2)⟩
      | false => exact post (.bl false) m1 _ H1 h1 (.bl false) s1 t1
    | _ => exact (show False from h1).elim⟩
theorem de_not (ha : DE B X a ta) : DE B X (.UnaryOp .Not a pos) (dNotV ta) :=
  pe_imp (pe_not ha) fun σ H Q ⟨ρ, m, q, p, h, post⟩ => ⟨ρ, m, _, p, h, fun d m1 v H1 h1 r1 s1 t1 => by
    cases d with
    | bl k => cases r1; exact ⟨k, rfl, post (.bl (!k)) m1 _ H1 h1 (.bl (!k)) s1 t1⟩
    | _ => exact (show False from h1).elim⟩
theorem de_ifExp (hc : DT B X c tA) (ha : DE B X a ta) (hb : DE B X b tb) : DE B X (.IfExp c a b pos) (dIf tA ta tb) :=
  pe_imp (pe_ifExp hc ha hb) fun σ H Q ⟨ρ, m, q, p, h, post⟩ => ⟨ρ, m, _, p, h, fun k m1 H1 h1 s1 t1 => by
    cases k with
    | true => exact ⟨ρ, m1, q, p.next s1 t1, h1, fun d2 m2 v2 H2 h2 r2 s2 t2 => post d2 m2 v2 H2 h2 r2 s2 (t1.trans t2)⟩
    | false => exact ⟨ρ, m1, q, p.next s1 t1, h1, fun d2 m2 v2 H2 h2 r2 s2 t2 => post d2 m2 v2 H2 h2 r2 s2 (t1.trans t2)⟩⟩
end

/-! ### arguments, displays, calls of built-ins -/
def dNil : DTA := fun _ m q => q [] m
def dCons (ta : DTE) (tr : DTA) : DTA := fun ρ m q => ta ρ m fun d m1 => tr ρ m1 fun ds m2 => q (d :: ds) m2
/-- a new list among the arguments: it is remembered -/
def dTup (t : DTA) : DTE := fun ρ m q => t ρ m fun ds m1 => ds.length ≤ sizeLine ∧ q (.tup ds) m1
def dLst (t : DTA) : DTL := fun ρ m q => t ρ m fun ds m1 => ds.length ≤ sizeLine ∧ q ds m1
def dCB (r : DRC) (t : DTA) : DTE := fun ρ m q => t ρ m fun ds m1 => r ds m1 q
section
variable {X : Cx} {B : Bs} {e : Expr} {es : List Expr} {te : DTE} {t : DTA} {pos p : Pos} {x : Str} {id T : String} {r : DRC}
theorem da_nil : DA B X [] dNil := pa_imp pa_nil fun σ H Q ⟨ρ, m, q, p, h, post⟩ => post [] m [] H h .nil p.sim (Step.refl _ _)
theorem da_cons (ha : DE B X e te) (hr : DA B X es t) (hs : starEach (e :: es) X.env = (false, eval e X.env) :: starEach es X.env := by rfl) : DA B X (e :: es) (dCons te t) :=
  pa_imp (pa_cons ha hr hs) fun σ H Q ⟨ρ, m, q, p, h, post⟩ => ⟨ρ, m, _, p, h, fun d m1 v H1 h1 r1 s1 t1 => ⟨ρ, m1, _, p.next s1 t1, h1, fun ds m2 vs H2 h2 r2 s2 t2 =>
    post (d :: ds) m2 (v :: vs) H2 h2 (.cons (r1.mono t2.ext) r2) s2 (t1.trans t2)⟩⟩
theorem de_tup {x1} (h : DA B X es t) : DE B X (.Tuple es x1 pos) (dTup t) :=
  pe_imp (pe_tup h) fun σ H Q ⟨ρ, m, q, p, h, post⟩ => ⟨ρ, m, _, p, h, fun ds m1 vs H1 ⟨hz, h1⟩ r1 s1 t1 => ⟨by rw [← r1.length]; exact hz, fun a ha =>
    post (.tup ds) m1 (.ref a) _ h1 (.tup upd_same (r1.mono (upd_new ha))) (s1.alloc ha) (t1.trans (Step.alloc ha))⟩⟩
theorem dl_lst (h : DA B X es t) : DL B X (.List es pos) (dLst t) :=
  pe_imp (pe_lst h) fun σ H Q ⟨ρ, m, q, p, h, post⟩ => ⟨ρ, m, _, p, h, fun ds m1 vs H1 ⟨hz, h1⟩ r1 s1 t1 => ⟨by rw [← r1.length]; exact hz, fun a ha => by
    have hm : m1 a = none := s1.free ha
    exact post ds m1 a vs _ h1 upd_same (r1.mono (upd_new ha)) hm (t1.dom a ha) (s1.alloc ha) (t1.trans (Step.alloc ha))⟩⟩
end
end L2.Lh

namespace L2.Lh
open PySem PySem.Spec PyProof.Rows

/-! ### operators by values -/
theorem PostE.here {K : PySem.W.Frag} {H : Hp} {m : Mem} {q : DQ} {Q : VK} {d : D} {v : V} (p : PostE K H m q Q) (h : q d m) (r : Rep K H d v) (s : Sim K H m) : Q v H := p d m v H h r s (Step.refl _ _)
theorem PostE.tup {K : PySem.W.Frag} {H : Hp} {m : Mem} {q : DQ} {Q : VK} {ds : List D} {vs : List V} {a : Addr} (p : PostE K H m q Q) (h : q (.tup ds) m) (n : H a = none) (r : Reps K H ds vs) (s : Sim K H m) : Q (.ref a) (upd H a (.tup vs)) :=
  p _ m _ _ h (.tup upd_same (r.mono (upd_new n))) (s.alloc n) (Step.alloc n)
theorem PostE.lst {K : PySem.W.Frag} {H : Hp} {m : Mem} {q : DQ} {Q : VK} {ds : List D} {vs : List V} {a : Addr} (p : PostE K H m q Q) (h : ∀ a, m a = none → q (.ref a) (m.set a (.lst ds))) (n : H a = none) (r : Reps K H ds vs) (s : Sim K H m) : Q (.ref a) (upd H a (.lst vs)) :=
  p _ _ _ _ (h a (s.free n)) (.ref a) (s.allocM n ⟨vs, upd_same, r.mono (upd_new n)⟩) (Step.allocM n)
/-- a remembered list is rewritten, d is given back -/
theorem PostE.wrt {K : PySem.W.Frag} {H : Hp} {m : Mem} {q : DQ} {Q : VK} {ds : List D} {vs : List V} {a : Addr} {w : MO} {d : D} {v : V} (p : PostE K H m q Q) (e : m a = some w) (h : q d (m.set a (.lst ds))) (r : Reps K H ds vs) (rd : Rep K H d v) (s : Sim K H m) (hw : w.mut = true := by rfl) : Q v (upd H a (.lst vs)) :=
  p _ _ _ _ h (rd.mono (upd_old s e hw)) (s.write e ⟨vs, upd_same, r.mono (upd_old s e hw)⟩ hw) (Step.write s e hw)
section
variable {X : Cx}
def addD : DR2
  | .int i, .int j, m, q => q (.int (i + j)) m
  | .str x, .str y, m, q => x.length + y.length ≤ sizeLine ∧ q (.str (x ++ y)) m
  | .tup xs, .tup ys, m, q => xs.length + ys.length ≤ sizeLine ∧ q (.tup (xs ++ ys)) m
  | .ref a, .ref b, m, q => ∃ xs ys, m a = some (.lst xs) ∧ m b = some (.lst ys) ∧ xs.length + ys.length ≤ sizeLine ∧ ∀ p, m p = none → q (.ref p) (m.set p (.lst (xs ++ ys)))
  | _, _, _, _ => False
theorem d_add : OpD X (binaryOp .Add) addD := by
  intro pins s σ H x y v u Q I rx ry ⟨dx, dy, m, q, r1, r2, sim, h, post⟩
  cases dx with
  | int i =>
    cases dy with
    | int j => cases r1; cases r2; exact op_add pins s σ H _ _ v u Q I rx ry ⟨i, j, rfl, rfl, post.here h (.int _) sim⟩
    | _ => exact (show False from h).elim
  | str i =>
    cases dy with
    | str j => cases r1; cases r2; exact op_add_str pins s σ H _ _ v u Q I rx ry ⟨i, j, rfl, rfl, h.1, post.here h.2 (.str _) sim⟩
    | _ => exact (show False from h).elim
  | tup xs =>
    cases dy with
    | tup ys =>
      cases r1 with
      | tup h1 q1 =>
        cases r2 with
        | tup h2 q2 =>
          have hz : xs.length + ys.length ≤ sizeLine := h.1
          have hq : q (.tup (xs ++ ys)) m := h.2
          refine op_catA pins s σ H _ _ v u Q I rx ry ⟨_, _, _, _, rfl, rfl, SqT.of h1, SqT.of h2, by rw [← q1.length, ← q2.length]; exact hz, fun e => ?_, fun _ e => ?_, fun _ _ p hp => post.tup hq hp (q1.append q2) sim⟩
          · subst e
            cases q1
            exact post.here hq (.tup h2 q2) sim
          · subst e
            cases q2
            rw [List.append_nil] at hq
            exact post.here hq (.tup h1 q1) sim
    | _ => exact (show False from h).elim
  | ref a =>
    cases dy with
    | ref b =>
      cases r1; cases r2
      obtain ⟨xs, ys, ha, hb, hz, hq⟩ := h
      obtain ⟨va, ea, qa⟩ := sim a _ ha
      obtain ⟨vb, eb, qb⟩ := sim b _ hb
      exact op_cat pins s σ H _ _ v u Q I rx ry ⟨a, b, va, vb, rfl, rfl, ea, eb, by rw [← qa.length, ← qb.length]; exact hz, fun p hp => post.lst hq hp (qa.append qb) sim⟩
    | _ => exact (show False from h).elim
  | _ => exact (show False from h).elim
/-- two ints -/
def iiD (C : Int → Int → Prop) (g : Int → Int → D) : DR2
  | .int i, .int j, m, q => C i j ∧ q (g i j) m
  | _, _, _, _ => False
def ii0 (g : Int → Int → D) : DR2
  | .int i, .int j, m, q => q (g i j) m
  | _, _, _, _ => False
theorem d_ii {f : Value → Value → Sem Value} {C : Int → Int → Prop} {g : Int → Int → Int} (ho : OpR X f (rI C fun i j => .int (g i j))) : OpD X f (iiD C fun i j => .int (g i j)) := by
  intro pins s σ H x y v u Q I rx ry ⟨dx, dy, m, q, r1, r2, sim, h, post⟩
  cases dx with
  | int i =>
    cases dy with
    | int j => cases r1; cases r2; exact ho pins s σ H _ _ v u Q I rx ry ⟨i, j, rfl, rfl, h.1, post.here h.2 (.int _) sim⟩
    | _ => exact (show False from h).elim
  | _ => exact (show False from h).elim
theorem d_ii0 {f : Value → Value → Sem Value} {g : Int → Int → Int} (ho : OpR X f (rI0 fun i j => .int (g i j))) : OpD X f (ii0 fun i j => .int (g i j)) := by
  intro pins s σ H x y v u Q I rx ry ⟨dx, dy, m, q, r1, r2, sim, h, post⟩
  cases dx with
  | int i =>
    cases dy with
    | int j => cases r1; cases r2; exact ho pins s σ H _ _ v u Q I rx ry ⟨i, j, rfl, rfl, post.here h (.int _) sim⟩
    | _ => exact (show False from h).elim
  | _ => exact (show False from h).elim
theorem d_ib {f : Value → Value → Sem Value} {g : Int → Int → Bool} (ho : OpR X f (rI0 fun i j => .bl (g i j))) : OpD X f (ii0 fun i j => .bl (g i j)) := by
  intro pins s σ H x y v u Q I rx ry ⟨dx, dy, m, q, r1, r2, sim, h, post⟩
  cases dx with
  | int i =>
    cases dy with
    | int j => cases r1; cases r2; exact ho pins s σ H _ _ v u Q I rx ry ⟨i, j, rfl, rfl, post.here h (.bl _) sim⟩
    | _ => exact (show False from h).elim
  | _ => exact (show False from h).elim
abbrev subD : DR2 := ii0 fun i j => .int (i - j)
abbrev fdivD : DR2 := iiD CDiv fun i j => .int (i / j)
abbrev modD : DR2 := iiD (fun _ j => 0 < j) fun i j => .int (i % j)
abbrev powD : DR2 := iiD CPow fun i j => .int (i ^ j.toNat)
abbrev ltD : DR2 := ii0 fun i j => .bl (decide (i < j))
abbrev leD : DR2 := ii0 fun i j => .bl (decide (i ≤ j))
abbrev gtD : DR2 := ii0 fun i j => .bl (decide (j < i))
abbrev geD : DR2 := ii0 fun i j => .bl (decide (j ≤ i))
theorem d_sub : OpD X (binaryOp .Sub) subD := d_ii0 op_sub
theorem d_fdiv : OpD X (binaryOp .FloorDiv) fdivD := d_ii op_fdiv
theorem d_mod : OpD X (binaryOp .Mod) modD := d_ii op_mod
theorem d_pow : OpD X (binaryOp .Pow) powD := d_ii op_pow
theorem d_lt : OpD X (compareOp .Lt) ltD := d_ib op_lt
theorem d_le : OpD X (compareOp .LtE) leD := d_ib op_le
theorem d_gt : OpD X (compareOp .Gt) gtD := d_ib op_gt
theorem d_ge : OpD X (compareOp .GtE) geD := d_ib op_ge
def mulD : DR2
  | .int i, .int j, m, q => CMul i j ∧ q (.int (i * j)) m
  | .ref a, .int k, m, q => ∃ xs, m a = some (.lst xs) ∧ -(2 ^ 63) ≤ k ∧ k < 2 ^ 63 ∧ xs.length * k.toNat ≤ sizeLine ∧ ∀ p, m p = none → q (.ref p) (m.set p (.lst (List.replicate k.toNat xs).flatten))
  | .tup xs, .int k, m, q => xs ≠ [] ∧ 2 ≤ k ∧ k ≤ 1000 ∧ xs.length ≤ 1000 ∧ q (.tup (List.replicate k.toNat xs).flatten) m
  | _, _, _, _ => False
theorem d_mul : OpD X (binaryOp .Mult) mulD := by
  intro pins s σ H x y v u Q I rx ry ⟨dx, dy, m, q, r1, r2, sim, h, post⟩
  cases dx with
  | int i =>
    cases dy with
    | int j => cases r1; cases r2; exact op_mul pins s σ H _ _ v u Q I rx ry ⟨i, j, rfl, rfl, h.1, post.here h.2 (.int _) sim⟩
    | _ => exact (show False from h).elim
  | ref a =>
    cases dy with
    | int j =>
      cases r1; cases r2
      obtain ⟨xs, ha, h1, h2, hz, hq⟩ := h
      obtain ⟨va, ea, qa⟩ := sim a _ ha
      exact op_rep pins s σ H _ _ v u Q I rx ry ⟨a, j, va, rfl, rfl, ea, h1, h2, by rw [← qa.length]; exact hz, fun p hp => post.lst hq hp (qa.rep _) sim⟩
    | _ => exact (show False from h).elim
  | tup xs =>
    cases dy with
    | int j =>
      cases r2
      obtain ⟨h0, h1, h2, hz, hq⟩ := h
      cases r1 with
      | tup e1 q1 =>
        exact op_repT pins s σ H _ _ v u Q I rx ry ⟨_, j, _, rfl, rfl, SqT.of e1, fun z => h0 (by
          subst z; cases q1; rfl), h1, h2, by rw [← q1.length]; exact hz, fun p hp => post.tup hq hp (q1.rep _) sim⟩
    | _ => exact (show False from h).elim
  | _ => exact (show False from h).elim
def negD : DR1
  | .int i, m, q => q (.int (-i)) m
  | _, _, _ => False
theorem d_neg : UnD X (unaryOp .USub) negD := by
  intro pins s σ H x v Q I rx ⟨dx, m, q, r1, sim, h, post⟩
  cases dx with
  | int i => cases r1; exact un_neg pins s σ H _ v Q I rx ⟨i, rfl, post.here h (.int _) sim⟩
  | _ => exact (show False from h).elim
/-- is None -/
def isND (neg : Bool) : DR2
  | .non, .non, m, q => q (.bl (!neg)) m
  | _, .non, m, q => q (.bl neg) m
  | _, _, _, _ => False
theorem rep_non {K : PySem.W.Frag} {H : Hp} {d : D} {v : V} (r : Rep K H d v) : (v = .non ↔ d = .non) := by
  cases r <;> constructor <;> intro h <;> first | rfl | cases h
theorem d_isN : OpD X (compareOp .Is) (isND false) := by
  intro pins s σ H x y v u Q I rx ry ⟨dx, dy, m, q, r1, r2, sim, h, post⟩
  have e := rep_non r1
  cases dy with
  | non =>
    cases r2
    refine op_isN pins s σ H _ _ v u Q I rx ry ⟨rfl, ?_⟩
    by_cases z : x = .non
    · have z2 := e.mp z
      subst z2
      rw [decide_eq_true z]
      exact post.here h (.bl _) sim
    · have z2 : dx ≠ .non := fun q => z (e.mpr q)
      rw [decide_eq_false z]
      cases dx <;> first | exact absurd rfl z2 | exact post.here h (.bl _) sim
  | _ => cases dx <;> exact (show False from h).elim
/-! ### == of data -/
mutual
def pyW (f : Addr → Option PyData) : D → Option PyData
  | .non => some .none
  | .bl b => some (.bool b)
  | .int i => some (.int i)
  | .str x => some (.str x)
  | .ty _ => none
  | .ref a => f a
  | .tup xs => (pyWs f xs).map .tuple
  | .ftup xs => (pyWs f xs).map .tuple
  | .rol xs => (pyWs f xs).map .list
def pyWs (f : Addr → Option PyData) : List D → Option (List PyData)
  | [] => some []
  | d :: ds => match pyW f d, pyWs f ds with
    | some p, some ps => some (p :: ps)
    | _, _ => none
end
def pyA (m : Mem) : Nat → Addr → Option PyData
  | 0, _ => none
  | n + 1, a => match m a with
    | some (.lst xs) => (pyWs (pyA m n) xs).map .list
    | _ => none
abbrev pyD (m : Mem) (d : D) : Option PyData := pyW (pyA m 3) d
abbrev pyDs (m : Mem) (ds : List D) : Option (List PyData) := pyWs (pyA m 3) ds
mutual
theorem pyW_ok {K : PySem.W.Frag} {H : Hp} {f : Addr → Option PyData} (hf : ∀ a p, f a = some p → Dp K H (.ref a) p) : ∀ {d : D} {v : V} {p : PyData}, Rep K H d v → pyW f d = some p → Dp K H v p
  | _, _, _, .non, e => by cases e; exact .non
  | _, _, _, .bl b, e => by cases e; exact .bl b
  | _, _, _, .int b, e => by cases e; exact .int b
  | _, _, _, .str b, e => by cases e; exact .str b
  | _, _, _, .ty b, e => by cases e
  | _, _, _, .ref a, e => hf a _ e
  | .tup xs, _, _, .tup h r, e => by
    unfold pyW at e
    cases q : pyWs f xs with
    | none => rw [q] at e; cases e
    | some ps => rw [q] at e; cases e; exact .tup (SqT.of h) (pyWs_ok hf r q)
  | .ftup xs, _, _, .ftup h _ r, e => by
    unfold pyW at e
    cases q : pyWs f xs with
    | none => rw [q] at e; cases e
    | some ps => rw [q] at e; cases e; exact .tup (.inl (.inr ⟨_, h⟩)) (pyWs_ok hf r q)
  | .rol xs, _, _, .rol h r, e => by
    unfold pyW at e
    cases q : pyWs f xs with
    | none => rw [q] at e; cases e
    | some ps => rw [q] at e; cases e; exact .lst (rol_sq h) (pyWs_ok hf r q)
theorem pyWs_ok {K : PySem.W.Frag} {H : Hp} {f : Addr → Option PyData} (hf : ∀ a p, f a = some p → Dp K H (.ref a) p) : ∀ {ds : List D} {vs : List V} {ps : List PyData}, Reps K H ds vs → pyWs f ds = some ps → DpAll K H vs ps
  | _, _, _, .nil, e => by cases e; exact .nil
  | d :: ds, _, _, .cons h r, e => by
    unfold pyWs at e
    cases q1 : pyW f d with
    | none => rw [q1] at e; cases e
    | some p =>
      cases q2 : pyWs f ds with
      | none => rw [q1, q2] at e; cases e
      | some ps => rw [q1, q2] at e; cases e; exact .cons (pyW_ok hf h q1) (pyWs_ok hf r q2)
end
theorem pyA_ok {K : PySem.W.Frag} {H : Hp} {m : Mem} (s : Sim K H m) : ∀ (n : Nat) (a : Addr) (p : PyData), pyA m n a = some p → Dp K H (.ref a) p
  | 0, _, _, e => by cases e
  | n + 1, a, p, e => by
    unfold pyA at e
    split at e
    · rename_i xs q
      obtain ⟨vs, h, r⟩ := s a _ q
      cases z : pyWs (pyA m n) xs with
      | none => rw [z] at e; cases e
      | some ps => rw [z] at e; cases e; exact .lst (SqL.of h) (pyWs_ok (pyA_ok s n) r z)
    · cases e
def eqD : DR2 := fun x y m q => match x, y with
  | .int i, .int j => q (.bl (i == j)) m
  | .str i, .str j => q (.bl (decide (i = j))) m
  | x, y => match pyD m x, pyD m y with
    | some a, some b => SeqAt.shaped a = true ∧ SeqAt.shaped b = true ∧ q (.bl (PyData.eqv a b)) m
    | _, _ => False
def neD : DR2 := fun x y m q => match x, y with
  | .int i, .int j => q (.bl (!(i == j))) m
  | .str i, .str j => q (.bl (!decide (i = j))) m
  | x, y => match pyD m x, pyD m y with
    | some a, some b => SeqAt.shaped a = true ∧ SeqAt.shaped b = true ∧ q (.bl (!PyData.eqv a b)) m
    | _, _ => False
theorem dec_strV {i j : Str} : decide (V.str i = V.str j) = decide (i = j) := by
  by_cases h : i = j
  · subst h; simp
  · have : V.str i ≠ V.str j := fun e => h (V.str.inj e)
    rw [decide_eq_false h, decide_eq_false this]
theorem d_eq (hu : X.A.units + 64 < cLine) : OpD X (compareOp .Eq) eqD := by
  intro pins s σ H x y v u Q I rx ry ⟨dx, dy, m, q, r1, r2, sim, h, post⟩
  have gen : ∀ a b, pyD m dx = some a → pyD m dy = some b → SeqAt.shaped a = true → SeqAt.shaped b = true → q (.bl (PyData.eqv a b)) m → wpAny (model X.prog X.w) X.A (compareOp .Eq v u) (EP X pins σ Q) X.xe s := fun a b e1 e2 h1 h2 h3 =>
    op_eqD hu pins s σ H _ _ v u Q I rx ry ⟨a, b, pyW_ok (pyA_ok sim 3) r1 e1, pyW_ok (pyA_ok sim 3) r2 e2, h1, h2, post.here h3 (.bl _) sim⟩
  unfold eqD at h
  split at h
  · rename_i i j; exact gen (.int i) (.int j) rfl rfl (by simp [SeqAt.shaped, PyData.canLay0, PyData.depth]) (by simp [SeqAt.shaped, PyData.canLay0, PyData.depth]) h
  · rename_i i j; cases r1; cases r2; exact op_eq pins s σ H _ _ v u Q I rx ry ⟨rfl, by rw [dec_strV]; exact post.here h (.bl _) sim⟩
  · split at h
    · rename_i a b e1 e2; exact gen a b e1 e2 h.1 h.2.1 h.2.2
    · exact h.elim
theorem d_ne (hu : X.A.units + 64 < cLine) : OpD X (compareOp .NotEq) neD := by
  intro pins s σ H x y v u Q I rx ry ⟨dx, dy, m, q, r1, r2, sim, h, post⟩
  have gen : ∀ a b, pyD m dx = some a → pyD m dy = some b → SeqAt.shaped a = true → SeqAt.shaped b = true → q (.bl (!PyData.eqv a b)) m → wpAny (model X.prog X.w) X.A (compareOp .NotEq v u) (EP X pins σ Q) X.xe s := fun a b e1 e2 h1 h2 h3 =>
    op_neD hu pins s σ H _ _ v u Q I rx ry ⟨a, b, pyW_ok (pyA_ok sim 3) r1 e1, pyW_ok (pyA_ok sim 3) r2 e2, h1, h2, post.here h3 (.bl _) sim⟩
  unfold neD at h
  split at h
  · rename_i i j; exact gen (.int i) (.int j) rfl rfl (by simp [SeqAt.shaped, PyData.canLay0, PyData.depth]) (by simp [SeqAt.shaped, PyData.canLay0, PyData.depth]) h
  · rename_i i j; cases r1; cases r2; exact op_ne pins s σ H _ _ v u Q I rx ry ⟨rfl, by rw [dec_strV]; exact post.here h (.bl _) sim⟩
  · split at h
    · rename_i a b e1 e2; exact gen a b e1 e2 h.1 h.2.1 h.2.2
    · exact h.elim
end

/-! ### places -/
theorem Reps.atI {K : PySem.W.Frag} {H : Hp} {ds : List D} {vs : List V} {i : Int} {d : D} (r : Reps K H ds vs) (e : atI ds i = some d) : ∃ v, atI vs i = some v ∧ Rep K H d v := by
  unfold L2.atI at e ⊢
  rw [← r.length]
  cases q : ixN ds.length i with
  | none => rw [q] at e; cases e
  | some j =>
    rw [q] at e
    obtain ⟨v, h1, h2⟩ := r.get (i := j) e
    exact ⟨v, h1, h2⟩
def cutL {α : Type} (xs : List α) (lo hi : Option Int) : List α := (xs.drop (HT.sIx xs.length 0 lo)).take (HT.sIx xs.length xs.length hi - HT.sIx xs.length 0 lo)
theorem Reps.cut {K : PySem.W.Frag} {H : Hp} {ds : List D} {vs : List V} (r : Reps K H ds vs) (lo hi : Option Int) : Reps K H (cutL ds lo hi) (cutV vs lo hi) := by
  unfold cutL cutV
  rw [← r.length]
  exact (r.drop _).take _
/-- the items of a list or tuple -/
def itemsOf (m : Mem) : D → Option (List D)
  | .tup xs => some xs
  | .ftup xs => some xs
  | .rol xs => some xs
  | .ref a => match m a with
    | some (.lst xs) => some xs
    | _ => none
  | _ => none
theorem Sim.seq {K : PySem.W.Frag} {H : Hp} {m : Mem} {d : D} {v : V} {xs : List D} (s : Sim K H m) (r : Rep K H d v) (e : itemsOf m d = some xs) : ∃ a vs, v = .ref a ∧ (SqL K H a vs ∨ SqT K H a vs) ∧ Reps K H xs vs := by
  cases r with
  | tup h rs => cases e; exact ⟨_, _, rfl, .inr (SqT.of h), rs⟩
  | ftup h _ rs => cases e; exact ⟨_, _, rfl, .inr (.inl (.inr ⟨_, h⟩)), rs⟩
  | rol h rs => cases e; exact ⟨_, _, rfl, .inl (rol_sq h), rs⟩
  | ref a =>
    unfold itemsOf at e
    dsimp only at e
    split at e
    · rename_i ys q; cases e; obtain ⟨vs, h, r⟩ := s a _ q; exact ⟨a, vs, rfl, .inl (.inl (.inl h)), r⟩
    · cases e
  | _ => cases e
section
variable {X : Cx} {B : Bs} {a b e o : Expr} {es : List Expr} {ta tb te : DTE} {t : DTA} {pos p2 apos cpos : Pos} {lo hi : Option Expr}
def ixD : DR2 := fun x y m q => match y with
  | .int i => match itemsOf m x with
    | some xs => match atI xs i with
      | some d => q d m
      | none => False
    | none => False
  | _ => False
theorem d_ix : IxR X (up2 X.K ixD) := by
  intro value slice pins s σ H x y v u Q I rx ry ⟨dx, dy, m, q, r1, r2, sim, h, post⟩ hs
  unfold ixD at h
  split at h
  · rename_i i
    split at h
    · rename_i xs e
      split at h
      · rename_i d ed
        cases r2
        obtain ⟨p, vs, rfl, hq, rs⟩ := sim.seq r1 e
        obtain ⟨w, ew, rw'⟩ := rs.atI ed
        rcases hq with hq | hq
        · exact ix_list value slice pins s σ H _ _ v u Q I rx ry ⟨p, vs, i, w, rfl, rfl, hq, ew, post.here h rw' sim⟩ hs
        · exact ix_tup value slice pins s σ H _ _ v u Q I rx ry ⟨p, vs, i, w, rfl, rfl, hq, ew, post.here h rw' sim⟩ hs
      · exact h.elim
    · exact h.elim
  · exact h.elim
theorem de_ix (ha : DE B X a ta) (hb : DE B X b tb) (hs : PlainIx b := by exact fun _ _ => rfl) : DE B X (.Subscript a b pos) (dOp ixD ta tb) := pe_imp (pe_ix d_ix ha hb hs) op_lift
/-! slices -/
abbrev DTO := DEnv → Mem → (Option Int → Mem → Prop) → Prop
def upO (K : PySem.W.Frag) (B : Bs) (t : DTO) : TO := fun σ H Q => ∃ ρ m q, Pre K B ρ m σ H ∧ t ρ m q ∧ ∀ o m' H', q o m' → Sim K H' m' → Step H m H' m' → Q o H'
abbrev DO (B : Bs) (X : Cx) (e : Option Expr) (t : DTO) : Prop := PO X e (upO X.K B t)
def dNoPart : DTO := fun _ m q => q none m
def dPart (t : DTE) : DTO := fun ρ m q => t ρ m fun d m' => match d with | .int i => q (some i) m' | _ => False
theorem do_none : DO B X none dNoPart := ⟨fun pins s σ H Q I ⟨ρ, m, q, p, h, post⟩ => po_none.run pins s σ H Q I (post none m H h p.sim (Step.refl _ _))⟩
theorem do_some (h : DE B X e te) : DO B X (some e) (dPart te) := ⟨fun pins s σ H Q I ⟨ρ, m, q, p, hh, post⟩ => (po_some h).run pins s σ H Q I ⟨ρ, m, _, p, hh, fun d m1 v H1 h1 r1 s1 t1 => by
  cases d with
  | int i => cases r1; exact ⟨i, rfl, post (some i) m1 H1 h1 s1 t1⟩
  | _ => exact (show False from h1).elim⟩⟩
def slD (d : D) (lo hi : Option Int) (m : Mem) (q : DQ) : Prop := match d with
  | .tup xs => q (.tup (cutL xs lo hi)) m
  | .rol xs => ∀ p, m p = none → q (.ref p) (m.set p (.lst (cutL xs lo hi)))
  | .ref a => match m a with
    | some (.lst xs) => ∀ p, m p = none → q (.ref p) (m.set p (.lst (cutL xs lo hi)))
    | _ => False
  | _ => False
def dSl (te : DTE) (tl th : DTO) : DTE := fun ρ m q => te ρ m fun x m1 => tl ρ m1 fun l m2 => th ρ m2 fun u m3 => slD x l u m3 q
theorem cut_whole {α : Type} {xs : List α} {lo hi : Option Int} (h : HT.sIx xs.length 0 lo = 0 ∧ HT.sIx xs.length xs.length hi = xs.length) : cutL xs lo hi = xs := by
  unfold cutL
  rw [h.1, h.2]
  simp
theorem d_sl : SlR X (fun x lo hi H Q => ∃ d m q, Rep X.K H d x ∧ Sim X.K H m ∧ slD d lo hi m q ∧ PostE X.K H m q Q) := by
  intro pins s σ H x v vl vu lo hi sl Q I rx hs pl pu ⟨d, m, q, r, sim, h, post⟩
  cases d with
  | tup xs =>
    cases r with
    | tup h1 q1 =>
      refine sl_tupA pins s σ H _ v vl vu lo hi sl Q I rx hs pl pu ⟨_, _, rfl, SqT.of h1, fun e => ?_, fun _ p hp => post.tup h hp (q1.cut lo hi) sim⟩
      rw [← q1.length] at e
      have hh : q (.tup (cutL xs lo hi)) m := h
      rw [cut_whole e] at hh
      exact post.here hh (.tup h1 q1) sim
  | rol xs =>
    cases r with
    | rol h1 q1 => exact sl_list pins s σ H _ v vl vu lo hi sl Q I rx hs pl pu ⟨_, _, rfl, rol_sq h1, fun p hp => post.lst h hp (q1.cut lo hi) sim⟩
  | ref a =>
    cases r
    unfold slD at h
    dsimp only at h
    split at h
    · rename_i xs e
      obtain ⟨vs, ea, qa⟩ := sim a _ e
      exact sl_list pins s σ H _ v vl vu lo hi sl Q I rx hs pl pu ⟨_, _, rfl, SqL.of ea, fun p hp => post.lst h hp (qa.cut lo hi) sim⟩
    · exact h.elim
  | _ => exact (show False from h).elim
theorem de_slice {tl th : DTO} (he : DE B X e te) (hl : DO B X lo tl) (hu : DO B X hi th) : DE B X (.Subscript e (.Slice lo hi none p2) pos) (dSl te tl th) :=
  pe_imp (pe_slice d_sl he hl hu) fun σ H Q ⟨ρ, m, q, p, h, post⟩ => ⟨ρ, m, _, p, h, fun d m1 v H1 h1 r1 s1 t1 => ⟨ρ, m1, _, p.next s1 t1, h1, fun l m2 H2 h2 s2 t2 =>
    ⟨ρ, m2, _, (p.next s1 t1).next s2 t2, h2, fun u m3 H3 h3 s3 t3 => ⟨d, m3, q, (r1.mono t2.ext).mono t3.ext, s3, h3, fun d4 m4 v4 H4 h4 r4 s4 t4 => post d4 m4 v4 H4 h4 r4 s4 (t1.trans (t2.trans (t3.trans t4)))⟩⟩⟩⟩

/-! ### methods of lists -/
abbrev DRM := D → List D → Mem → DQ → Prop
def upM (K : PySem.W.Frag) (r : DRM) : V → List V → Hp → VK → Prop := fun x xs H Q => ∃ d ds m q, Rep K H d x ∧ Reps K H ds xs ∧ Sim K H m ∧ r d ds m q ∧ PostE K H m q Q
def dBM (r : DRM) (to : DTE) (t : DTA) : DTE := fun ρ m q => to ρ m fun x m1 => (∃ a xs, x = .ref a ∧ m1 a = some (.lst xs)) ∧ t ρ m1 fun ds m2 => r x ds m2 q
variable {name : Str} {id : String} {r : DRM} {to : DTE}
theorem de_bmL (slot : Slot "list" name id) (hty : typeOf (.builtin id) = pure (.type "method_descriptor")) (hm : MtR X id (upM X.K r)) (ho : DE B X o to) (ha : DA B X (e :: es) t)
    (hbase : attributeBase o name X.env (eval o X.env) = eval o X.env := by rfl)
    (hfew : ((backTo cpos (starEach (e :: es) X.env)).all (fun x => !x.1) && (backToKw cpos (keywordEach [] X.env)).all (fun x => x.1.isSome)
      && decide ((e :: es).length + ([] : List Keyword).length + (if ([] : List Keyword).isEmpty then 0 else 1) < 30)) = true := by rfl)
    (hline : (apos.endLine == cpos.line) = true := by rfl) (hs : starEach (e :: es) X.env = (false, eval e X.env) :: starEach es X.env := by rfl) (hplain : (backTo cpos (starEach es X.env)).any (·.1) = false := by rfl) :
    DE B X (.Call (.Attribute o name apos) (e :: es) [] cpos) (dBM r to t) :=
  pe_imp (pe_bm PySem.F.plainAttrs_list slot hty hm ho ha hbase hfew hline hs hplain) fun σ H Q ⟨ρ, m, q, p, h, post⟩ => ⟨ρ, m, _, p, h, fun d m1 v H1 ⟨⟨a, xs, hd, hm1⟩, h1⟩ r1 s1 t1 => by
    subst hd
    cases r1
    obtain ⟨vs, hv, _⟩ := s1 a _ hm1
    exact ⟨.inl ⟨rfl, vs, SqL.of hv⟩, ρ, m1, _, p.next s1 t1, h1, fun ds m2 us H2 h2 r2 s2 t2 => ⟨.ref a, ds, m2, q, .ref a, r2, s2, h2, fun d3 m3 v3 H3 h3 r3 s3 t3 => post d3 m3 v3 H3 h3 r3 s3 (t1.trans (t2.trans t3))⟩⟩⟩
def appendD : DRM
  | .ref a, [d], m, q => ∃ xs, m a = some (.lst xs) ∧ xs.length < sizeLine ∧ q .non (m.set a (.lst (xs ++ [d])))
  | _, _, _, _ => False
theorem m_append : MtR X "list.append" (upM X.K appendD) := by
  intro pins s σ H x xs v us Q I rx rv ⟨d, ds, m, q, r1, r2, sim, h, post⟩
  unfold appendD at h
  split at h
  · rename_i a e
    obtain ⟨ys, ha, hz, hq⟩ := h
    cases r1
    obtain ⟨vs, hv, rs⟩ := sim a _ ha
    cases r2 with
    | cons q1 q2 =>
      cases q2
      exact mt_append pins s σ H _ _ v us Q I rx rv ⟨a, vs, _, rfl, rfl, hv, by rw [← rs.length]; exact hz, post.wrt ha hq (rs.append (.cons q1 .nil)) .non sim⟩
  · exact h.elim
def popAtD : DRM
  | .ref a, [.int i], m, q => ∃ xs k d, m a = some (.lst xs) ∧ -(2 ^ 63) ≤ i ∧ i < 2 ^ 63 ∧ seqIndex? i xs.length = some k ∧ xs[k]? = some d ∧ q d (m.set a (.lst (xs.eraseIdx k)))
  | _, _, _, _ => False
theorem m_popAt : MtR X "list.pop" (upM X.K popAtD) := by
  intro pins s σ H x xs v us Q I rx rv ⟨d, ds, m, q, r1, r2, sim, h, post⟩
  unfold popAtD at h
  split at h
  · rename_i a i
    obtain ⟨ys, k, d, ha, h1, h2, hk, hd, hq⟩ := h
    cases r1
    obtain ⟨vs, hv, rs⟩ := sim a _ ha
    obtain ⟨w, hw, rw'⟩ := rs.get hd
    cases r2 with
    | cons q1 q2 =>
      cases q2
      cases q1
      exact mt_popAt pins s σ H _ _ v us Q I rx rv ⟨a, vs, i, k, w, rfl, rfl, hv, h1, h2, by rw [← rs.length]; exact hk, hw, post.wrt ha hq (rs.eraseIdx k) rw' sim⟩
  · exact h.elim
end
end L2.Lh

namespace L2.Lh
open PySem PySem.Spec PyProof.Rows

/-! ### what is walked -/
structure Itd where
  items : List D
  chk : Mem → Prop
abbrev DTI := DEnv → Mem → (Itd → Mem → Prop) → Prop
structure ItOk (K : PySem.W.Frag) (it : Itd) (J : It) (H0 : Hp) (m0 : Mem) : Prop where
  go : ∀ (i : Nat) (d : D) (m : Mem) (H : Hp), it.items[i]? = some d → Sim K H m → Step H0 m0 H m → it.chk m → J.go i H ∧ ∀ x H', J.yld i H x H' → Rep K H' d x ∧ Sim K H' m ∧ Step H m H' m
  stop : ∀ (m : Mem) (H : Hp), Sim K H m → Step H0 m0 H m → it.chk m → J.stop it.items.length H
def upI (K : PySem.W.Frag) (B : Bs) (t : DTI) : TI := fun σ H R => ∃ ρ m q, Pre K B ρ m σ H ∧ t ρ m q ∧ ∀ it m' J H', q it m' → ItOk K it J H' m' → Sim K H' m' → Step H m H' m' → R J H'
abbrev DI (B : Bs) (X : Cx) (tg iter : Expr) (t : DTI) : Prop := PI X tg iter (upI X.K B t)
section
variable {X : Cx} {B : Bs} {tg : Expr}
theorem pi_imp {iter : Expr} {w w' : TI} (h : PI X tg iter w) (i : ∀ σ H R, w' σ H R → w σ H R) : PI X tg iter w' := ⟨fun pins s σ H R I q => h.run pins s σ H R I (i σ H R q)⟩
theorem pi_seq {l : Expr} {tl : TE} (hl : PE X l tl) : PI X tg l (fun σ H R => tl σ H fun x H1 => ∃ a, x = .ref a ∧ (((∃ xs, SqL X.K H1 a xs) ∧ R (Itl X.K a) H1) ∨ ((∃ xs, SqT X.K H1 a xs) ∧ R (Itt X.K a) H1))) := by
  refine ⟨fun pins s σ H R I h => ?_⟩
  refine thn (hl.run pins s σ H _ I h) fun v s1 ⟨x, H1, I1, r1, q1⟩ => ?_
  obtain ⟨a, e, q1⟩ := q1
  subst e
  cases r1
  rcases q1 with ⟨⟨xs, hq⟩, q⟩ | ⟨⟨xs, hq⟩, q⟩
  · obtain ⟨its, rv, p, hz⟩ := I1.list hq
    refine wpAny_pyIter_list p.isList ?_
    refine ⟨s1.heap.objs.size, [s1.heap.objs.size], _, _, H1, rfl, I1.kept (t' := s1.toks) fun b o e => Heap.get?_push_of_some _ e, turn_list a _, ⟨_, Heap.get?_push_size _ rfl, rfl, rfl⟩, fun b hb => ?_, q⟩
    have e : b = s1.heap.objs.size := by simpa using hb
    subst e
    exact I1.fpOk (Nat.le_refl _) (I1.hok.fresh (Nat.le_refl _))
  · obtain ⟨its, rv, p, hz⟩ := I1.tuple hq
    refine wpAny_pyIter_tuple (show s1.heap.IsTuple a its.toArray from p) ?_
    refine ⟨s1.heap.objs.size, [s1.heap.objs.size], _, _, H1, rfl, I1.kept (t' := s1.toks) fun b o e => Heap.get?_push_of_some _ e, turn_tuple a _, ⟨_, Heap.get?_push_size _ rfl, rfl, rfl⟩, fun b hb => ?_, q⟩
    have e : b = s1.heap.objs.size := by simpa using hb
    subst e
    exact I1.fpOk (Nat.le_refl _) (I1.hok.fresh (Nat.le_refl _))
/-- the items as they are asked for -/
def itOf (m : Mem) (d : D) (q : Itd → Prop) : Prop := match d with
  | .tup xs => q ⟨xs, fun _ => True⟩
  | .ftup xs => q ⟨xs, fun _ => True⟩
  | .rol xs => q ⟨xs, fun _ => True⟩
  | .ref a => match m a with
    | some (.lst xs) => q ⟨xs, fun m' => m' a = some (.lst xs)⟩
    | _ => False
  | _ => False
theorem ItOk.list {K : PySem.W.Frag} {a : Addr} {xs : List D} {H0 : Hp} {m0 : Mem} : ItOk K ⟨xs, fun m' => m' a = some (.lst xs)⟩ (Itl K a) H0 m0 where
  go := fun i d m H e s _ c => by
    obtain ⟨vs, h, r⟩ := s a _ c
    obtain ⟨v, h1, h2⟩ := r.get e
    refine ⟨⟨vs, v, SqL.of h, h1⟩, fun x H' ⟨e1, e2⟩ => ?_⟩
    subst e1
    have := e2 vs (SqL.of h)
    rw [h1] at this
    cases this
    exact ⟨h2, s, Step.refl _ _⟩
  stop := fun m H s _ c => by
    obtain ⟨vs, h, r⟩ := s a _ c
    exact ⟨vs, SqL.of h, Nat.le_of_eq r.length.symm⟩
theorem Step.tupAt {H H' : Hp} {m m' : Mem} (s : Step H m H' m') {a : Addr} {vs : List V} (h : H a = some (.tup vs)) : H' a = some (.tup vs) := s.ext.tup a vs h
theorem ItOk.tuple {K : PySem.W.Frag} {a : Addr} {vs : List V} {xs : List D} {H0 : Hp} {m0 : Mem} (h : H0 a = some (.tup vs)) (r : Reps K H0 xs vs) : ItOk K ⟨xs, fun _ => True⟩ (Itt K a) H0 m0 where
  go := fun i d m H e s st _ => by
    have h' := st.tupAt h
    have r' := r.mono st.ext
    obtain ⟨v, h1, h2⟩ := r'.get e
    refine ⟨⟨vs, v, SqT.of h', h1⟩, fun x H' ⟨e1, e2⟩ => ?_⟩
    subst e1
    have := e2 vs (SqT.of h')
    rw [h1] at this
    cases this
    exact ⟨h2, s, Step.refl _ _⟩
  stop := fun m H s st _ => ⟨vs, SqT.of (st.tupAt h), Nat.le_of_eq r.length.symm⟩
theorem ItOk.ftup {K : PySem.W.Frag} {a : Addr} {o : Obj} {vs : List V} {xs : List D} {H0 : Hp} {m0 : Mem} (h : H0 a = some (.frz o (.tup vs))) (r : Reps K H0 xs vs) : ItOk K ⟨xs, fun _ => True⟩ (Itt K a) H0 m0 := by
  have hh : ∀ {H : Hp} {m : Mem}, Step H0 m0 H m → SqT K H a vs := fun {H m} st => .inl (.inr ⟨o, st.ext.frz _ _ _ h⟩)
  exact {
    go := fun i d m H e s st _ => by
      obtain ⟨v, h1, h2⟩ := (r.mono st.ext).get e
      refine ⟨⟨vs, v, hh st, h1⟩, fun x H' ⟨e1, e2⟩ => ?_⟩
      subst e1
      have := e2 vs (hh st)
      rw [h1] at this
      cases this
      exact ⟨h2, s, Step.refl _ _⟩
    stop := fun m H s st _ => ⟨vs, hh st, Nat.le_of_eq r.length.symm⟩ }
theorem ItOk.rol {K : PySem.W.Frag} {a : Addr} {vs : List V} {xs : List D} {H0 : Hp} {m0 : Mem} (h : (∃ o, H0 a = some (.frz o (.lst vs))) ∨ (∃ (o : Obj) (its : Array Value) (n : Nat), K.lookup a = some o ∧ o.cls = .type "list" ∧ o.dict = none ∧ o.data = .seq its n ∧ its.size ≤ sizeLine ∧ Vals vs its.toList)) (r : Reps K H0 xs vs) : ItOk K ⟨xs, fun _ => True⟩ (Itl K a) H0 m0 := by
  have hh : ∀ {H : Hp} {m : Mem}, Step H0 m0 H m → SqL K H a vs := fun {H m} st => by
    rcases h with ⟨o, h⟩ | h
    · exact .inl (.inr ⟨o, st.ext.frz _ _ _ h⟩)
    · exact .inr h
  exact {
    go := fun i d m H e s st _ => by
      obtain ⟨v, h1, h2⟩ := (r.mono st.ext).get e
      refine ⟨⟨vs, v, hh st, h1⟩, fun x H' ⟨e1, e2⟩ => ?_⟩
      subst e1
      have := e2 vs (hh st)
      rw [h1] at this
      cases this
      exact ⟨h2, s, Step.refl _ _⟩
    stop := fun m H s st _ => ⟨vs, hh st, Nat.le_of_eq r.length.symm⟩ }
def iSeq (t : DTE) : DTI := fun ρ m q => t ρ m fun d m' => itOf m' d fun it => q it m'
theorem di_seq {e : Expr} {te : DTE} (h : DE B X e te) : DI B X tg e (iSeq te) :=
  pi_imp (pi_seq h) fun σ H R ⟨ρ, m, q, p, h, post⟩ => ⟨ρ, m, _, p, h, fun d m1 v H1 h1 r1 s1 t1 => by
    cases r1 with
    | tup e1 q1 => exact ⟨_, rfl, .inr ⟨⟨_, SqT.of e1⟩, post _ m1 _ H1 h1 (ItOk.tuple e1 q1) s1 t1⟩⟩
    | ftup e1 _ q1 => exact ⟨_, rfl, .inr ⟨⟨_, .inl (.inr ⟨_, e1⟩)⟩, post _ m1 _ H1 h1 (ItOk.ftup e1 q1) s1 t1⟩⟩
    | rol e1 q1 => exact ⟨_, rfl, .inl ⟨⟨_, rol_sq e1⟩, post _ m1 _ H1 h1 (ItOk.rol e1 q1) s1 t1⟩⟩
    | ref a =>
      unfold itOf at h1
      dsimp only at h1
      split at h1
      · rename_i xs ea
        obtain ⟨vs, hv, _⟩ := s1 a _ ea
        exact ⟨a, rfl, .inl ⟨⟨vs, SqL.of hv⟩, post _ m1 _ H1 h1 ItOk.list s1 t1⟩⟩
      · exact h1.elim
    | _ => exact (show False from h1).elim⟩
/-- over a list just made -/
def iNew (t : DTL) : DTI := fun ρ m q => t ρ m fun ds m' => q ⟨ds, fun _ => True⟩ m'
/-- lo, lo + 1, .. -/
def rngD (lo : Int) (n : Nat) : List D := (List.range n).map fun k => D.int (lo + (k : Nat))
theorem ItOk.rng {K : PySem.W.Frag} {lo : Int} {n : Nat} {H0 : Hp} {m0 : Mem} : ItOk K ⟨rngD lo n, fun _ => True⟩ (Itr lo n) H0 m0 where
  go := fun i d m H e s _ _ => by
    unfold rngD at e
    rw [List.getElem?_map] at e
    cases q : (List.range n)[i]? with
    | none => rw [q] at e; cases e
    | some k =>
      rw [q] at e
      cases e
      have hi : i < n := by
        have := (List.getElem?_eq_some_iff.mp q).1
        simpa using this
      have hk : k = i := by
        rw [List.getElem?_range hi] at q
        exact (Option.some.inj q).symm
      subst hk
      refine ⟨hi, fun x H' ⟨e1, e2⟩ => ?_⟩
      subst e1 e2
      exact ⟨.int _, s, Step.refl _ _⟩
  stop := fun m H s _ _ => by
    show n ≤ (rngD lo n).length
    unfold rngD
    simp
def iRange1 (ta : DTE) : DTI := fun ρ m q => ta ρ m fun d m' => match d with
  | .int j => -(2 ^ 62) ≤ j ∧ j < 2 ^ 62 ∧ q ⟨rngD 0 j.toNat, fun _ => True⟩ m'
  | _ => False
def iRange2 (ta tb : DTE) : DTI := fun ρ m q => ta ρ m fun d m1 => tb ρ m1 fun e m2 => match d, e with
  | .int i, .int j => (-(2 ^ 62) ≤ i ∧ i < 2 ^ 62 ∧ -(2 ^ 62) ≤ j ∧ j < 2 ^ 62) ∧ q ⟨rngD i (j - i).toNat, fun _ => True⟩ m2
  | _, _ => False
theorem di_range1 {a : Expr} {ta : DTE} {p pos : Pos} (hg : Gl X "range") (hm : X.mg "range" = none) (ha : DE B X a ta) (hs : starEach [a] X.env = [(false, eval a X.env)] := by rfl) : DI B X tg (.Call (.Name "range" p) [a] [] pos) (iRange1 ta) :=
  pi_imp (pi_range1 hg hm (da_cons ha da_nil hs) hs) fun σ H R ⟨ρ, m, q, p, h, post⟩ => ⟨ρ, m, fun ds m' => match ds with | [.int j] => -(2 ^ 62) ≤ j ∧ j < 2 ^ 62 ∧ q ⟨rngD 0 j.toNat, fun _ => True⟩ m' | _ => False, p, by
      unfold dCons dNil
      refine cast ?_ h
      unfold iRange1
      congr 1
      funext d m'
      cases d <;> rfl,
    fun ds m1 vs H1 h1 r1 s1 t1 => by
      dsimp only at h1
      split at h1
      · rename_i j
        obtain ⟨b1, b2, h1⟩ := h1
        cases r1 with
        | cons q1 q2 =>
          cases q2
          cases q1
          exact ⟨j, rfl, b1, b2, post _ m1 _ H1 h1 ItOk.rng s1 t1⟩
      · exact h1.elim⟩
def enumFrom (i : Nat) : List D → List D
  | [] => []
  | d :: r => .tup [.int (i : Nat), d] :: enumFrom (i + 1) r
theorem enumFrom_get : ∀ (xs : List D) (k i : Nat) (d : D), (enumFrom k xs)[i]? = some d → ∃ e, xs[i]? = some e ∧ d = .tup [.int ((k + i : Nat) : Int), e]
  | [], _, _, _, h => by simp [enumFrom] at h
  | x :: r, k, 0, d, h => by
    simp only [enumFrom, List.getElem?_cons_zero, Option.some.injEq] at h
    exact ⟨x, rfl, by rw [← h, Nat.add_zero]⟩
  | x :: r, k, i + 1, d, h => by
    simp only [enumFrom, List.getElem?_cons_succ] at h
    obtain ⟨e, h1, h2⟩ := enumFrom_get r (k + 1) i d h
    exact ⟨e, by simpa using h1, by rw [h2, show k + 1 + i = k + (i + 1) by omega]⟩
theorem enumFrom_length : ∀ (xs : List D) (k : Nat), (enumFrom k xs).length = xs.length
  | [], _ => rfl
  | _ :: r, k => by rw [enumFrom, List.length_cons, List.length_cons, enumFrom_length r]
def iEnumL (t : DTE) : DTI := fun ρ m q => t ρ m fun d m' => match d with
  | .ref a => match m' a with
    | some (.lst xs) => q ⟨enumFrom 0 xs, fun m'' => m'' a = some (.lst xs)⟩ m'
    | _ => False
  | _ => False
theorem ItOk.enumL {K : PySem.W.Frag} {a : Addr} {xs : List D} {H0 : Hp} {m0 : Mem} : ItOk K ⟨enumFrom 0 xs, fun m' => m' a = some (.lst xs)⟩ (Ite K a) H0 m0 where
  go := fun i d m H e s _ c => by
    obtain ⟨vs, h, r⟩ := s a _ c
    obtain ⟨e0, h0, hd⟩ := enumFrom_get xs 0 i d e
    obtain ⟨v, h1, h2⟩ := r.get h0
    refine ⟨⟨vs, v, SqL.of h, h1⟩, fun x H' ⟨T, z, e1, e2, e3, e4⟩ => ?_⟩
    subst e1 e3
    have := e4 vs (SqL.of h)
    rw [h1] at this
    cases this
    rw [hd, Nat.zero_add]
    exact ⟨.tup upd_same (.cons (.int _) (.cons (h2.mono (upd_new e2)) .nil)), s.alloc e2, Step.alloc e2⟩
  stop := fun m H s _ c => by
    obtain ⟨vs, h, r⟩ := s a _ c
    exact ⟨vs, SqL.of h, by rw [enumFrom_length]; exact Nat.le_of_eq r.length.symm⟩
theorem di_enumL {e : Expr} {te : DTE} {p pos tpos : Pos} {elts : List Expr} {kk : Nat} (hg : Gl X "enumerate") (hm : X.mg "enumerate" = none) (he : DE B X e te) (hs : starEach [e] X.env = [(false, eval e X.env)] := by rfl) :
    DI B X (.Tuple elts kk tpos) (.Call (.Name "enumerate" p) [e] [] pos) (iEnumL te) :=
  pi_imp (pi_enum hg hm (pa_cons he pa_nil hs) hs) fun σ H R ⟨ρ, m, q, p, h, post⟩ => ⟨ρ, m, _, p, h, fun d m1 v H1 h1 r1 s1 t1 => by
    cases r1 with
    | ref a =>
      dsimp only at h1
      split at h1
      · rename_i xs ea
        obtain ⟨vs, hv, _⟩ := s1 a _ ea
        exact ⟨a, vs, rfl, SqL.of hv, post _ m1 _ H1 h1 ItOk.enumL s1 t1⟩
      · exact h1.elim
    | _ => exact (show False from h1).elim⟩
end
end L2.Lh

namespace L2.Lh
open PySem PySem.Spec PyProof.Rows

/-! ### targets -/
theorem wipe_set : ∀ {vs : List Nat} {i : Nat} {σ : St} {x : Option V}, i ∈ vs → L2.wipe (σ.set i x) vs = L2.wipe σ vs
  | [], _, _, _, h => by cases h
  | v :: vs, i, σ, x, h => by
    unfold L2.wipe
    by_cases e : i ∈ vs
    · rw [wipe_set e]
    · have hv : i = v := by
        rcases List.mem_cons.mp h with h | h
        · exact h
        · exact absurd h e
      subst hv
      have gen : ∀ (ws : List Nat), i ∉ ws → L2.wipe (σ.set i x) ws = (L2.wipe σ ws).set i x := fun ws => by
        induction ws with
        | nil => intro _; rfl
        | cons w ws ih =>
          intro hn
          unfold L2.wipe
          rw [ih fun z => hn (List.mem_cons_of_mem _ z)]
          exact List.set_comm _ _ fun z => hn (by rw [z]; exact List.mem_cons_self)
      rw [gen vs e]
      simp
def gNm (i : Nat) : DTG := fun d ρ m q => q (ρ.set i (some d)) m
abbrev DTGs := List D → DEnv → Mem → (DEnv → Mem → Prop) → Prop
def upGs (K : PySem.W.Frag) (B : Bs) (vs : List Nat) (t : DTGs) : TGs := fun us σ H Q => ∃ ds ρ m q, Reps K H ds us ∧ Pre K B ρ m σ H ∧ t ds ρ m q ∧
  ∀ ρ' m' σ' H', q ρ' m' → RepEnv K H' ρ' σ' → L2.wipe σ' vs = L2.wipe σ vs → Sim K H' m' → Step H m H' m' → Q σ' H'
abbrev DGs (B : Bs) (X : Cx) (vs : List Nat) (es : List Expr) (t : DTGs) : Prop := PGs X es (upGs X.K B vs t)
def gNl : DTGs := fun ds ρ m q => match ds with | [] => q ρ m | _ => False
def gCn (t : DTG) (u : DTGs) : DTGs := fun ds ρ m q => match ds with | d :: r => t d ρ m fun ρ' m' => u r ρ' m' q | [] => False
def gTp (n : Nat) (t : DTGs) : DTG := fun d ρ m q => match d with | .tup xs => xs.length = n ∧ t xs ρ m q | _ => False
section
variable {X : Cx} {B : Bs} {pos : Pos} {vs : List Nat}
theorem dg_name {i : Nat} {x : Str} (hN : X.N.Nodup) (hi : X.N[i]? = some x := by rfl) (hx : Loc X.env.scope x := by first | exact Or.inl rfl | exact Or.inr rfl) (hf : X.fn x = true ∨ X.env.scope.names.lookup x = some .local := by first | exact .inl rfl | exact .inr rfl | assumption) (hv : i ∈ vs := by decide) : DG B X vs (.Name x pos) (gNm i) :=
  pg_imp (pg_name hN hi hx hf) fun v σ H Q ⟨d, ρ, m, q, r, p, h, post⟩ => post _ m _ H h (p.env.set r i) (wipe_set hv) p.sim (Step.refl _ _)
theorem dgs_nil : DGs B X vs [] gNl := ⟨fun pins s σ H us ws Q I r ⟨ds, ρ, m, q, rd, p, h, post⟩ => pgs_nil.run pins s σ H us ws Q I r (by
  cases ds with
  | nil => cases rd; exact ⟨rfl, post ρ m σ H h p.env rfl p.sim (Step.refl _ _)⟩
  | cons _ _ => exact h.elim)⟩
theorem dgs_cons {e : Expr} {es : List Expr} {t : DTG} {u : DTGs} (h1 : DG B X vs e t) (h2 : DGs B X vs es u)
    (hs : (assignEach (e :: es) X.env).map (·.2) = assign e X.env :: (assignEach es X.env).map (·.2) := by rfl) : DGs B X vs (e :: es) (gCn t u) :=
  ⟨fun pins s σ H us ws Q I r ⟨ds, ρ, m, q, rd, p, h, post⟩ => (pgs_cons h1 h2 hs).run pins s σ H us ws Q I r (by
    cases ds with
    | nil => exact h.elim
    | cons d ds =>
      cases rd with
      | cons r1 r2 =>
        exact ⟨_, _, rfl, d, ρ, m, _, r1, p, h, fun ρ' m' σ' H' hq env hw sim st => ⟨ds, ρ', m', q, r2.mono st.ext, ⟨env, sim, p.st.trans st⟩, hq, fun ρ2 m2 σ2 H2 hq2 env2 hw2 sim2 st2 => post ρ2 m2 σ2 H2 hq2 env2 (hw2.trans hw) sim2 (st.trans st2)⟩⟩)⟩
theorem dg_tup {es : List Expr} {k : Nat} {t : DTGs} {n : Nat} (hc : X.calm = true) (h : DGs B X vs es t)
    (hn : (assignEach es X.env).length = n := by rfl) (hst : (assignEach es X.env).findIdx? (·.1) = none := by rfl) : DG B X vs (.Tuple es k pos) (gTp n t) :=
  pg_imp (pg_tup hc h hn hst) fun v σ H Q ⟨d, ρ, m, q, r, p, h, post⟩ => by
    cases d with
    | tup xs =>
      obtain ⟨hl, h⟩ := h
      cases r with
      | tup h1 q1 => exact ⟨_, _, rfl, SqT.of h1, by rw [← q1.length]; exact hl, xs, ρ, m, q, q1, p, h, post⟩
    | _ => exact (show False from h).elim
end

/-! ### statements -/
def dNext : DTS := fun E ρ m => E.nx ρ m
def dSeq (t u : DTS) : DTS := fun E ρ m => t { E with nx := u E } ρ m
def dDrop (te : DTE) : DTS := fun E ρ m => te ρ m fun _ m1 => E.nx ρ m1
def dRet (te : DTE) : DTS := fun E ρ m => te ρ m E.rt
def dRetN : DTS := fun E _ m => E.rt .non m
def dIfS (c : DTT) (t u : DTS) : DTS := fun E ρ m => c ρ m fun b m1 => if b = true then t E ρ m1 else u E ρ m1
def dAsg (te : DTE) (g : DTG) : DTS := fun E ρ m => te ρ m fun d m1 => g d ρ m1 E.nx
def dAug (i : Nat) (te : DTE) (r : DR2) : DTS := fun E ρ m => match ρ[i]? with
  | some (some d) => te ρ m fun e m1 => r d e m1 fun z m2 => E.nx (ρ.set i (some z)) m2
  | _ => False
/-- o[i] = v of a list -/
def setD (o i d : D) (m : Mem) (q : Mem → Prop) : Prop := match o, i with
  | .ref a, .int k => match m a with
    | some (.lst xs) => match ixN xs.length k with
      | some j => q (m.set a (.lst (xs.set j d)))
      | none => False
    | _ => False
  | _, _ => False
def dSetIx (te to ti : DTE) : DTS := fun E ρ m => te ρ m fun d m1 => to ρ m1 fun o m2 => ti ρ m2 fun i m3 => setD o i d m3 fun m4 => E.nx ρ m4
def dAugIx (to ti te : DTE) (r : DR2) : DTS := fun E ρ m => to ρ m fun o m1 => ti ρ m1 fun i m2 => ixD o i m2 fun d m3 => te ρ m3 fun e m4 => r d e m4 fun z m5 => setD o i z m5 fun m6 => E.nx ρ m6
section
variable {X : Cx} {B : Bs} {st : Stmt} {rest : List Stmt} {t u : DTS} {e : Expr} {te : DTE} {pos : Pos}
theorem dss_nil : DSs B X [] dNext := pss_imp pss_nil fun F σ H ⟨ρ, m, E, p, h, o⟩ => o.nx ρ m σ H h p.env p.sim (Step.refl _ _)
theorem dss_cons (h1 : DS B X st t) (h2 : DSs B X rest u) : DSs B X (st :: rest) (dSeq t u) :=
  pss_imp (pss_cons h1 h2) fun F σ H ⟨ρ, m, E, p, h, o⟩ => ⟨ρ, m, { E with nx := u E }, p, h, ⟨fun ρ' m' σ' H' hq env sim st => ⟨ρ', m', E, ⟨env, sim, p.st.trans st⟩, hq, o.next st⟩, o.rt, o.bk, o.ct⟩⟩
theorem dss_one (h1 : DS B X st t) : DSs B X [st] t := pss_one h1
theorem ds_expr (he : DE B X e te) (hs : swapsWith e none pos.line X.env = pure false := by rfl) : DS B X (.Expr e pos) (dDrop te) :=
  ps_imp (ps_expr he hs) fun F σ H ⟨ρ, m, E, p, h, o⟩ => ⟨ρ, m, _, p, h, fun d m1 v H1 h1 r1 s1 t1 => o.nx ρ m1 σ H1 h1 (p.env.mono t1.ext) s1 t1⟩
theorem ds_ret (he : DE B X e te) : DS B X (.Return (some e) pos) (dRet te) :=
  ps_imp (ps_ret he) fun F σ H ⟨ρ, m, E, p, h, o⟩ => ⟨ρ, m, _, p, h, fun d m1 v H1 h1 r1 s1 t1 => o.rt d m1 v H1 h1 r1 s1 t1⟩
theorem ds_if {c : Expr} {a b : List Stmt} {tc : DTT} (hc : DT B X c tc) (ha : DSs B X a t) (hb : DSs B X b u) : DS B X (.If c a b pos) (dIfS tc t u) :=
  ps_imp (ps_if hc ha hb) fun F σ H ⟨ρ, m, E, p, h, o⟩ => ⟨ρ, m, _, p, h, fun b m1 H1 h1 s1 t1 => by
    cases b with
    | true => exact ⟨ρ, m1, E, p.next s1 t1, h1, o.next t1⟩
    | false => exact ⟨ρ, m1, E, p.next s1 t1, h1, o.next t1⟩⟩
theorem asg_lift {K : PySem.W.Frag} {vs : List Nat} {g : DTG} : ∀ F σ H, upS K B (dAsg te g) F σ H → tAsg (upE K B te) (upG K B vs g) F σ H :=
  fun F σ H ⟨ρ, m, E, p, h, o⟩ => ⟨ρ, m, _, p, h, fun d m1 v H1 h1 r1 s1 t1 => ⟨d, ρ, m1, _, r1, p.next s1 t1, h1, fun ρ' m' σ' H' hq env _ sim st => o.nx ρ' m' σ' H' hq env sim (t1.trans st)⟩⟩
theorem ds_asg {tg : Expr} {vs : List Nat} {g : DTG} (he : DE B X e te) (hg : DG B X vs tg g) (hs : swapsWithSole [tg] e pos.line X.env = pure false := by rfl) (hw : swappedStores [tg] e X.env = pure none := by rfl)
    (h1 : (assignEach [tg] X.env).map (·.2) = [assign tg X.env] := by rfl) : DS B X (.Assign [tg] e pos) (dAsg te g) := ps_imp (ps_asg he hg hs hw h1) asg_lift
theorem ds_set {i : Nat} {x : Str} {pos' : Pos} (hN : X.N.Nodup) (he : DE B X e te) (hi : X.N[i]? = some x := by rfl) (hx : Loc X.env.scope x := by first | exact Or.inl rfl | exact Or.inr rfl) (hs : swapsWith e (some (.Name x pos')) pos.line X.env = pure false := by rfl) (hf : X.fn x = true ∨ X.env.scope.names.lookup x = some .local := by first | exact .inl rfl | exact .inr rfl | assumption) :
    DS B X (.Assign [.Name x pos'] e pos) (dAsg te (gNm i)) :=
  ps_imp (ps_set hN hi hx he hs hf) fun F σ H ⟨ρ, m, E, p, h, o⟩ => ⟨ρ, m, _, p, h, fun d m1 v H1 h1 r1 s1 t1 => o.nx _ m1 _ H1 h1 ((p.env.mono t1.ext).set r1 i) s1 t1⟩
theorem setD_ok {K : PySem.W.Frag} {H : Hp} {m : Mem} {o i d : D} {vo vi vd : V} {q : Mem → Prop} {Q : Hp → Prop} (sim : Sim K H m) (ro : Rep K H o vo) (ri : Rep K H i vi) (rd : Rep K H d vd) (h : setD o i d m q)
    (post : ∀ m' H', q m' → Sim K H' m' → Step H m H' m' → Q H') : rSetL vo vi vd H Q := by
  unfold setD at h
  split at h
  · rename_i a k
    split at h
    · rename_i xs ea
      split at h
      · rename_i j ej
        obtain ⟨vs, hv, rs⟩ := sim a _ ea
        cases ro; cases ri
        exact ⟨a, vs, k, j, rfl, rfl, hv, by rw [← rs.length]; exact ej, post _ _ h (sim.write ea ⟨_, upd_same, ((rs.set rd j).mono (upd_old sim ea))⟩) (Step.write sim ea)⟩
      · exact h.elim
    · exact h.elim
  · exact h.elim
theorem ds_setIx {oe ie : Expr} {to ti : DTE} {tpos : Pos} (he : DE B X e te) (ho : DE B X oe to) (hi : DE B X ie ti) (hs : swapsWithSole [.Subscript oe ie tpos] e pos.line X.env = pure false := by rfl) (hw : swappedStores [.Subscript oe ie tpos] e X.env = pure none := by rfl)
    (h1 : (assignEach [.Subscript oe ie tpos] X.env).map (·.2) = [assign (.Subscript oe ie tpos) X.env] := by rfl)
    (ha : ∀ v, assign (.Subscript oe ie tpos) X.env v = (do
      let ov ← holding [v] (eval oe X.env)
      let iv ← holding [v, ov] (eval ie X.env)
      standAt tpos
      holding [v, ov, iv] (setItem ov iv v)
      release [v, ov, iv] []) := by intro _; rfl) : DS B X (.Assign [.Subscript oe ie tpos] e pos) (dSetIx te to ti) :=
  ps_imp (ps_asg he (pg_sub ho hi set_list ha) hs hw h1) fun F σ H ⟨ρ, m, E, p, h, o⟩ => ⟨ρ, m, _, p, h, fun d m1 v H1 h1 r1 s1 t1 => ⟨ρ, m1, _, p.next s1 t1, h1, fun d2 m2 v2 H2 h2 r2 s2 t2 =>
    ⟨ρ, m2, _, (p.next s1 t1).next s2 t2, h2, fun d3 m3 v3 H3 h3 r3 s3 t3 => setD_ok s3 (r2.mono t3.ext) r3 (r1.mono (t2.trans t3).ext) h3 fun m4 H4 h4 s4 t4 =>
      o.nx ρ m4 σ H4 h4 (p.env.mono (t1.trans (t2.trans (t3.trans t4))).ext) s4 (t1.trans (t2.trans (t3.trans t4)))⟩⟩⟩
/-! ### loops -/
/-- between two turns what is not asked any more may be forgotten -/
def dn (N : DEnv → Mem → Prop) : DEnv → Mem → Prop := fun ρ m => ∃ m' : Mem, m'.le m ∧ N ρ m'
def forR (chk : Mem → Prop) (g : DTG) (tb : DTS) (E : DEnds) : List D → DEnv → Mem → Prop
  | [], ρ, m => chk m ∧ E.nx ρ m
  | d :: r, ρ, m => chk m ∧ g d ρ m fun ρ2 m2 => tb { E with nx := dn (forR chk g tb E r), ct := dn (forR chk g tb E r), bk := E.nx } ρ2 m2
def dFor (wi : DTI) (g : DTG) (tb : DTS) : DTS := fun E ρ m => wi ρ m fun it m1 => forR it.chk g tb E it.items ρ m1
theorem ds_for {tg iter : Expr} {body : List Stmt} {vs : List Nat} {wi : DTI} {g : DTG} {tb : DTS} (hp : PassesOwn (model X.prog X.w) X.A X.env X.xe) (hc : X.calm = true) (hi : DI B X tg iter wi) (hg : DG B X vs tg g) (hb : DSs B X body tb)
    (hs : ∀ x, foldedSetIterable iter X.env x = pure x := by intro _; rfl) : DS B X (.For tg iter body [] pos) (dFor wi g tb) :=
  ps_imp (ps_for hp hc hi hg hb hs) fun F σ H ⟨ρ, m, E, p, h, o⟩ => ⟨ρ, m, _, p, h, fun it m1 J H1 h1 ok s1 t1 => by
    refine ⟨fun i n σ' H' => n = it.items.length - i ∧ i ≤ it.items.length ∧ ∃ ρ' m', RepEnv X.K H' ρ' σ' ∧ Sim X.K H' m' ∧ Step H1 m1 H' m' ∧ forR it.chk g tb E (it.items.drop i) ρ' m', ⟨_, rfl, Nat.zero_le _, ρ, m1, p.env.mono t1.ext, s1, Step.refl _ _, h1⟩, ?_⟩
    rintro i n σ' H' ⟨rfl, hi, ρ', m', env, sim, st, hr⟩
    have o1 : EndsOk X.K H' m' E F := o.next (t1.trans st)
    by_cases hlt : i < it.items.length
    · obtain ⟨d, hd⟩ : ∃ d, it.items[i]? = some d := ⟨_, List.getElem?_eq_getElem hlt⟩
      have hdr : it.items.drop i = d :: it.items.drop (i + 1) := by
        rw [List.drop_eq_getElem_cons hlt]
        congr 1
        rw [List.getElem?_eq_getElem hlt] at hd
        exact Option.some.inj hd
      rw [hdr] at hr
      obtain ⟨ck, hr⟩ := hr
      obtain ⟨go, yl⟩ := ok.go i d m' H' hd sim st ck
      refine .inr ⟨go, fun σ2 H2 => ∃ ρ2 m2, RepEnv X.K H2 ρ2 σ2 ∧ Sim X.K H2 m2 ∧ Step H' m' H2 m2 ∧ forR it.chk g tb E (it.items.drop (i + 1)) ρ2 m2, fun σ2 H2 ⟨ρ2, m2, e2, s2, t2, f2⟩ => ⟨it.items.length - (i + 1), by omega, rfl, hlt, ρ2, m2, e2, s2, st.trans t2, f2⟩, fun x Hx hx => ?_⟩
      obtain ⟨rx, sx, tx⟩ := yl x Hx hx
      refine ⟨d, ρ', m', _, rx, ⟨env.mono tx.ext, sx, (p.st.trans t1).trans (st.trans tx)⟩, hr, fun ρ3 m3 σ3 H3 h3 e3 _ s3 t3 => ?_⟩
      have nxt : ∀ ρ4 m4 σ4 H4, dn (forR it.chk g tb E (it.items.drop (i + 1))) ρ4 m4 → RepEnv X.K H4 ρ4 σ4 → Sim X.K H4 m4 → Step H3 m3 H4 m4 → ∃ ρ2 m2, RepEnv X.K H4 ρ2 σ4 ∧ Sim X.K H4 m2 ∧ Step H' m' H4 m2 ∧ forR it.chk g tb E (it.items.drop (i + 1)) ρ2 m2 := fun ρ4 m4 σ4 H4 ⟨m5, hle, f5⟩ e4 s4 t4 =>
        ⟨ρ4, m5, e4, s4.forget hle, ((tx.trans t3).trans t4).forget hle, f5⟩
      exact ⟨ρ3, m3, _, ⟨e3, s3, (p.st.trans t1).trans ((st.trans tx).trans t3)⟩, h3, ⟨nxt, (o1.next (tx.trans t3)).rt, (o1.next (tx.trans t3)).nx, nxt⟩⟩
    · have e : i = it.items.length := by omega
      subst e
      rw [List.drop_length] at hr
      exact .inl ⟨ok.stop m' H' sim st hr.1, o1.nx ρ' m' σ' H' hr.2 env sim (Step.refl _ _)⟩⟩
def dWhile (c : DTT) (tb : DTS) : DTS := fun E ρ m => ∃ W : Nat → DEnv → Mem → Prop, (∃ n, W n ρ m) ∧ ∀ n ρ m, W n ρ m →
  c ρ m fun b m1 => if b = true then tb { E with nx := dn fun ρ' m' => ∃ n', n' < n ∧ W n' ρ' m', ct := dn fun ρ' m' => ∃ n', n' < n ∧ W n' ρ' m', bk := E.nx } ρ m1 else E.nx ρ m1
theorem ds_while {c : Expr} {body : List Stmt} {tc : DTT} {tb : DTS} (hp : PassesOwn (model X.prog X.w) X.A X.env X.xe) (hc : DT B X c tc) (hb : DSs B X body tb) : DS B X (.While c body [] pos) (dWhile tc tb) :=
  ps_imp (ps_while hp hc hb) fun F σ H ⟨ρ, m, E, p, ⟨W, ⟨n0, w0⟩, turn⟩, o⟩ => by
    refine ⟨fun n σ' H' => ∃ ρ' m', RepEnv X.K H' ρ' σ' ∧ Sim X.K H' m' ∧ Step H m H' m' ∧ W n ρ' m', ⟨n0, ρ, m, p.env, p.sim, Step.refl _ _, w0⟩, ?_⟩
    rintro n σ' H' ⟨ρ', m', env, sim, st, hw⟩
    refine ⟨ρ', m', _, ⟨env, sim, p.st.trans st⟩, turn n ρ' m' hw, fun b m1 H1 h1 s1 t1 => ?_⟩
    have o1 : EndsOk X.K H1 m1 E F := o.next (st.trans t1)
    cases b with
    | false => exact o1.nx ρ' m1 σ' H1 h1 (env.mono t1.ext) s1 (Step.refl _ _)
    | true =>
      refine ⟨fun σ2 H2 => ∃ n', n' < n ∧ ∃ ρ2 m2, RepEnv X.K H2 ρ2 σ2 ∧ Sim X.K H2 m2 ∧ Step H m H2 m2 ∧ W n' ρ2 m2, fun σ2 H2 ⟨n', hn, q⟩ => ⟨n', hn, q⟩, ?_⟩
      have nxt : ∀ ρ4 m4 σ4 H4, (dn fun ρ' m' => ∃ n', n' < n ∧ W n' ρ' m') ρ4 m4 → RepEnv X.K H4 ρ4 σ4 → Sim X.K H4 m4 → Step H1 m1 H4 m4 → ∃ n', n' < n ∧ ∃ ρ2 m2, RepEnv X.K H4 ρ2 σ4 ∧ Sim X.K H4 m2 ∧ Step H m H4 m2 ∧ W n' ρ2 m2 := fun ρ4 m4 σ4 H4 ⟨m5, hle, n', hn, f5⟩ e4 s4 t4 =>
        ⟨n', hn, ρ4, m5, e4, s4.forget hle, ((st.trans t1).trans t4).forget hle, f5⟩
      exact ⟨ρ', m1, _, ⟨env.mono t1.ext, s1, (p.st.trans st).trans t1⟩, h1, ⟨nxt, o1.rt, o1.nx, nxt⟩⟩
end

/-! ### comprehensions -/
def compR (chk : Mem → Prop) (g : DTG) (tt : DTT) (te : DTE) (ρ : DEnv) (q : List D → Mem → Prop) : List D → List D → Mem → Prop
  | [], acc, m => chk m ∧ q acc m
  | d :: r, acc, m => chk m ∧ g d ρ m fun ρ2 m2 => tt ρ2 m2 fun b m3 => if b = true then te ρ2 m3 fun y m4 => acc.length < sizeLine ∧ compR chk g tt te ρ q r (acc ++ [y]) m4 else compR chk g tt te ρ q r acc m3
def dComp (wi : DTI) (g : DTG) (tt : DTT) (te : DTE) (vs : List Nat) : DTL := fun ρ m q => wi ρ m fun it m1 => compR it.chk g tt te (wipeD ρ vs) q it.items [] m1
def dYes : DTT := fun _ m q => q true m
section
variable {X : Cx} {B : Bs}
abbrev DTs (B : Bs) (X : Cx) (ifs : List Expr) (t : DTT) : Prop := PTs X ifs (upT X.K B t)
theorem dts_nil : DTs B X [] dYes := ⟨fun pins s σ H Q I ⟨ρ, m, q, p, h, post⟩ => pts_nil.run pins s σ H Q I (post true m H h p.sim (Step.refl _ _))⟩
theorem dts_one {c : Expr} {t : DTT} (h : DT B X c t) : DTs B X [c] t := pts_one h
theorem lc_lift {K : PySem.W.Frag} {wi : DTI} {g : DTG} {tt : DTT} {te : DTE} {vs : List Nat} : ∀ σ H Q, upL K B (dComp wi g tt te vs) σ H Q → tLc (upI K B wi) (upG K B vs g) (upT K B tt) (upE K B te) vs σ H Q :=
  fun σ H Q ⟨ρ, m, q, p, h, post⟩ => ⟨ρ, m, _, p, h, fun it m1 J H1 h1 ok s1 t1 L hL => by
    have mL : m1 L = none := s1.free hL
    refine ⟨fun i n H' => n = it.items.length - i ∧ i ≤ it.items.length ∧ ∃ acc vacc m', H' L = some (.lst vacc) ∧ Reps K H' acc vacc ∧ m' L = none ∧ Sim K H' m' ∧ Step H1 m1 H' m' ∧ compR it.chk g tt te (wipeD ρ vs) q (it.items.drop i) acc m',
      ⟨_, rfl, Nat.zero_le _, [], [], m1, upd_same, .nil, mL, s1.alloc hL, Step.alloc hL, h1⟩, ?_⟩
    rintro i n H' ⟨rfl, hi, acc, vacc, m', eL, ra, mL', sim, st, hr⟩
    by_cases hlt : i < it.items.length
    · obtain ⟨d, hd⟩ : ∃ d, it.items[i]? = some d := ⟨_, List.getElem?_eq_getElem hlt⟩
      have hdr : it.items.drop i = d :: it.items.drop (i + 1) := by
        rw [List.drop_eq_getElem_cons hlt]
        congr 1
        rw [List.getElem?_eq_getElem hlt] at hd
        exact Option.some.inj hd
      rw [hdr] at hr
      obtain ⟨ck, hr⟩ := hr
      obtain ⟨go, yl⟩ := ok.go i d m' H' hd sim st ck
      refine .inr ⟨go, fun H2 => ∃ acc vacc m2, H2 L = some (.lst vacc) ∧ Reps K H2 acc vacc ∧ m2 L = none ∧ Sim K H2 m2 ∧ Step H1 m1 H2 m2 ∧ compR it.chk g tt te (wipeD ρ vs) q (it.items.drop (i + 1)) acc m2,
        fun H2 q2 => ⟨it.items.length - (i + 1), by omega, rfl, hlt, q2⟩, fun x Hx hx => ?_⟩
      obtain ⟨rx, sx, tx⟩ := yl x Hx hx
      have env0 : RepEnv K H1 ρ σ := p.env.mono t1.ext
      have px : Pre K B (wipeD ρ vs) m' (L2.wipe σ vs) Hx := ⟨(env0.mono (st.trans tx).ext).wipe vs, sx, (p.st.trans t1).trans (st.trans tx)⟩
      refine ⟨d, wipeD ρ vs, m', _, rx, px, hr, fun ρ2 m2 σ2 H2 h2 e2 w2 s2 t2 => ⟨?_, ?_⟩⟩
      · rw [w2]
        have gen : ∀ (ws : List Nat) (σ : St), L2.wipe (L2.wipe σ ws) ws = L2.wipe σ ws := fun ws σ => by
          apply List.ext_getElem?
          intro j
          by_cases hj : j ∈ ws
          · have none_at : ∀ (ws : List Nat) (σ : St), j ∈ ws → (L2.wipe σ ws)[j]? = if j < σ.length then some none else none := fun ws => by
              induction ws with
              | nil => intro σ h; cases h
              | cons w ws ih =>
                intro σ h
                unfold L2.wipe
                by_cases hw : w = j
                · subst hw
                  by_cases hl : w < σ.length
                  · rw [List.getElem?_set_self (by rw [wipe_length]; exact hl), if_pos hl]
                  · rw [if_neg hl, List.getElem?_eq_none (by rw [List.length_set, wipe_length]; omega)]
                · rw [List.getElem?_set_ne hw]
                  exact ih σ ((List.mem_cons.mp h).resolve_left fun z => hw z.symm)
            rw [none_at ws _ hj, none_at ws _ hj, wipe_length]
          · rw [wipe_out hj]
        exact gen vs σ
      · have p2 : Pre K B ρ2 m2 σ2 H2 := ⟨e2, s2, px.st.trans t2⟩
        refine ⟨ρ2, m2, _, p2, h2, fun b m3 H3 h3 s3 t3 => ?_⟩
        have tt3 : Step H' m' H3 m3 := (tx.trans t2).trans t3
        have k3 : H3 L = some (.lst vacc) := tt3.keep L _ mL' eL
        have n3 : m3 L = none := tt3.new L _ mL' eL
        cases b with
        | false => exact ⟨acc, vacc, m3, k3, ra.mono tt3.ext, n3, s3, st.trans tt3, h3⟩
        | true =>
          refine ⟨ρ2, m3, _, p2.next s3 t3, h3, fun y m4 vy H4 ⟨hz, h4⟩ r4 s4 t4 => ?_⟩
          have k4 : H4 L = some (.lst vacc) := t4.keep L _ n3 k3
          have n4 : m4 L = none := t4.new L _ n3 k3
          have ra4 : Reps K H4 acc vacc := ra.mono (tt3.trans t4).ext
          have ex : Ext H4 (upd H4 L (.lst (vacc ++ [vy]))) := ⟨fun b xs e => by rw [upd_ne (fun z => by subst z; rw [k4] at e; cases e)]; exact e, fun b ob u e => by rw [upd_ne (fun z => by subst z; rw [k4] at e; cases e)]; exact e, fun b q e => by rw [upd_ne (fun z => by subst z; rw [k4] at e; unfold LamX.CodeO at e; cases e)]; exact e⟩
          refine ⟨vacc, k4, by rw [← ra4.length]; exact hz, acc ++ [y], vacc ++ [vy], m4, upd_same, (ra4.append (.cons r4 .nil)).mono ex, n4, ?_, ?_, h4⟩
          · intro a o ea
            have na : a ≠ L := fun z => by subst z; rw [n4] at ea; cases ea
            exact (s4 a o ea).mono ex fun u hu => by rw [upd_ne na]; exact hu
          · have base : Step H1 m1 H4 m4 := st.trans (tt3.trans t4)
            exact ⟨base.ext.trans ex, fun b hb => base.dom b (by
              by_cases z : b = L
              · subst z; rw [upd_same] at hb; cases hb
              · rw [upd_ne z] at hb; exact hb), fun b ob hn hb => by
                rw [upd_ne (fun z => by subst z; rw [hL] at hb; cases hb)]
                exact base.keep b ob hn hb, base.new⟩
    · have e : i = it.items.length := by omega
      subst e
      rw [List.drop_length] at hr
      exact .inl ⟨ok.stop m' H' sim st hr.1, post acc m' L vacc H' hr.2 eL ra mL' (t1.dom L hL) sim (t1.trans st)⟩⟩
theorem dl_comp {elt tg iter : Expr} {ifs : List Expr} {scope : Scope} {pos : Pos} {wi : DTI} {g : DTG} {tt : DTT} {te : DTE} (own : List (Str × Nat)) (hc : X.calm = true) (hN : X.N.Nodup) (hi : DI B X tg iter wi) (ok : BlkOk X.N X.env.scope scope own)
    (hg : ∀ (s : Shared) (H : Hp) (C : Addr) (cl : List (Str × Addr)) (fp : List Addr), DG B (X.blk s H scope (compEnvC scope cl C X.env) fp) (own.map (·.2)) tg g) (ht : ∀ (s : Shared) (H : Hp) (C : Addr) (cl : List (Str × Addr)) (fp : List Addr), DTs B (X.blk s H scope (compEnvC scope cl C X.env) fp) ifs tt)
    (he : ∀ (s : Shared) (H : Hp) (C : Addr) (cl : List (Str × Addr)) (fp : List Addr), DE B (X.blk s H scope (compEnvC scope cl C X.env) fp) elt te) (hs : ∀ x, foldedSetIterable iter X.env x = pure x := by intro _; rfl) :
    DL B X (.ListComp elt [⟨tg, iter, ifs, 0⟩] scope pos) (dComp wi g tt te (own.map (·.2))) := pe_imp (pe_lc hc hN hi ok hg ht he hs) lc_lift
theorem ds_setLc {i : Nat} {y : Str} {py : Pos} {elt tg iter : Expr} {ifs : List Expr} {scope : Scope} {pos spos : Pos} {wi : DTI} {g : DTG} {tt : DTT} {te : DTE} (own : List (Str × Nat)) (hc : X.calm = true) (hN : X.N.Nodup) (hy : X.N[i]? = some y) (hyl : X.env.scope.names.lookup y = some .local)
    (hsw : swapsWith (.ListComp elt [⟨tg, iter, ifs, 0⟩] scope pos) (some (.Name y py)) spos.line X.env = pure true) (hi : DI B X tg iter wi) (ok : BlkOk X.N X.env.scope scope own)
    (hg : ∀ (s : Shared) (H : Hp) (C : Addr) (cl : List (Str × Addr)) (fp : List Addr), DG B (X.blk s H scope (compEnvC scope cl C X.env) fp) (own.map (·.2)) tg g) (ht : ∀ (s : Shared) (H : Hp) (C : Addr) (cl : List (Str × Addr)) (fp : List Addr), DTs B (X.blk s H scope (compEnvC scope cl C X.env) fp) ifs tt)
    (he : ∀ (s : Shared) (H : Hp) (C : Addr) (cl : List (Str × Addr)) (fp : List Addr), DE B (X.blk s H scope (compEnvC scope cl C X.env) fp) elt te) (hs : ∀ x, foldedSetIterable iter X.env x = pure x := by intro _; rfl) :
    DS B X (.Assign [.Name y py] (.ListComp elt [⟨tg, iter, ifs, 0⟩] scope pos) spos) (dAsg (fun ρ m q => dComp wi g tt te (own.map (·.2)) ρ m fun ds m' => ∀ a, m' a = none → q (.ref a) (m'.set a (.lst ds))) (gNm i)) :=
  ps_imp (ps_setLc hc hN hy hyl hsw hi ok hg ht he hs) fun F σ H ⟨ρ, m, E, p, h, o⟩ => lc_lift σ H _ ⟨ρ, m, _, p, h, fun ds m' a vs H' hq ha hr hn h0 hs st => by
    have sim' : Sim X.K H' (m'.set a (.lst ds)) := fun b ob e => by
      by_cases z : b = a
      · subst z; rw [Mem.set_same] at e; cases e; exact ⟨vs, ha, hr⟩
      · rw [Mem.set_ne z] at e; exact hs b ob e
    have st' : Step H m H' (m'.set a (.lst ds)) := ⟨st.ext, st.dom, st.keep, fun b ob n e => by rw [Mem.set_ne (fun z => by rw [z, h0] at e; cases e)]; exact st.new b ob n e⟩
    exact o.nx _ _ _ H' (hq a hn) ((p.env.mono st.ext).set (.ref a) i) sim' st'⟩
end
end L2.Lh

namespace L2.Lh
open PySem PySem.Spec PyProof.Rows

/-! ### calls of built-ins -/
section
variable {X : Cx} {B : Bs} {e : Expr} {es : List Expr} {te : DTE} {t : DTA} {tl : DTL} {pos p : Pos} {x : Str} {id T : String} {r : DRC}
theorem cb_lift {K : PySem.W.Frag} : ∀ σ H Q, upE K B (dCB r t) σ H Q → tCB (upC K r) (upA K B t) σ H Q :=
  fun σ H Q ⟨ρ, m, q, p, h, post⟩ => ⟨ρ, m, _, p, h, fun ds m1 vs H1 h1 r1 s1 t1 => ⟨ds, m1, q, r1, s1, h1, fun d2 m2 v2 H2 h2 r2 s2 t2 => post d2 m2 v2 H2 h2 r2 s2 (t1.trans t2)⟩⟩
theorem de_callB (hc : CallD X (.builtin id) r) (hg : Gl X x) (hm : X.mg x = none) (hv : bootBuiltins x = some (.builtin id)) (ha : DA B X (e :: es) t) (hn : x ≠ "__name__" := by decide) (hdb : (x == ("__debug__" : Str)) = false := by decide)
    (he : starEach (e :: es) X.env = (false, eval e X.env) :: starEach es X.env := by rfl) (hpl : (backTo pos (starEach es X.env)).any (·.1) = false := by rfl) : DE B X (.Call (.Name x p) (e :: es) [] pos) (dCB r t) :=
  pe_imp (pe_callB hc hg hm hv ha hn hdb he hpl) cb_lift
theorem de_callTy (hc : CallD X (.type T) r) (hg : Gl X x) (hm : X.mg x = none) (hv : bootBuiltins x = some (.type T)) (ha : DA B X (e :: es) t) (hn : x ≠ "__name__" := by decide) (hdb : (x == ("__debug__" : Str)) = false := by decide)
    (he : starEach (e :: es) X.env = (false, eval e X.env) :: starEach es X.env := by rfl) (hpl : (backTo pos (starEach es X.env)).any (·.1) = false := by rfl) : DE B X (.Call (.Name x p) (e :: es) [] pos) (dCB r t) :=
  pe_imp (pe_callTy hc hg hm hv ha hn hdb he hpl) cb_lift
/-- .. of a list just made -/
def upN (K : PySem.W.Frag) (r : DRC) : List V → Hp → VK → Prop := fun xs H Q => ∃ a ds vs m q, xs = [.ref a] ∧ H a = some (.lst vs) ∧ Reps K H ds vs ∧ m a = none ∧ Sim K H m ∧ r ds m q ∧ PostE K H m q Q
abbrev CallN (X : Cx) (f : Value) (r : DRC) : Prop := CallR X f (upN X.K r)
def dCN (r : DRC) (t : DTL) : DTE := fun ρ m q => t ρ m fun ds m1 => r ds m1 q
theorem cn_lift {K : PySem.W.Frag} : ∀ σ H Q, upE K B (dCN r tl) σ H Q → tCB (upN K r) (tCons (upL K B tl) tNil) σ H Q :=
  fun σ H Q ⟨ρ, m, q, p, h, post⟩ => ⟨ρ, m, _, p, h, fun ds m1 a vs H1 h1 ha r1 hn _ s1 t1 => ⟨a, ds, vs, m1, q, rfl, ha, r1, hn, s1, h1, fun d2 m2 v2 H2 h2 r2 s2 t2 => post d2 m2 v2 H2 h2 r2 s2 (t1.trans t2)⟩⟩
theorem de_newB (hc : CallN X (.builtin id) r) (hg : Gl X x) (hm : X.mg x = none) (hv : bootBuiltins x = some (.builtin id)) (ha : DL B X e tl) (hn : x ≠ "__name__" := by decide) (hdb : (x == ("__debug__" : Str)) = false := by decide)
    (he : starEach [e] X.env = (false, eval e X.env) :: starEach [] X.env := by rfl) (hpl : (backTo pos (starEach [] X.env)).any (·.1) = false := by rfl) : DE B X (.Call (.Name x p) [e] [] pos) (dCN r tl) :=
  pe_imp (pe_callB hc hg hm hv (pa_cons ha pa_nil he) hn hdb he hpl) cn_lift
theorem de_newTy (hc : CallN X (.type T) r) (hg : Gl X x) (hm : X.mg x = none) (hv : bootBuiltins x = some (.type T)) (ha : DL B X e tl) (hn : x ≠ "__name__" := by decide) (hdb : (x == ("__debug__" : Str)) = false := by decide)
    (he : starEach [e] X.env = (false, eval e X.env) :: starEach [] X.env := by rfl) (hpl : (backTo pos (starEach [] X.env)).any (·.1) = false := by rfl) : DE B X (.Call (.Name x p) [e] [] pos) (dCN r tl) :=
  pe_imp (pe_callTy hc hg hm hv (pa_cons ha pa_nil he) hn hdb he hpl) cn_lift
/-- what gives a new list -/
def PostL (K : PySem.W.Frag) (H : Hp) (m : Mem) (q : List D → Mem → Prop) (Q : VK) : Prop := ∀ ds m' a vs H', q ds m' → H' a = some (.lst vs) → Reps K H' ds vs → m' a = none → H a = none → Sim K H' m' → Step H m H' m' → Q (.ref a) H'
abbrev DRL := D → Mem → (List D → Mem → Prop) → Prop
abbrev DRLN := List D → Mem → (List D → Mem → Prop) → Prop
def upCL (K : PySem.W.Frag) (r : DRL) : List V → Hp → VK → Prop := fun xs H Q => ∃ d v m q, xs = [v] ∧ Rep K H d v ∧ Sim K H m ∧ r d m q ∧ PostL K H m q Q
def upNL (K : PySem.W.Frag) (r : DRLN) : List V → Hp → VK → Prop := fun xs H Q => ∃ a ds vs m q, xs = [.ref a] ∧ H a = some (.lst vs) ∧ Reps K H ds vs ∧ m a = none ∧ Sim K H m ∧ r ds m q ∧ PostL K H m q Q
def dCL (r : DRL) (t : DTE) : DTL := fun ρ m q => t ρ m fun d m1 => r d m1 q
def dCNL (r : DRLN) (t : DTL) : DTL := fun ρ m q => t ρ m fun ds m1 => r ds m1 q
theorem PostL.next {K : PySem.W.Frag} {H H1 : Hp} {m m1 : Mem} {q : List D → Mem → Prop} {Q : VK} (post : ∀ ds m' a vs H', q ds m' → H' a = some (.lst vs) → Reps K H' ds vs → m' a = none → H a = none → Sim K H' m' → Step H m H' m' → Q (.ref a) H') (t1 : Step H m H1 m1) : PostL K H1 m1 q Q :=
  fun ds m' a vs H' hq ha hr hn h0 hs st => post ds m' a vs H' hq ha hr hn (t1.dom a h0) hs (t1.trans st)
theorem PostL.lst {K : PySem.W.Frag} {H : Hp} {m : Mem} {q : List D → Mem → Prop} {Q : VK} {ds : List D} {vs : List V} {a : Addr} (p : PostL K H m q Q) (h : q ds m) (n : H a = none) (r : Reps K H ds vs) (s : Sim K H m) : Q (.ref a) (upd H a (.lst vs)) :=
  p ds m a vs _ h upd_same (r.mono (upd_new n)) (s.free n) n (s.alloc n) (Step.alloc n)
variable {rl : DRL} {rn : DRLN}
theorem dl_callB (hc : CallR X (.builtin id) (upCL X.K rl)) (hg : Gl X x) (hm : X.mg x = none) (hv : bootBuiltins x = some (.builtin id)) (ha : DE B X e te) (hn : x ≠ "__name__" := by decide) (hdb : (x == ("__debug__" : Str)) = false := by decide)
    (he : starEach [e] X.env = (false, eval e X.env) :: starEach [] X.env := by rfl) (hpl : (backTo pos (starEach [] X.env)).any (·.1) = false := by rfl) : DL B X (.Call (.Name x p) [e] [] pos) (dCL rl te) :=
  pe_imp (pe_callB hc hg hm hv (pa_cons ha pa_nil he) hn hdb he hpl) fun σ H Q ⟨ρ, m, q, p, h, post⟩ => ⟨ρ, m, _, p, h, fun d m1 v H1 h1 r1 s1 t1 => ⟨d, v, m1, q, rfl, r1, s1, h1, PostL.next post t1⟩⟩
theorem dl_callTy (hc : CallR X (.type T) (upCL X.K rl)) (hg : Gl X x) (hm : X.mg x = none) (hv : bootBuiltins x = some (.type T)) (ha : DE B X e te) (hn : x ≠ "__name__" := by decide) (hdb : (x == ("__debug__" : Str)) = false := by decide)
    (he : starEach [e] X.env = (false, eval e X.env) :: starEach [] X.env := by rfl) (hpl : (backTo pos (starEach [] X.env)).any (·.1) = false := by rfl) : DL B X (.Call (.Name x p) [e] [] pos) (dCL rl te) :=
  pe_imp (pe_callTy hc hg hm hv (pa_cons ha pa_nil he) hn hdb he hpl) fun σ H Q ⟨ρ, m, q, p, h, post⟩ => ⟨ρ, m, _, p, h, fun d m1 v H1 h1 r1 s1 t1 => ⟨d, v, m1, q, rfl, r1, s1, h1, PostL.next post t1⟩⟩
theorem dl_newB (hc : CallR X (.builtin id) (upNL X.K rn)) (hg : Gl X x) (hm : X.mg x = none) (hv : bootBuiltins x = some (.builtin id)) (ha : DL B X e tl) (hn : x ≠ "__name__" := by decide) (hdb : (x == ("__debug__" : Str)) = false := by decide)
    (he : starEach [e] X.env = (false, eval e X.env) :: starEach [] X.env := by rfl) (hpl : (backTo pos (starEach [] X.env)).any (·.1) = false := by rfl) : DL B X (.Call (.Name x p) [e] [] pos) (dCNL rn tl) :=
  pe_imp (pe_callB hc hg hm hv (pa_cons ha pa_nil he) hn hdb he hpl) fun σ H Q ⟨ρ, m, q, p, h, post⟩ => ⟨ρ, m, _, p, h, fun ds m1 a vs H1 h1 ha r1 hn _ s1 t1 => ⟨a, ds, vs, m1, q, rfl, ha, r1, hn, s1, h1, PostL.next post t1⟩⟩
/-! the calls -/
theorem reps1 {K : PySem.W.Frag} {H : Hp} {d : D} {vs : List V} (r : Reps K H [d] vs) : ∃ v, vs = [v] ∧ Rep K H d v := by
  cases r with
  | cons a b => cases b; exact ⟨_, rfl, a⟩
theorem reps2 {K : PySem.W.Frag} {H : Hp} {d e : D} {vs : List V} (r : Reps K H [d, e] vs) : ∃ v u, vs = [v, u] ∧ Rep K H d v ∧ Rep K H e u := by
  cases r with
  | cons a b => cases b with
    | cons c d => cases d; exact ⟨_, _, rfl, a, c⟩
def lenD : DRC
  | [.str x], m, q => x.length ≤ sizeLine ∧ q (.int x.length) m
  | [d], m, q => match itemsOf m d with
    | some xs => q (.int xs.length) m
    | none => False
  | _, _, _ => False
theorem c_len : CallD X (.builtin "len") lenD := by
  intro pins s σ H xs us Q I r ⟨ds, m, q, rs, sim, h, post⟩
  unfold lenD at h
  split at h
  · obtain ⟨v, rfl, rv⟩ := reps1 rs
    cases rv
    exact call_len_str pins s σ H _ us Q I r ⟨_, rfl, h.1, post.here h.2 (.int _) sim⟩
  · split at h
    · rename_i xs e
      obtain ⟨v, rfl, rv⟩ := reps1 rs
      obtain ⟨a, vs, rfl, hq, rr⟩ := sim.seq rv e
      refine call_len_seq pins s σ H _ us Q I r ⟨a, vs, rfl, hq, ?_⟩
      rw [← rr.length]
      exact post.here h (.int _) sim
    · exact h.elim
  · exact h.elim
def absD : DRC
  | [.int i], m, q => q (.int (if i < 0 then -i else i)) m
  | _, _, _ => False
theorem c_abs : CallD X (.builtin "abs") absD := by
  intro pins s σ H xs us Q I r ⟨ds, m, q, rs, sim, h, post⟩
  unfold absD at h
  split at h
  · obtain ⟨v, rfl, rv⟩ := reps1 rs
    cases rv
    exact call_abs pins s σ H _ us Q I r ⟨_, rfl, post.here h (.int _) sim⟩
  · exact h.elim
def max2D : DRC
  | [.int i, .int j], m, q => q (.int (if j > i then j else i)) m
  | _, _, _ => False
def min2D : DRC
  | [.int i, .int j], m, q => q (.int (if j < i then j else i)) m
  | _, _, _ => False
theorem c_max2 (hc : X.calm = true) : CallD X (.builtin "max") max2D := by
  intro pins s σ H xs us Q I r ⟨ds, m, q, rs, sim, h, post⟩
  unfold max2D at h
  split at h
  · obtain ⟨v, u, rfl, rv, ru⟩ := reps2 rs
    cases rv; cases ru
    exact call_max2 hc pins s σ H _ us Q I r ⟨_, _, rfl, post.here h (.int _) sim⟩
  · exact h.elim
/-- the built-in type of a thing -/
def tyS (m : Mem) : D → Option String
  | .non => some "NoneType"
  | .bl _ => some "bool"
  | .int _ => some "int"
  | .str _ => some "str"
  | .tup _ => some "tuple"
  | .ftup _ => some "tuple"
  | .rol _ => some "list"
  | .ref a => match m a with
    | some (.lst _) => some "list"
    | some (.dK _) => some "dict"
    | some (.dF _) => some "dict"
    | _ => none
  | .ty _ => none
theorem tyS_ok {K : PySem.W.Frag} {H : Hp} {m : Mem} {d : D} {v : V} {n : String} (s : Sim K H m) (r : Rep K H d v) (e : tyS m d = some n) : TyX K H v (.type n) := by
  cases r with
  | non => cases e; exact .base .non
  | bl b => cases e; exact .base (.bl b)
  | int b => cases e; exact .base (.int b)
  | str b => cases e; exact .base (.str b)
  | ty n => cases e
  | tup h _ => cases e; exact .base (.tup h)
  | ftup h _ _ => cases e; exact .fTuple h
  | rol h _ =>
    cases e
    rcases h with ⟨o, h⟩ | ⟨o, its, n, hk, hc, _⟩
    · exact .base (.frz h)
    · exact .kList hk hc
  | ref a =>
    unfold tyS at e
    dsimp only at e
    split at e
    · rename_i xs q
      cases e
      obtain ⟨vs, h, _⟩ := s a _ q
      exact .base (.lst h)
    · rename_i xs q
      cases e
      obtain ⟨vs, h, _⟩ := s a _ q
      exact .base (.dK h)
    · rename_i xs q
      cases e
      obtain ⟨od, vs, h, _⟩ := s a _ q
      exact .fDict h
    · cases e
/-- what isinstance says of built-in types -/
def isaB : String → String → Option Bool
  | "dict", "int" => some false | "dict", "bool" => some false | "dict", "tuple" => some false | "dict", "list" => some false | "dict", "str" => some false | "dict", "dict" => some true
  | "int", "int" => some true | "bool", "int" => some true | "str", "int" => some false | "tuple", "int" => some false | "list", "int" => some false | "NoneType", "int" => some false
  | "int", "bool" => some false | "bool", "bool" => some true | "str", "bool" => some false | "tuple", "bool" => some false | "list", "bool" => some false | "NoneType", "bool" => some false
  | "int", "tuple" => some false | "bool", "tuple" => some false | "str", "tuple" => some false | "tuple", "tuple" => some true | "list", "tuple" => some false | "NoneType", "tuple" => some false
  | "int", "list" => some false | "bool", "list" => some false | "str", "list" => some false | "tuple", "list" => some false | "list", "list" => some true | "NoneType", "list" => some false
  | "int", "str" => some false | "bool", "str" => some false | "str", "str" => some true | "tuple", "str" => some false | "list", "str" => some false | "NoneType", "str" => some false
  | _, _ => none
theorem isaB_ok {a n : String} {b : Bool} (h : isaB a n = some b) : kitB a n = some b := by
  unfold isaB at h
  split at h <;> first | (cases h; decide +kernel) | cases h
def isAnyB (a : String) : List D → Option Bool
  | [] => some false
  | .ty n :: r => match isaB a n, isAnyB a r with
    | some b, some c => some (b || c)
    | _, _ => none
  | _ => none
def isiD : DRC
  | [d, .ty n], m, q => match tyS m d with
    | some a => match isaB a n with
      | some b => q (.bl b) m
      | none => False
    | none => False
  | [d, .tup ts], m, q => match tyS m d with
    | some a => match isAnyB a ts with
      | some b => q (.bl b) m
      | none => False
    | none => False
  | _, _, _ => False
theorem isAnyB_ok {K : PySem.W.Frag} {H : Hp} {a : String} : ∀ {ts : List D} {vs : List V} {b : Bool}, Reps K H ts vs → isAnyB a ts = some b → ∃ us, Paired ClsV vs us ∧ PySem.W.kitAny K (.type a) us = some b
  | [], _, b, r, e => by cases r; exact ⟨[], .nil, e⟩
  | .ty n :: ts, _, b, r, e => by
    cases r with
    | cons r1 r2 =>
      cases r1
      unfold isAnyB at e
      split at e
      · rename_i b1 c1 q1 q2
        cases e
        obtain ⟨us, h1, h2⟩ := isAnyB_ok r2 q2
        refine ⟨.type n :: us, .cons (.ty n) h1, kitAny_cons (kit_ty (isaB_ok q1)) (fun z => ?_) (fun z => by rw [z]; rfl)⟩
        rw [h2, z]
        rfl
      · cases e
  | .non :: _, _, _, _, e => by cases e
  | .bl _ :: _, _, _, _, e => by cases e
  | .int _ :: _, _, _, _, e => by cases e
  | .str _ :: _, _, _, _, e => by cases e
  | .ref _ :: _, _, _, _, e => by cases e
  | .tup _ :: _, _, _, _, e => by cases e
  | .ftup _ :: _, _, _, _, e => by cases e
  | .rol _ :: _, _, _, _, e => by cases e
theorem c_isi : CallD X (.builtin "isinstance") isiD := by
  intro pins s σ H xs us Q I r ⟨ds, m, q, rs, sim, h, post⟩
  unfold isiD at h
  split at h
  · rename_i d n
    split at h
    · rename_i a ea
      split at h
      · rename_i b eb
        obtain ⟨v, u, rfl, rv, ru⟩ := reps2 rs
        cases ru
        exact call_isi pins s σ H _ us Q I r ⟨v, _, _, _, b, rfl, .ty n, tyS_ok sim rv ea, kit_ty (isaB_ok eb), post.here h (.bl _) sim⟩
      · exact h.elim
    · exact h.elim
  · rename_i d ts
    split at h
    · rename_i a ea
      split at h
      · rename_i b eb
        obtain ⟨v, u, rfl, rv, ru⟩ := reps2 rs
        cases ru with
        | tup h1 q1 =>
          obtain ⟨ws, k1, k2⟩ := isAnyB_ok q1 eb
          exact call_isiT pins s σ H _ us Q I r ⟨v, _, _, _, ws, b, rfl, h1, k1, tyS_ok sim rv ea, k2, post.here h (.bl _) sim⟩
      · exact h.elim
    · exact h.elim
  · exact h.elim
def tupleD : DRC
  | [.ftup xs], m, q => q (.ftup xs) m
  | [d], m, q => match itemsOf m d with
    | some xs => q (.tup xs) m
    | none => False
  | _, _, _ => False
theorem c_tuple : CallD X (.type "tuple") tupleD := by
  intro pins s σ H xs us Q I r ⟨ds, m, q, rs, sim, h, post⟩
  unfold tupleD at h
  split at h
  · obtain ⟨v, rfl, rv⟩ := reps1 rs
    cases rv with
    | ftup h1 n1 q1 => exact call_tuple_of pins s σ H _ us Q I r ⟨_, _, rfl, .inr ⟨.inl (.inr ⟨_, h1⟩), post.here h (.ftup h1 n1 q1) sim⟩⟩
  · rename_i nf
    split at h
    · rename_i xs e
      obtain ⟨v, rfl, rv⟩ := reps1 rs
      cases rv with
      | tup h1 q1 => cases e; exact call_tuple_of pins s σ H _ us Q I r ⟨_, _, rfl, .inr ⟨SqT.of h1, post.here h (.tup h1 q1) sim⟩⟩
      | rol h1 q1 => cases e; exact call_tuple_of pins s σ H _ us Q I r ⟨_, _, rfl, .inl ⟨rol_sq h1, fun l hl => post.tup h hl q1 sim⟩⟩
      | ref a =>
        unfold itemsOf at e
        dsimp only at e
        split at e
        · rename_i ys q2
          cases e
          obtain ⟨vs, hv, rr⟩ := sim a _ q2
          exact call_tuple_of pins s σ H _ us Q I r ⟨_, _, rfl, .inl ⟨SqL.of hv, fun l hl => post.tup h hl rr sim⟩⟩
        · cases e
      | ftup h1 _ q1 => exact absurd rfl (nf _)
      | _ => cases e
    · exact h.elim
  · exact h.elim
theorem n_tuple : CallN X (.type "tuple") (fun ds m q => q (.tup ds) m) := by
  intro pins s σ H xs us Q I r ⟨a, ds, vs, m, q, e, ha, rs, hn, sim, h, post⟩
  subst e
  exact call_tuple_of pins s σ H _ us Q I r ⟨a, vs, rfl, .inl ⟨SqL.of ha, fun l hl => post.tup h hl rs sim⟩⟩
/-- list(x) -/
def listD : DRL := fun d m q => match itemsOf m d with
  | some xs => q xs m
  | none => False
theorem l_list : CallR X (.type "list") (upCL X.K listD) := by
  intro pins s σ H xs us Q I r ⟨d, v, m, q, e, rd, sim, h, post⟩
  subst e
  unfold listD at h
  split at h
  · rename_i ys ey
    obtain ⟨a, vs, rfl, hq, rr⟩ := sim.seq rd ey
    exact call_list_of pins s σ H _ us Q I r ⟨a, vs, rfl, hq, fun l hl => post.lst h hl rr sim⟩
  · exact h.elim
/-- all, any -/
def boolsOf : List D → Option (List Bool)
  | [] => some []
  | .bl b :: r => match boolsOf r with
    | some bs => some (b :: bs)
    | none => none
  | _ => none
theorem boolsOf_ok : ∀ {ds : List D} {bs : List Bool}, boolsOf ds = some bs → ds = bs.map D.bl
  | [], _, e => by cases e; rfl
  | .bl b :: r, _, e => by
    unfold boolsOf at e
    split at e
    · rename_i bs q; cases e; rw [List.map_cons, boolsOf_ok q]
    · cases e
  | .non :: _, _, e => by cases e
  | .int _ :: _, _, e => by cases e
  | .str _ :: _, _, e => by cases e
  | .ty _ :: _, _, e => by cases e
  | .ref _ :: _, _, e => by cases e
  | .tup _ :: _, _, e => by cases e
  | .ftup _ :: _, _, e => by cases e
  | .rol _ :: _, _, e => by cases e
theorem boolsOf_map : ∀ (bs : List Bool), boolsOf (bs.map D.bl) = some bs
  | [] => rfl
  | b :: bs => by rw [List.map_cons, boolsOf, boolsOf_map bs]
def allN : DRC := fun ds m q => match boolsOf ds with
  | some bs => q (.bl (bs.all _root_.id)) m
  | none => False
def anyN : DRC := fun ds m q => match boolsOf ds with
  | some bs => q (.bl (bs.any _root_.id)) m
  | none => False
theorem n_all (hc : X.calm = true) : CallN X (.builtin "all") allN := by
  intro pins s σ H xs us Q I r ⟨a, ds, vs, m, q, e, ha, rs, hn, sim, h, post⟩
  subst e
  unfold allN at h
  split at h
  · rename_i bs eb
    rw [boolsOf_ok eb] at rs
    have ev := rs.ofBls
    subst ev
    exact cr_all hc pins s σ H _ us Q I r ⟨a, bs, rfl, SqL.of ha, post.here h (.bl _) sim⟩
  · exact h.elim
/-- sorted of ints -/
def intsOf : List D → Option (List Int)
  | [] => some []
  | .int b :: r => match intsOf r with
    | some bs => some (b :: bs)
    | none => none
  | _ => none
theorem intsOf_ok : ∀ {ds : List D} {bs : List Int}, intsOf ds = some bs → ds = bs.map D.int
  | [], _, e => by cases e; rfl
  | .int b :: r, _, e => by
    unfold intsOf at e
    split at e
    · rename_i bs q; cases e; rw [List.map_cons, intsOf_ok q]
    · cases e
  | .non :: _, _, e => by cases e
  | .bl _ :: _, _, e => by cases e
  | .str _ :: _, _, e => by cases e
  | .ty _ :: _, _, e => by cases e
  | .ref _ :: _, _, e => by cases e
  | .tup _ :: _, _, e => by cases e
  | .ftup _ :: _, _, e => by cases e
  | .rol _ :: _, _, e => by cases e
theorem intsOf_map : ∀ (bs : List Int), intsOf (bs.map D.int) = some bs
  | [] => rfl
  | b :: bs => by rw [List.map_cons, intsOf, intsOf_map bs]
def sortD : DRL := fun d m q => match itemsOf m d with
  | some xs => match intsOf xs with
    | some ns => ns.length < 64 ∧ ∀ ns' : List Int, ns'.Perm ns → ns'.Pairwise (· ≤ ·) → q (ns'.map D.int) m
    | none => False
  | none => False
theorem collect_tup {prog : Program} {w : World} {A : Around} {E : Value → Shared → Prop} {s : Shared} {l : Addr} {vs : List Value} {Q : List Value → Shared → Prop} (hl : IsTup s.heap l vs.toArray)
    (h : Q vs { s with heap := (s.heap.push (seqObj "list" #[] 0)).update s.heap.objs.size (Obj.mapSeq (· ++ vs.toArray)) }) (hsz : vs.length ≤ sizeLine) :
    wpAny (model prog w) A (collect (.ref l)) Q E s := by
  obtain ⟨o, ho, hc, n, hd⟩ := id hl
  unfold collect
  refine wpAny_bind (wpAny_runValue (codeAny_builtin entry_proto_collect' ?_))
  show wpAny _ _ (do again (.builtin "list.__iadd__" ⟨[← newList [], .ref l], []⟩)) _ _ s
  refine wpAny_bind (wpAny_newList (wpAny_pure ⟨Code.quiet_builtin _ (by decide +kernel), codeAny_builtin entry_list_iadd' ?_⟩))
  show wpAny _ _ (Builtin.List.listExtendWith (.ref s.heap.objs.size) (.ref l) (.ref s.heap.objs.size)) _ _ { s with heap := s.heap.push (seqObj "list" #[] 0) }
  unfold Builtin.List.listExtendWith
  have ho' : (s.heap.push (seqObj "list" #[] 0)).get? l = some o := Heap.get?_push_of_some _ ho
  refine wpAny_bind (wpAny_typeOf (T := "tuple") ⟨o, ho', hc⟩ ?_)
  have ht : (Value.type "tuple" == Value.type "tuple") = true := by rfl
  rw [if_pos (by rw [ht]; simp)]
  refine wpAny_bind (listItems_at ho' hd ?_)
  refine wpAny_bind (listItems_at (xs := #[]) (n := 0) (Heap.get?_push_size _ rfl) rfl ?_)
  rw [if_neg (by simp)]
  refine wpAny_bind (listUpdate_at (xs := #[]) (n := 0) (Heap.get?_push_size _ rfl) rfl ?_ (Nat.zero_le _) (by show (#[] ++ vs.toArray).size ≤ sizeLine + 1; simp only [Array.size_append, List.size_toArray, List.length_nil]; omega))
  refine wpAny_pure ?_
  show wpAny (model prog w) A (do
      let o ← load s.heap.objs.size
      match o.data with
      | .seq xs _ => pure xs.toList
      | _ => unsupported "internal:collect") Q E { s with heap := (s.heap.push (seqObj "list" #[] 0)).update s.heap.objs.size (Obj.mapSeq (· ++ vs.toArray)) }
  refine wpAny_bind (wpAny_load (get?_update_seq (Heap.get?_push_size _ rfl) _) ?_)
  show wpAny _ _ (pure ((#[] : Array Value) ++ vs.toArray).toList) Q E _
  rw [show ((#[] : Array Value) ++ vs.toArray).toList = vs by simp]
  exact wpAny_pure h
theorem sorted_tup {prog : Program} {w : World} {A : Around} {E : Value → Shared → Prop} {s : Shared} {l : Addr} {vs : List Value} {ns : List Int} {Q : Value → Shared → Prop} (hl : IsTup s.heap l vs.toArray) (hI : IntsAre vs ns) (h64 : vs.length < 64)
    (h : ∀ (out : Array Value) (ns' : List Int), IntsAre out.toList ns' → ns'.Perm ns → ns'.Pairwise (· ≤ ·) → Q (.ref (s.heap.objs.size + 1)) { s with heap := sortedAll s.heap vs out }) :
    wpAny (model prog w) A (call (.builtin "sorted") [.ref l]) Q E s := by
  refine Calls.call_function_entry kind_sorted plain_sorted entry_sorted (args_sorted1 _) ?_
  unfold Builtin.«sorted»
  refine wpAny_bind (m := checkCount "sorted" 1 1 _) (wpAny_pure ?_)
  refine wpAny_bind (collect_tup hl ?_ (by rw [sizeLine_eq]; omega))
  refine wpAny_bind (wpAny_newList ?_ (by rw [sizeLine_eq]; omega))
  have hsz : ((s.heap.push (seqObj "list" #[] 0)).update s.heap.objs.size (Obj.mapSeq (· ++ vs.toArray))).objs.size = s.heap.objs.size + 1 := by
    rw [Heap.size_update, size_push']
  have hoL : (((s.heap.push (seqObj "list" #[] 0)).update s.heap.objs.size (Obj.mapSeq (· ++ vs.toArray))).push (seqObj "list" vs.toArray 0)).get? (s.heap.objs.size + 1) = some (seqObj "list" vs.toArray 0) := by
    rw [← hsz]; exact Heap.get?_push_size _ rfl
  show wpAny _ _ _ _ _ { s with heap := ((s.heap.push (seqObj "list" #[] 0)).update s.heap.objs.size (Obj.mapSeq (· ++ vs.toArray))).push (seqObj "list" vs.toArray 0) }
  rw [hsz]
  refine wpAny_bind (wpAny_holding (wpAny_call_entry slot_list_sort ⟨_, hoL, rfl⟩ entry_list_sort (list_sort_tree hoL hI h64 fun out ns' a1 a2 a3 => ⟨_, rfl, ?_⟩) (args_list_sort _)))
  exact wpAny_pure ⟨_, rfl, h out ns' a1 a2 a3⟩
theorem l_sorted : CallR X (.builtin "sorted") (upCL X.K sortD) := by
  intro pins s σ H xs us Q I r ⟨d, v, m, q, e, rd, sim, h, post⟩
  subst e
  unfold sortD at h
  split at h
  · rename_i ys ey
    split at h
    · rename_i ns en
      obtain ⟨h64, hq⟩ := h
      obtain ⟨a, vs, rfl, hs, rr⟩ := sim.seq rd ey
      rw [intsOf_ok en] at rr
      have ev := rr.ofInts
      subst ev
      rcases hs with hs | hs
      · exact cr_sorted pins s σ H _ us Q I r ⟨a, ns, rfl, hs, h64, fun ns' p hp ho hn => post.lst (hq ns' hp ho) hn (Reps.ints ns') sim⟩
      · obtain ⟨its, rv, hl, _⟩ := I.tuple hs
        rw [Vals.ref1 r]
        have hi := rv.ints
        refine sorted_tup hl hi (by rw [hi.length]; exact h64) fun out ns' h1 h2 h3 => ?_
        obtain ⟨ep, he'⟩ := PyProof.Rows.sortedAll_at s.heap its out
        have hlen : (ns'.map V.int).length ≤ sizeLine := by rw [List.length_map, h2.length_eq]; exact small64 h64
        exact ⟨.ref _, upd H (s.heap.objs.size + 1) (.lst (ns'.map V.int)), I.laid (t' := s.toks) (fun _ _ => PyProof.Rows.sortedAll_old) (Nat.le_succ _) ⟨hlen, out.toList, ep, vals_of_ints h1, he'⟩, rfl, post.lst (hq ns' h2 h3) (I.hok.fresh (Nat.le_succ _)) (Reps.ints ns') sim⟩
    · exact h.elim
  · exact h.elim
/-- list(range(n)), tuple(range(n)) -/
def dRg1 (ta : DTE) (k : List D → Mem → Prop) : DEnv → Mem → Prop := fun ρ m => ta ρ m fun d m1 => match d with
  | .int n => RgOk 0 n ∧ k (rngD 0 n.toNat) m1
  | _ => False
theorem rgV_eq (a b : Int) : rgV a b = (List.range (b - a).toNat).map fun i => V.int (a + (i : Nat)) := rfl
theorem reps_rng {K : PySem.W.Frag} {H : Hp} (a : Int) : ∀ l : List Nat, Reps K H (l.map fun k => D.int (a + (k : Nat))) (l.map fun k => V.int (a + (k : Nat)))
  | [] => .nil
  | n :: l => .cons (.int _) (reps_rng a l)
theorem dl_listRg1 {a : Expr} {ta : DTE} {p p2 pos pos2 : Pos} (hc : X.calm = true) (hg : Gl X "list") (hm : X.mg "list" = none) (hg2 : Gl X "range") (hm2 : X.mg "range" = none) (ha : DE B X a ta)
    (na : starEach [a] X.env = (false, eval a X.env) :: starEach [] X.env := by rfl) (ne : starEach [Expr.Call (.Name "range" p2) [a] [] pos2] X.env = (false, eval (.Call (.Name "range" p2) [a] [] pos2) X.env) :: starEach [] X.env := by rfl) :
    DL B X (.Call (.Name "list" p) [.Call (.Name "range" p2) [a] [] pos2] [] pos) (fun ρ m q => dRg1 ta q ρ m) :=
  pe_imp (pe_listRg hc hg hm (prg_1 hg2 hm2 ha na) ne) fun σ H Q ⟨ρ, m, q, p, h, post⟩ => ⟨ρ, m, _, p, h, fun d m1 v H1 h1 r1 s1 t1 => by
    cases d with
    | int n =>
      cases r1
      obtain ⟨ok, h1⟩ := h1
      refine ⟨n, rfl, ok, fun l hl => PostL.lst (PostL.next post t1) h1 hl ?_ s1⟩
      rw [rgV_eq, Int.sub_zero]
      exact reps_rng 0 _
    | _ => exact (show False from h1).elim⟩
/-- == of two lists just made -/
def eqLs (xs ys : List D) (m : Mem) (q : Bool → Prop) : Prop := match pyDs m xs, pyDs m ys with
  | some a, some b => SeqAt.shaped (.list a) = true ∧ SeqAt.shaped (.list b) = true ∧ q (PyData.eqvAll a b)
  | _, _ => False
def dEqNN (neg : Bool) (ta tb : DTL) : DTE := fun ρ m q => ta ρ m fun xs m1 => tb ρ m1 fun ys m2 => eqLs xs ys m2 fun b => q (.bl (if neg then !b else b)) m2
theorem eqNN_lift {K : PySem.W.Frag} {ta tb : DTL} : ∀ σ H Q, upE K B (dEqNN false ta tb) σ H Q → tOp (rEqD K) (upL K B ta) (upL K B tb) σ H Q :=
  fun σ H Q ⟨ρ, m, q, p, h, post⟩ => ⟨ρ, m, _, p, h, fun xs m1 a va H1 h1 ha ra na h0a s1 t1 => ⟨ρ, m1, _, p.next s1 t1, h1, fun ys m2 b vb H2 h2 hb rb nb h0b s2 t2 => by
    unfold eqLs at h2
    split at h2
    · rename_i pa pb e1 e2
      obtain ⟨z1, z2, h2⟩ := h2
      exact ⟨.list pa, .list pb, .lst (SqL.of (t2.keep a _ na ha)) (pyWs_ok (pyA_ok s2 3) (ra.mono t2.ext) e1), .lst (SqL.of hb) (pyWs_ok (pyA_ok s2 3) rb e2), z1, z2, post _ m2 _ H2 h2 (.bl _) s2 (t1.trans t2)⟩
    · exact h2.elim⟩⟩
theorem de_eqNN {a b : Expr} {ta tb : DTL} (hu : X.A.units + 64 < cLine) (ha : DL B X a ta) (hb : DL B X b tb) : DE B X (.Compare a [.Eq] [b] pos) (dEqNN false ta tb) := pe_imp (pe_cmpR (op_eqD hu) ha hb (nomark _)) eqNN_lift
/-- x == [], x != [] of a list -/
def dNil? (neg : Bool) (ta : DTE) : DTE := fun ρ m q => ta ρ m fun d m1 => match itemsL m1 d with
  | some xs => (∃ ps, pyDs m1 xs = some ps ∧ SeqAt.shaped (.list ps) = true) ∧ q (.bl (if neg then !xs.isEmpty else xs.isEmpty)) m1
  | none => False
theorem eqvAll_nil : ∀ {xs : List D} {ps : List PyData} {f : Addr → Option PyData}, pyWs f xs = some ps → PyData.eqvAll ps [] = xs.isEmpty
  | [], _, _, e => by cases e; rfl
  | d :: ds, _, f, e => by
    unfold pyWs at e
    split at e
    · cases e; rfl
    · cases e
theorem nnil_lift {K : PySem.W.Frag} {ta : DTE} : ∀ σ H Q, upE K B (dNil? true ta) σ H Q → tOp (rNeD K) (upE K B ta) (tLst tNil) σ H Q :=
  fun σ H Q ⟨ρ, m, q, p, h, post⟩ => ⟨ρ, m, _, p, h, fun d m1 v H1 h1 r1 s1 t1 => ⟨Nat.zero_le _, fun b hb => by
    split at h1
    · rename_i xs ex
      obtain ⟨⟨ps, e1, z1⟩, h1⟩ := h1
      have s2 : Sim K (upd H1 b (.lst [])) m1 := s1.alloc hb
      obtain ⟨a', vs', ea, hs', rr'⟩ := s2.sq (r1.mono (upd_new hb)) ex
      subst ea
      refine ⟨.list ps, .list [], .lst hs' (pyWs_ok (pyA_ok s2 3) rr' e1), .lst (SqL.of upd_same) .nil, z1, by decide, ?_⟩
      show Q (.bl (!PyData.eqv (.list ps) (.list []))) _
      rw [show PyData.eqv (.list ps) (.list []) = xs.isEmpty by rw [PyData.eqv]; exact eqvAll_nil e1]
      exact post _ m1 _ _ h1 (.bl _) s2 (t1.trans (Step.alloc hb))
    · exact h1.elim⟩⟩
theorem dt_neNil {a : Expr} {ta : DTE} {p2 : Pos} (hu : X.A.units + 64 < cLine) (ha : DE B X a ta) : DT B X (.Compare a [.NotEq] [.List [] p2] pos) (dTest (dNil? true ta)) := pt_imp (pt_cmpR (op_neD hu) ha (pe_lst pa_nil) (nomark _)) (test_lift nnil_lift)
end
end L2.Lh

namespace L2.Lh
open PySem PySem.Spec PyProof.Rows

/-! ### defs -/
/-- what is wanted of an error: its class, the slots, the memory -/
abbrev DWX := Value → DEnv → Mem → Prop
/-- an error that has a field is told by a mark: its class, and where its fields stand -/
def xvC : Value → Value
  | .int (.ofNat C) _ => .ref C
  | v => v
def xvD : Value → Option Addr
  | .int (.ofNat _) dx => some dx
  | _ => none
def upW (K : PySem.W.Frag) (B : Bs) (we : DWX) : WX := fun cls d σ H => ∃ c, (cls = xvC c ∧ d = xvD c) ∧ ∃ ρ m, Pre K B ρ m σ H ∧ we c ρ m
abbrev DSp := List D → Mem → DQ → (Value → Mem → Prop) → Prop
def upSp (K : PySem.W.Frag) (sp : DSp) : Sp := fun vs H Q E => ∃ ds m q qe, Reps K H ds vs ∧ Sim K H m ∧ sp ds m q qe ∧ PostE K H m q Q ∧ ∀ cls m' H', qe cls m' → Sim K H' m' → Step H m H' m' → E (xvC cls) (xvD cls) H'
abbrev FnD (P : Program) (w : World) (K : PySem.W.Frag) (mg : Str → Option Value) (base : Heap) (k : Nat) (f : Addr) (fd : FuncData) (ps : List Str) (sp : DSp) : Prop := FnOk P w K mg base (L2.CX P w) k f fd ps (upSp K sp)
def sp1 (f : D → Mem → DQ → (Value → Mem → Prop) → Prop) : DSp := fun ds m q qe => match ds with | [a] => f a m q qe | _ => False
def sp2 (f : D → D → Mem → DQ → (Value → Mem → Prop) → Prop) : DSp := fun ds m q qe => match ds with | [a, b] => f a b m q qe | _ => False
def sp3 (f : D → D → D → Mem → DQ → (Value → Mem → Prop) → Prop) : DSp := fun ds m q qe => match ds with | [a, b, c] => f a b c m q qe | _ => False
def sp4 (f : D → D → D → D → Mem → DQ → (Value → Mem → Prop) → Prop) : DSp := fun ds m q qe => match ds with | [a, b, c, d] => f a b c d m q qe | _ => False
theorem sp1_at {f} {ds : List D} {m q qe} (h : sp1 f ds m q qe) : ∃ a, ds = [a] ∧ f a m q qe := by
  match ds, h with
  | [a], h => exact ⟨a, rfl, h⟩
theorem sp2_at {f} {ds : List D} {m q qe} (h : sp2 f ds m q qe) : ∃ a b, ds = [a, b] ∧ f a b m q qe := by
  match ds, h with
  | [a, b], h => exact ⟨a, b, rfl, h⟩
theorem sp3_at {f} {ds : List D} {m q qe} (h : sp3 f ds m q qe) : ∃ a b c, ds = [a, b, c] ∧ f a b c m q qe := by
  match ds, h with
  | [a, b, c], h => exact ⟨a, b, c, rfl, h⟩
theorem sp4_at {f} {ds : List D} {m q qe} (h : sp4 f ds m q qe) : ∃ a b c d, ds = [a, b, c, d] ∧ f a b c d m q qe := by
  match ds, h with
  | [a, b, c, d], h => exact ⟨a, b, c, d, rfl, h⟩
theorem sp1_len {f} {ds : List D} {m q qe} (h : sp1 f ds m q qe) : ds.length = 1 := by obtain ⟨a, e, _⟩ := sp1_at h; rw [e]; rfl
theorem sp2_len {f} {ds : List D} {m q qe} (h : sp2 f ds m q qe) : ds.length = 2 := by obtain ⟨a, b, e, _⟩ := sp2_at h; rw [e]; rfl
theorem sp3_len {f} {ds : List D} {m q qe} (h : sp3 f ds m q qe) : ds.length = 3 := by obtain ⟨a, b, c, e, _⟩ := sp3_at h; rw [e]; rfl
theorem sp4_len {f} {ds : List D} {m q qe} (h : sp4 f ds m q qe) : ds.length = 4 := by obtain ⟨a, b, c, d, e, _⟩ := sp4_at h; rw [e]; rfl

def startD (N : List Str) (ds : List D) : DEnv := ds.map some ++ List.replicate (N.length - ds.length) none
theorem start_ok {K : PySem.W.Frag} {H : Hp} {N : List Str} {ds : List D} {vs : List V} (r : Reps K H ds vs) : RepEnv K H (startD N ds) (L2.start N vs) := by
  unfold startD L2.start
  rw [r.length]
  have gen : ∀ {ds : List D} {vs : List V} {a : DEnv} {b : St}, Reps K H ds vs → RepEnv K H a b → RepEnv K H (ds.map some ++ a) (vs.map some ++ b) := by
    intro ds vs a b r q
    induction ds generalizing vs with
    | nil => cases r; exact q
    | cons d ds ih =>
      cases r with
      | cons r1 r2 => exact .cons r1 (ih r2)
  refine gen r ?_
  generalize N.length - vs.length = n
  induction n with
  | zero => exact .nil
  | succ n ih => exact .cons trivial ih
/-- a def's ends: what is not asked is forgotten -/
def defEnds (q : DQ) : DEnds := { nx := fun _ m => ∃ m' : Mem, m'.le m ∧ q .non m', rt := fun d m => ∃ m' : Mem, m'.le m ∧ q d m' }
section
variable {P : Program} {w : World} {K : PySem.W.Frag} {mg : Str → Option Value} {base : Heap}
theorem fnD_of {x qual : Str} {st : Stmt} {f : Addr} {fd : FuncData} {N ps : List Str} {k : Nat} {sp : DSp} (F : Fun K x qual st f fd) (S : FnScope N ps (defScope st)) (len : ∀ {ds m q qe}, sp ds m q qe → ds.length = ps.length)
    (body : ∀ (cdv : Value) (A : Around) (outer : List Env) (s : Shared) (H : Hp) (E : XK) (B : Bs) (qe : Value → Mem → Prop),
      Room k (A.deeper (envOfC qual (defScope st) s.heap.objs.size f cdv)) →
      Takes (cxOf (L2.CX P w) P w K mg base N qual (defScope st) f cdv A outer s H E) (upW K B fun cls _ m => qe cls m) →
      PassesOwn (model P w) (cxOf (L2.CX P w) P w K mg base N qual (defScope st) f cdv A outer s H E).A (cxOf (L2.CX P w) P w K mg base N qual (defScope st) f cdv A outer s H E).env (cxOf (L2.CX P w) P w K mg base N qual (defScope st) f cdv A outer s H E).xe →
      ∃ t, DSs B (cxOf (L2.CX P w) P w K mg base N qual (defScope st) f cdv A outer s H E) (defBody st) t ∧ ∀ ds m q, sp ds m q qe → t (defEnds q) (startD N ds) m) : FnD P w K mg base (k + 1) f fd ps sp := by
  refine F.okX S (fun vs H Q E h => ?_) (fun cdv A outer s H vs Q E hr h => ?_)
  · obtain ⟨ds, m, q, qe, r, _, h, _⟩ := h
    rw [← r.length]
    exact len h
  · obtain ⟨ds, m, q, qe, r, sim, h, post, hE⟩ := h
    have tk : Takes (cxOf (L2.CX P w) P w K mg base N qual (defScope st) f cdv A outer s H E) (upW K ⟨H, m⟩ fun cls _ m => qe cls m) :=
      (takes_of (E := E) rfl rfl rfl rfl).imp fun cls d σ H' ⟨c, ⟨e1, e2⟩, ρ, m', p, q'⟩ => by
        subst e1 e2
        exact hE c m' H' q' p.sim p.st
    obtain ⟨t, ht, hq⟩ := body cdv A outer s H E ⟨H, m⟩ qe hr tk (passes_of (K := fun e s'' => L2.CX P w outer H s E e s'') rfl)
    refine ⟨_, ht, startD N ds, m, defEnds q, ⟨start_ok r, sim, Step.refl _ _⟩, hq ds m q h, ?_⟩
    exact ⟨fun ρ' m' σ' H' ⟨m2, hle, hq⟩ env s2 st => post .non m2 .non H' hq .non (s2.forget hle) (st.forget hle), fun d m' v H' ⟨m2, hle, hq⟩ rd s2 st => post d m2 v H' hq rd (s2.forget hle) (st.forget hle),
      fun _ _ _ _ z => False.elim z, fun _ _ _ _ z => False.elim z⟩
end

/-! ### calls -/
def dCall (sp : DSp) (we : DWX) (t : DTA) : DTE := fun ρ m q => t ρ m fun ds m1 => sp ds m1 q fun cls m2 => we cls ρ m2
section
variable {X : Cx} {B : Bs} {k : Nat} {f : Addr} {fd : FuncData} {ps : List Str} {sp : DSp} {we : DWX} {x : Str} {p pos : Pos} {e : Expr} {es : List Expr} {t : DTA}
theorem call_lift {K : PySem.W.Frag} : ∀ σ H Q, upE K B (dCall sp we t) σ H Q → tCallS (upSp K sp) (WE (upW K B we)) (upA K B t) σ H Q :=
  fun σ H Q ⟨ρ, m, q, p, h, post⟩ => ⟨ρ, m, _, p, h, fun ds m1 vs H1 h1 r1 s1 t1 => ⟨ds, m1, q, _, r1, s1, h1, fun d2 m2 v2 H2 h2 r2 s2 t2 => post d2 m2 v2 H2 h2 r2 s2 (t1.trans t2),
    fun cls m2 H2 hq s2 t2 => ⟨cls, ⟨rfl, rfl⟩, ρ, m2, p.next s2 (t1.trans t2), hq⟩⟩⟩
theorem de_call (F : FnD X.prog X.w X.K X.mg X.base k f fd ps sp) (hr : Room k X.A) (hg : Gl X x) (hm : X.mg x = some (.ref f)) (hk : PySem.W.keepIn X.K (.ref f) = true) (hb : Binds X.K fd ps []) (tk : Takes X (upW X.K B we))
    (ha : DA B X (e :: es) t) (hdb : (x == ("__debug__" : Str)) = false := by decide) (he : starEach (e :: es) X.env = (false, eval e X.env) :: starEach es X.env := by rfl) (hpl : (backTo pos (starEach es X.env)).any (·.1) = false := by rfl) :
    DE B X (.Call (.Name x p) (e :: es) [] pos) (dCall sp we t) := pe_imp (pe_callS F hr hg hm hk hb (fun σ => passAt tk σ) ha hdb he hpl) call_lift
/-- within a comprehension nothing is raised -/
abbrev we0 : DWX := fun _ _ _ => False
theorem takesN {K : PySem.W.Frag} : Takes X (upW K B we0) := fun _ _ ⟨_, _, _, _, _, _, _, _, _, _, _, _, _, _, _, _, _, _, _, _, _, z⟩ => False.elim z
/-- raise -/
def dRaise (we : DWX) (C : Addr) : DTS := fun _ ρ m => we (.ref C) ρ m
theorem ds_raise {C : Addr} (hc : X.calm = true) (tk : Takes X (upW X.K B we)) (he : PMk X e (fun _ H Q => Q (.ref C) none H)) : DS B X (.Raise (some e) none pos) (dRaise we C) :=
  ps_imp (ps_raise hc tk he) fun F σ H ⟨ρ, m, E, p, h, o⟩ => ⟨.ref C, ⟨rfl, rfl⟩, ρ, m, p, h⟩
def dNever : DTS := fun _ _ _ => False
theorem ds_never {st : Stmt} : DS B X st dNever := ⟨fun _ _ _ _ _ _ ⟨_, _, _, _, z, _⟩ => z.elim⟩
end

/-! ### the law's own end -/
theorem law_cx {P : Program} {w : World} {H : Hp} {s : Shared} {e : Value} {s' : Shared} (h : L2.CX P w [] H s (fun _ _ _ => False) e s') : False := by
  obtain ⟨_, _, _, _, _, _, _, _, _, _, _, _, z⟩ := h
  exact z
end L2.Lh
namespace L2.Lh
open PySem PySem.Spec PyProof.Rows
/-- a new list, remembered -/
def dNew (t : DTL) : DTE := fun ρ m q => t ρ m fun ds m' => ∀ a, m' a = none → q (.ref a) (m'.set a (.lst ds))
theorem de_new {X : Cx} {B : Bs} {e : Expr} {t : DTL} (h : DL B X e t) : DE B X e (dNew t) := de_dl h
def dListRg (ta : DTE) : DTL := fun ρ m q => dRg1 ta q ρ m
def dTupRg (ta : DTE) : DTE := fun ρ m q => dRg1 ta (fun ds m' => q (.tup ds) m') ρ m
/-- a def of the text as it is called -/
structure DefAt (P : Program) (w : World) (K : PySem.W.Frag) (mg : Str → Option Value) (base : Heap) (k : Nat) (x : Str) (ps : List Str) (sp : DSp) where
  f : Addr
  fd : FuncData
  ok : FnD P w K mg base k f fd ps sp
  g : mg x = some (.ref f)
  kp : PySem.W.keepIn K (.ref f) = true
  b : Binds K fd ps []
def GI (mg : Str → Option Value) (x : Str) (i : Int) : Prop := ∃ t, mg x = some (.int i t)
section
variable {X : Cx} {B : Bs} {k : Nat} {ps : List Str} {sp : DSp} {we : DWX} {x : Str} {p pos : Pos} {e : Expr} {es : List Expr} {t : DTA}
theorem de_callD (d : DefAt X.prog X.w X.K X.mg X.base k x ps sp) (hr : Room k X.A) (hg : Gl X x) (tk : Takes X (upW X.K B we)) (ha : DA B X (e :: es) t) (hdb : (x == ("__debug__" : Str)) = false := by decide)
    (he : starEach (e :: es) X.env = (false, eval e X.env) :: starEach es X.env := by rfl) (hpl : (backTo pos (starEach es X.env)).any (·.1) = false := by rfl) : DE B X (.Call (.Name x p) (e :: es) [] pos) (dCall sp we t) :=
  de_call d.ok hr hg d.g d.kp d.b tk ha hdb he hpl
theorem de_gi {x : Str} {i : Int} {pos : Pos} (h : GI X.mg x i) (hg : Gl X x) (hd : (x == ("__debug__" : Str)) = false := by decide) : DE B X (.Name x pos) (dC (.int i)) := let ⟨_, h⟩ := h; de_gint hg h hd
end
end L2.Lh

/-! plain lemmas over readings -/
namespace L2.Lh
open PySem PySem.Spec PyProof.Rows

theorem defEnds_here {q : DQ} {d : D} {m : Mem} (h : q d m) : (defEnds q).rt d m := ⟨m, Mem.le_refl m, h⟩
theorem defEnds_le {q : DQ} {d : D} {m m' : Mem} (l : m'.le m) (h : q d m') : (defEnds q).rt d m := ⟨m', l, h⟩
def rngI (n : Nat) : List Int := (List.range n).map fun (k : Nat) => ((k : Nat) : Int)
theorem rngI_length (n : Nat) : (rngI n).length = n := by simp [rngI]
theorem rngD0 (n : Nat) : rngD 0 n = (rngI n).map D.int := by
  simp [rngD, rngI]
theorem mem_rngI {n : Nat} {i : Int} : i ∈ rngI n ↔ 0 ≤ i ∧ i < n := by
  unfold rngI
  rw [List.mem_map]
  constructor
  · rintro ⟨k, hk, rfl⟩
    have := List.mem_range.mp hk
    omega
  · intro h
    exact ⟨i.toNat, List.mem_range.mpr (by omega), by omega⟩
theorem rngI_sorted (n : Nat) : (rngI n).Pairwise (· ≤ ·) := by
  unfold rngI
  rw [List.pairwise_map]
  exact List.Pairwise.imp (fun h => by omega) (List.pairwise_lt_range (n := n))
theorem sorted_one {xs ys : List Int} (h : xs.Perm ys) (h1 : xs.Pairwise (· ≤ ·)) (h2 : ys.Pairwise (· ≤ ·)) : xs = ys :=
  h.eq_of_pairwise (fun _ _ _ _ a b => Int.le_antisymm a b) h1 h2
theorem sized {n : Nat} (h : n ≤ 100000) : n ≤ sizeLine := by rw [sizeLine_eq]; omega
theorem sized' {n : Nat} (h : n ≤ 100000) : n < sizeLine := by rw [sizeLine_eq]; omega

/-- known things -/
def kn (m : Mem) (d : D) : Prop := (tyS m d).isSome = true

/-- a comprehension whose element is a function of the item -/
theorem comp_map {chk : Mem → Prop} {i : Nat} {te : DTE} {ρ : DEnv} {q : List D → Mem → Prop} (f : D → D) {m : Mem} (hc : chk m) : ∀ (items acc : List D),
    (∀ d ∈ items, ∀ K : DQ, K (f d) m → te (ρ.set i (some d)) m K) → acc.length + items.length ≤ sizeLine → q (acc ++ items.map f) m → compR chk (gNm i) dYes te ρ q items acc m
  | [], acc, _, _, h => by
    rw [List.map_nil, List.append_nil] at h
    exact ⟨hc, h⟩
  | d :: r, acc, hs, hz, h => by
    refine ⟨hc, ?_⟩
    show (if true = true then te (ρ.set i (some d)) m (fun y m4 => acc.length < sizeLine ∧ compR chk (gNm i) dYes te ρ q r (acc ++ [y]) m4) else compR chk (gNm i) dYes te ρ q r acc m)
    rw [if_pos rfl]
    refine hs d List.mem_cons_self _ ⟨by rw [List.length_cons] at hz; omega, comp_map f hc r (acc ++ [f d]) (fun e he => hs e (List.mem_cons_of_mem _ he)) (by rw [List.length_append, List.length_singleton]; rw [List.length_cons] at hz; omega) ?_⟩
    rw [List.append_assoc]
    exact h
/-- .. with a test -/
theorem comp_filter {chk : Mem → Prop} {i : Nat} {tt : DTT} {te : DTE} {ρ : DEnv} {q : List D → Mem → Prop} (p : D → Bool) (f : D → D) {m : Mem} (hc : chk m) : ∀ (items acc : List D),
    (∀ d ∈ items, ∀ K : Bool → Mem → Prop, K (p d) m → tt (ρ.set i (some d)) m K) → (∀ d ∈ items, p d = true → ∀ K : DQ, K (f d) m → te (ρ.set i (some d)) m K) → acc.length + items.length ≤ sizeLine → q (acc ++ (items.filter p).map f) m → compR chk (gNm i) tt te ρ q items acc m
  | [], acc, _, _, _, h => by
    rw [List.filter_nil, List.map_nil, List.append_nil] at h
    exact ⟨hc, h⟩
  | d :: r, acc, ht, hs, hz, h => by
    refine ⟨hc, ?_⟩
    show tt (ρ.set i (some d)) m fun b m3 => if b = true then te (ρ.set i (some d)) m3 (fun y m4 => acc.length < sizeLine ∧ compR chk (gNm i) tt te ρ q r (acc ++ [y]) m4) else compR chk (gNm i) tt te ρ q r acc m3
    refine ht d List.mem_cons_self _ ?_
    by_cases hp : p d = true
    · rw [if_pos hp]
      refine hs d List.mem_cons_self hp _ ⟨by rw [List.length_cons] at hz; omega, comp_filter p f hc r (acc ++ [f d]) (fun e he => ht e (List.mem_cons_of_mem _ he)) (fun e he => hs e (List.mem_cons_of_mem _ he)) (by rw [List.length_append, List.length_singleton]; rw [List.length_cons] at hz; omega) ?_⟩
      rw [List.filter_cons_of_pos hp, List.map_cons] at h
      rw [List.append_assoc]
      exact h
    · rw [if_neg hp]
      refine comp_filter p f hc r acc (fun e he => ht e (List.mem_cons_of_mem _ he)) (fun e he => hs e (List.mem_cons_of_mem _ he)) (by rw [List.length_cons] at hz; omega) ?_
      rw [List.filter_cons_of_neg hp] at h
      exact h
/-- a loop with a word of its own: the invariant by the items left -/
theorem for_inv {chk : Mem → Prop} {g : DTG} {tb : DTS} {E : DEnds} (P : List D → DEnv → Mem → Prop) (hc : ∀ r ρ m, P r ρ m → chk m) (hn : ∀ ρ m, P [] ρ m → E.nx ρ m)
    (hs : ∀ d r ρ m, P (d :: r) ρ m → ∀ N : DEnv → Mem → Prop, (∀ ρ' m', P r ρ' m' → N ρ' m') → g d ρ m fun ρ2 m2 => tb { E with nx := dn N, ct := dn N, bk := E.nx } ρ2 m2) :
    ∀ (items : List D) ρ m, P items ρ m → forR chk g tb E items ρ m
  | [], ρ, m, h => ⟨hc _ _ _ h, hn ρ m h⟩
  | d :: r, ρ, m, h => ⟨hc _ _ _ h, hs d r ρ m h _ fun ρ' m' h' => for_inv P hc hn hs r ρ' m' h'⟩
theorem dn_here {N : DEnv → Mem → Prop} {ρ : DEnv} {m : Mem} (h : N ρ m) : dn N ρ m := ⟨m, Mem.le_refl m, h⟩
theorem dn_le {N : DEnv → Mem → Prop} {ρ : DEnv} {m m' : Mem} (l : m'.le m) (h : N ρ m') : dn N ρ m := ⟨m', l, h⟩

/-! ### ints as data -/
theorem pyWs_ints (f : Addr → Option PyData) : ∀ ns : List Int, pyWs f (ns.map D.int) = some (ns.map PyData.int)
  | [] => rfl
  | n :: ns => by simp only [List.map_cons, pyWs, pyW, pyWs_ints f ns]
theorem canLay_ints : ∀ ns : List Int, PyData.canLayAll0 (ns.map PyData.int) = true
  | [] => by simp [PyData.canLayAll0]
  | n :: ns => by simp [PyData.canLayAll0, PyData.canLay0, canLay_ints ns]
theorem depth_ints : ∀ ns : List Int, PyData.depthAll (ns.map PyData.int) = 0
  | [] => by simp [PyData.depthAll]
  | n :: ns => by simp [PyData.depthAll, PyData.depth, depth_ints ns]
theorem shaped_listInts (ns : List Int) : SeqAt.shaped (.list (ns.map PyData.int)) = true := by
  simp [SeqAt.shaped, PyData.canLay0, PyData.depth, canLay_ints, depth_ints]
theorem eqvAll_ints : ∀ (ns ms : List Int), PyData.eqvAll (ns.map PyData.int) (ms.map PyData.int) = decide (ns = ms)
  | [], [] => by simp [PyData.eqvAll]
  | [], _ :: _ => by simp [PyData.eqvAll]
  | _ :: _, [] => by simp [PyData.eqvAll]
  | n :: ns, m :: ms => by
    rw [List.map_cons, List.map_cons, PyData.eqvAll, eqvAll_ints ns ms]
    by_cases h : n = m
    · subst h
      simp [PyData.eqv]
    · simp [PyData.eqv, h]
theorem eqLs_ints {ns ms : List Int} {m : Mem} {q : Bool → Prop} (h : q (decide (ns = ms))) : eqLs (ns.map D.int) (ms.map D.int) m q := by
  unfold eqLs
  rw [show pyDs m (ns.map D.int) = some (ns.map PyData.int) from pyWs_ints _ _, show pyDs m (ms.map D.int) = some (ms.map PyData.int) from pyWs_ints _ _]
  exact ⟨shaped_listInts ns, shaped_listInts ms, by rw [eqvAll_ints]; exact h⟩
/-- the things that make up a list of ints at an address -/
theorem pyD_refInts {m : Mem} {a : Addr} {ns : List Int} (h : m a = some (.lst (ns.map D.int))) : pyD m (.ref a) = some (.list (ns.map PyData.int)) := by
  show pyA m 3 a = _
  unfold pyA
  rw [h]
  show (pyWs (pyA m 2) (ns.map D.int)).map PyData.list = _
  rw [pyWs_ints]
  rfl
theorem nilOk_ints {m : Mem} (ns : List Int) : ∃ ps, pyDs m (ns.map D.int) = some ps ∧ SeqAt.shaped (.list ps) = true := ⟨_, pyWs_ints _ _, shaped_listInts ns⟩

/-! ### turns -/
def isWhole : D → Bool
  | .int _ => true
  | _ => false
def betw (d : D) (i j : Int) : Bool := match d with
  | .int k => decide (i ≤ k) && decide (k ≤ j)
  | _ => false
def isTurnL (ns : List Int) : Bool := decide (2 ≤ ns.length) && decide (ns.length ≤ 4) && decide (ns.Perm (rngI ns.length))
def isTurnD : D → Bool
  | .tup xs => match intsOf xs with
    | some ns => isTurnL ns
    | none => false
  | .ftup xs => match intsOf xs with
    | some ns => isTurnL ns
    | none => false
  | _ => false
theorem intsOf_all {xs : List D} {i j : Int} (h : xs.all (fun d => betw d i j) = true) : ∃ ns, intsOf xs = some ns ∧ ∀ n ∈ ns, i ≤ n ∧ n ≤ j := by
  induction xs with
  | nil => exact ⟨[], rfl, fun _ h => by cases h⟩
  | cons d r ih =>
    rw [List.all_cons, Bool.and_eq_true] at h
    obtain ⟨ns, e, hn⟩ := ih h.2
    cases d with
    | int k =>
      have h1 : i ≤ k ∧ k ≤ j := by simpa [betw] using h.1
      refine ⟨k :: ns, by simp [intsOf, e], fun n hn' => ?_⟩
      rcases List.mem_cons.mp hn' with rfl | z
      · exact h1
      · exact hn n z
    | _ => simp [betw] at h
theorem all_of_ints {ns : List Int} {i j : Int} (h : ∀ n ∈ ns, i ≤ n ∧ n ≤ j) : (ns.map D.int).all (fun d => betw d i j) = true := by
  rw [List.all_eq_true]
  intro d hd
  obtain ⟨n, hn, rfl⟩ := List.mem_map.mp hd
  have := h n hn
  simp [betw, this]
theorem turn_bounds {ns : List Int} (h : isTurnL ns = true) : ∀ n ∈ ns, 0 ≤ n ∧ n < ns.length := by
  intro n hn
  simp only [isTurnL, Bool.and_eq_true, decide_eq_true_eq] at h
  have := h.2.mem_iff.mp hn
  exact mem_rngI.mp this
def sp_is_whole : DSp := sp1 fun d m q _ => kn m d ∧ q (.bl (isWhole d)) m
def sp_is_between : DSp := sp3 fun d l u m q _ => kn m d ∧ ∃ i j, l = .int i ∧ u = .int j ∧ q (.bl (betw d i j)) m
def knT (m : Mem) (d : D) : Prop := match d with
  | .tup xs => ∀ e ∈ xs, kn m e
  | .ftup xs => ∀ e ∈ xs, kn m e
  | d => kn m d
def sp_is_turn : DSp := sp1 fun d m q _ => knT m d ∧ q (.bl (isTurnD d)) m
end L2.Lh

/-! more plain lemmas over readings -/
namespace L2.Lh
open PySem PySem.Spec PyProof.Rows

/-- a comprehension with a word of its own -/
theorem comp_inv {chk : Mem → Prop} {g : DTG} {tt : DTT} {te : DTE} {ρ : DEnv} {q : List D → Mem → Prop} (P : List D → List D → Mem → Prop) (hc : ∀ r acc m, P r acc m → chk m) (hn : ∀ acc m, P [] acc m → q acc m)
    (hs : ∀ d r acc m, P (d :: r) acc m → ∀ N : List D → Mem → Prop, (∀ acc' m', P r acc' m' → N acc' m') → g d ρ m fun ρ2 m2 => tt ρ2 m2 fun b m3 => if b = true then te ρ2 m3 fun y m4 => acc.length < sizeLine ∧ N (acc ++ [y]) m4 else N acc m3) :
    ∀ (items acc : List D) m, P items acc m → compR chk g tt te ρ q items acc m
  | [], acc, m, h => ⟨hc _ _ _ h, hn acc m h⟩
  | d :: r, acc, m, h => ⟨hc _ _ _ h, hs d r acc m h _ fun acc' m' h' => comp_inv P hc hn hs r acc' m' h'⟩
theorem erase_perm : ∀ (l : List Int) (k : Nat) (h : k < l.length), (l[k] :: l.eraseIdx k).Perm l
  | x :: l, 0, _ => by simp
  | x :: l, k + 1, h => by
    simp only [List.getElem_cons_succ, List.eraseIdx_cons_succ]
    exact (List.Perm.swap _ _ _).trans ((erase_perm l k (by simpa using h)).cons x)
theorem pop_perm {l done : List Int} {n : List Int} {k : Nat} {x : Int} (h : (l ++ done).Perm n) (hk : l[k]? = some x) : (l.eraseIdx k ++ (done ++ [x])).Perm n := by
  obtain ⟨hlt, hx⟩ := List.getElem?_eq_some_iff.mp hk
  have h1 : (l[k] :: l.eraseIdx k).Perm l := erase_perm l k hlt
  rw [hx] at h1
  have h2 : (l.eraseIdx k ++ (done ++ [x])).Perm (x :: (l.eraseIdx k ++ done)) := by
    rw [← List.append_assoc]
    exact List.perm_append_comm
  exact h2.trans (((h1.append_right done)).trans h)
theorem seqIx {i : Int} {n : Nat} (h0 : 0 ≤ i) (h1 : i < n) : seqIndex? i n = some i.toNat := by
  unfold seqIndex?
  simp only [show ¬ i < 0 by omega, if_false]
  rw [if_pos (by simp [h0, h1])]
theorem cut_take {α : Type} (xs : List α) {i : Int} (h0 : 0 ≤ i) : cutL xs none (some i) = xs.take i.toNat := by
  unfold cutL
  show (xs.drop 0).take ((if i < 0 then (i + (xs.length : Int)).toNat else min i.toNat xs.length) - 0) = _
  rw [if_neg (by omega), List.drop_zero, Nat.sub_zero]
  rcases Nat.le_total i.toNat xs.length with h | h
  · rw [Nat.min_eq_left h]
  · rw [Nat.min_eq_right h, List.take_length, List.take_of_length_le h]
theorem atI_last {α : Type} (xs : List α) (x : α) : atI (xs ++ [x]) (-1) = some x := by
  unfold atI ixN
  rw [if_neg (by omega), if_pos (by rw [List.length_append, List.length_singleton]; omega)]
  show (xs ++ [x])[((-1 : Int) + ((xs ++ [x]).length : Nat)).toNat]? = some x
  rw [List.length_append, List.length_singleton, show ((-1 : Int) + ((xs.length + 1 : Nat) : Int)).toNat = xs.length by omega]
  simp
theorem rngD_length (lo : Int) (n : Nat) : (rngD lo n).length = n := by simp [rngD]
theorem cmulR (i : Int) {j : Int} (h : -(2 ^ 64) < j ∧ j < 2 ^ 64) : CMul i j := .inr h
theorem cmulL {i : Int} (j : Int) (h : -(2 ^ 64) < i ∧ i < 2 ^ 64) : CMul i j := .inl h
theorem cpow18 : CPow 10 18 := by refine ⟨by decide, by decide, by decide⟩
theorem Mem.set_none {m : Mem} {a b : Addr} {o : MO} (h : (m.set a o) b = none) : m b = none ∧ b ≠ a := by
  by_cases e : b = a
  · subst e; rw [Mem.set_same] at h; cases h
  · rw [Mem.set_ne e] at h; exact ⟨h, e⟩
theorem Mem.live_ne {m : Mem} {a b : Addr} {o : MO} (h : m a = some o) (h' : m b = none) : a ≠ b := fun e => by subst e; rw [h] at h'; cases h'
end L2.Lh

/-! defs under which no repr is under way; repr; keywords -/
namespace L2.Lh
open PySem PySem.Spec PyProof.Rows

/-- as FnOk, where no repr is under way -/
structure FnG (P : Program) (w : World) (K : PySem.W.Frag) (mg : Str → Option Value) (base : Heap) (k : Nat) (f : Addr) (fd : FuncData) (ps : List Str) (sp : Sp) : Prop where
  len : ∀ vs H Q E, sp vs H Q E → vs.length = ps.length
  run : ∀ (A : Around) (outer : List Env) (s : Shared) (H : Hp) (args : Args) (us : List Value) (vs : List V) (Q : VK) (E : XK), A.guards = some [] → Room k A → Env0 P w K mg base A outer s H →
    BindsTo s fd args (ps.zip us) → Vals vs us → sp vs H Q E → codeAny (model P w) A (.call (.ref f) args) (CR (L2.CX P w) outer P w H s Q E) s
theorem FnG.of {P : Program} {w : World} {K : PySem.W.Frag} {mg : Str → Option Value} {base : Heap} {k : Nat} {f : Addr} {fd : FuncData} {ps : List Str} {sp : Sp} (F : FnOk P w K mg base (L2.CX P w) k f fd ps sp) : FnG P w K mg base k f fd ps sp :=
  ⟨F.len, fun A outer s H args us vs Q E _ hr e b r h => F.run A outer s H args us vs Q E hr e b r h⟩
section
variable {P : Program} {w : World} {K : PySem.W.Frag} {mg : Str → Option Value} {base : Heap}
/-- a def by its body -/
theorem fnG_body {x qual : Str} {st : Stmt} {f : Addr} {fd : FuncData} {N ps : List Str} {k : Nat} {sp : Sp} (F : Fun K x qual st f fd) (S : FnScope N ps (defScope st)) (len : ∀ vs H Q E, sp vs H Q E → vs.length = ps.length)
    (body : ∀ (cdv : Value) (A : Around) (outer : List Env) (s : Shared) (H : Hp) (vs : List V) (Q : VK) (E : XK), A.guards = some [] → Room k (A.deeper (envOfC qual (defScope st) s.heap.objs.size f cdv)) → sp vs H Q E →
      ∃ t, PSs (cxOf (L2.CX P w) P w K mg base N qual (defScope st) f cdv A outer s H E) (defBody st) t ∧ t { nx := fun _ H' => Q .non H', rt := Q } (start N vs) H) : FnG P w K mg base (k + 1) f fd ps sp := by
  obtain ⟨oc, od, kV, doc, pm, an, cdv, ct, osl, rfl, lk, hcd⟩ := F.ex
  constructor
  · exact len
  intro A outer s H args us vs Q E hgd hr e0 hb r hsp
  have KX : K.In s.heap := e0.mod.kin.keeps fun b o e => (e0.bs b o e).1
  have lim : s.heap.NoLimit := e0.mod.nolimit.keeps fun b o e => (e0.bs b o e).1
  refine codeAny_call_function hr.depth (KX _ _ lk) rfl S.co S.gen rfl (PySem.W.codeRec_of KX hcd) (hb _ _ _ _ ?_)
  have kinds : ∀ y ∈ ps.zip us, (defScope st).names.lookup y.1 = some .local ∨ ((defScope st).names.lookup y.1 = some .cell ∧ ((cellsFrom (s.heap.objs.size + 1) (defScope st).names []).lookup y.1).isSome = true) := by
    intro y hy
    cases S.par y.1 (List.of_mem_zip hy).1 with
    | inl q => exact .inl q
    | inr q => exact .inr ⟨q, PySem.W.cellsFrom_some _ _ _ (.inl q)⟩
  refine wpAny_newFunctionEnv_cells S.kind kinds fun env he s1 inc => ?_
  cases he
  obtain ⟨t, ht, hq⟩ := body cdv A outer s H vs Q E hgd (hr.deeper _) hsp
  have I := inv_start (CX := L2.CX P w) (E := E) (N := N) S hr.hd e0 (len _ _ _ _ hsp) r inc
  refine ⟨lim.keeps inc.toInCall.keep, codeAny_func (wpAny_mono (ht.run [] s1 (start N vs) H _ I hq) (fun fl s' hs => ?_) fun _ _ z => z)⟩
  match fl, hs with
  | .ret u, ⟨v, σ', H', J, rv, q⟩ => exact ⟨v, H', J.os, J.bare, J.base, J.hok, rv, q⟩
  | .next, ⟨σ', H', J, q⟩ => exact ⟨.non, H', J.os, J.bare, J.base, J.hok, rfl, q⟩
  | .brk, ⟨_, _, _, q⟩ => exact q.elim
  | .cont, ⟨_, _, _, q⟩ => exact q.elim
abbrev FnDG (P : Program) (w : World) (K : PySem.W.Frag) (mg : Str → Option Value) (base : Heap) (k : Nat) (f : Addr) (fd : FuncData) (ps : List Str) (sp : DSp) : Prop := FnG P w K mg base k f fd ps (upSp K sp)
theorem fnDG_of {x qual : Str} {st : Stmt} {f : Addr} {fd : FuncData} {N ps : List Str} {k : Nat} {sp : DSp} (F : Fun K x qual st f fd) (S : FnScope N ps (defScope st)) (len : ∀ {ds m q qe}, sp ds m q qe → ds.length = ps.length)
    (body : ∀ (cdv : Value) (A : Around) (outer : List Env) (s : Shared) (H : Hp) (E : XK) (B : Bs) (qe : Value → Mem → Prop),
      Room k (A.deeper (envOfC qual (defScope st) s.heap.objs.size f cdv)) → (cxOf (L2.CX P w) P w K mg base N qual (defScope st) f cdv A outer s H E).A.guards = some [] →
      Takes (cxOf (L2.CX P w) P w K mg base N qual (defScope st) f cdv A outer s H E) (upW K B fun cls _ m => qe cls m) →
      PassesOwn (model P w) (cxOf (L2.CX P w) P w K mg base N qual (defScope st) f cdv A outer s H E).A (cxOf (L2.CX P w) P w K mg base N qual (defScope st) f cdv A outer s H E).env (cxOf (L2.CX P w) P w K mg base N qual (defScope st) f cdv A outer s H E).xe →
      ∃ t, DSs B (cxOf (L2.CX P w) P w K mg base N qual (defScope st) f cdv A outer s H E) (defBody st) t ∧ ∀ ds m q, sp ds m q qe → t (defEnds q) (startD N ds) m) : FnDG P w K mg base (k + 1) f fd ps sp := by
  refine fnG_body F S (fun vs H Q E h => ?_) (fun cdv A outer s H vs Q E hgd hr h => ?_)
  · obtain ⟨ds, m, q, qe, r, _, h, _⟩ := h
    rw [← r.length]
    exact len h
  · obtain ⟨ds, m, q, qe, r, sim, h, post, hE⟩ := h
    have tk : Takes (cxOf (L2.CX P w) P w K mg base N qual (defScope st) f cdv A outer s H E) (upW K ⟨H, m⟩ fun cls _ m => qe cls m) :=
      (takes_of (E := E) rfl rfl rfl rfl).imp fun cls d σ H' ⟨c, ⟨e1, e2⟩, ρ, m', p, q'⟩ => by
        subst e1 e2
        exact hE c m' H' q' p.sim p.st
    obtain ⟨t, ht, hq⟩ := body cdv A outer s H E ⟨H, m⟩ qe hr hgd tk (passes_of (K := fun e s'' => L2.CX P w outer H s E e s'') rfl)
    refine ⟨_, ht, startD N ds, m, defEnds q, ⟨start_ok r, sim, Step.refl _ _⟩, hq ds m q h, ?_⟩
    exact ⟨fun ρ' m' σ' H' ⟨m2, hle, hq⟩ env s2 st => post .non m2 .non H' hq .non (s2.forget hle) (st.forget hle), fun d m' v H' ⟨m2, hle, hq⟩ rd s2 st => post d m2 v H' hq rd (s2.forget hle) (st.forget hle),
      fun _ _ _ _ z => False.elim z, fun _ _ _ _ z => False.elim z⟩
end
/-- a def as it is called, where no repr is under way -/
structure DefG (P : Program) (w : World) (K : PySem.W.Frag) (mg : Str → Option Value) (base : Heap) (k : Nat) (x : Str) (ps : List Str) (sp : DSp) where
  f : Addr
  fd : FuncData
  ok : FnDG P w K mg base k f fd ps sp
  g : mg x = some (.ref f)
  kp : PySem.W.keepIn K (.ref f) = true
  b : Binds K fd ps []
section
variable {X : Cx} {B : Bs} {k : Nat} {ps : List Str} {sp : DSp} {we : DWX} {x : Str} {p pos : Pos} {e : Expr} {es : List Expr} {t : DTA}
theorem run_G {f : Addr} {fd : FuncData} {E : XK} {pins : List (Addr × Obj)} {σ : St} {H : Hp} {s : Shared} {Q : VK} {args : Args} {us : List Value} {vs : List V} {sp : Sp} (F : FnG X.prog X.w X.K X.mg X.base k f fd ps sp) (hgd : X.A.guards = some []) (hr : Room k X.A)
    (I : Inv X pins σ H s) (hx : PassesAt (L2.CX X.prog X.w) X σ E) (b : BindsTo s fd args (ps.zip us)) (r : Vals vs us) (h : sp vs H Q E) : codeAny (model X.prog X.w) X.A (.call (.ref f) args) (fun r s' => match r with | .ok (.ret u) => EP X pins σ Q u s' | .ok _ => False | .error e => X.xe e s') s := by
  refine codeAny_mono (F.run X.A X.stack s H args us vs Q E hgd hr I.env0 b r h) fun r s' hq => ?_
  match r, hq with
  | .error e, hq => exact hx pins H s e s' I hq
  | .ok (.ret u), hq => exact I.after hq
  | .ok .next, hq => exact False.elim hq
  | .ok .brk, hq => exact False.elim hq
  | .ok .cont, hq => exact False.elim hq
theorem de_callG (d : DefG X.prog X.w X.K X.mg X.base k x ps sp) (hgd : X.A.guards = some []) (hr : Room k X.A) (hg : Gl X x) (tk : Takes X (upW X.K B we)) (ha : DA B X (e :: es) t) (hdb : (x == ("__debug__" : Str)) = false := by decide)
    (he : starEach (e :: es) X.env = (false, eval e X.env) :: starEach es X.env := by rfl) (hpl : (backTo pos (starEach es X.env)).any (·.1) = false := by rfl) : DE B X (.Call (.Name x p) (e :: es) [] pos) (dCall sp we t) := by
  refine pe_imp (t := tCallS (upSp X.K sp) (WE (upW X.K B we)) (upA X.K B t)) ⟨fun pins s σ H Q I h => ?_⟩ call_lift
  refine wpAny_Call_Name_kw (ld_glob I hg d.g ?_ hdb)
  refine PySem.W.callWith_K (h₀ := X.base) I.ok.mod.kin d.kp (thn (ha.run pos pins s σ H _ I h) fun us s1 ⟨vs, H1, I1, r, q⟩ => ⟨I1.kIn, ?_⟩) he hpl
  have hl : us.length = ps.length := by rw [← r.length]; exact d.ok.len _ _ _ _ q
  have b := d.b s1 us I1.kIn (by rw [List.append_nil]; exact hl)
  rw [List.append_nil] at b
  exact wpAny_call (codeAny_mono (run_G d.ok hgd hr I1 (passAt tk σ) b r q) fun r s' z => by
    match r, z with
    | .error e, z => exact z
    | .ok (.ret u), z => exact z
    | .ok .next, z => exact z.elim
    | .ok .brk, z => exact z.elim
    | .ok .cont, z => exact z.elim)
end

/-! ### the end -/
end L2.Lh

/-! repr, min, max, remove, keyword calls -/
namespace L2.Lh
open PySem PySem.Spec PyProof.Rows

theorem reps_ints {K : PySem.W.Frag} {H : Hp} : ∀ {ns : List Int} {vs : List V}, Reps K H (ns.map D.int) vs → vs = ns.map V.int
  | [], _, r => by cases r; rfl
  | n :: ns, _, r => by
    cases r with
    | cons a b => cases a; rw [List.map_cons, reps_ints b]
/-! ### repr -/
def reprOf (d : D) (m : Mem) (q : DQ) : Prop := match pyD m d with
  | some p => p.showable = true ∧ p.hasDict = false ∧ p.depth ≤ 50 ∧ p.shown.length ≤ sizeLine ∧ q (.str p.shown) m
  | none => False
def reprD : DRC
  | [.int i], m, q => i.natAbs.log2 < 1920 ∧ q (.str (toString i)) m
  | [.tup xs], m, q => reprOf (.tup xs) m q
  | [.ftup xs], m, q => reprOf (.ftup xs) m q
  | [.ref a], m, q => reprOf (.ref a) m q
  | [.rol xs], m, q => reprOf (.rol xs) m q
  | _, _, _ => False
section
variable {X : Cx}
theorem repr_ok {K : PySem.W.Frag} (hK : X.K = K) (hgd : X.A.guards = some []) (hu : X.A.units + 64 < cLine) {pins : List (Addr × Obj)} {s : Shared} {σ : St} {H : Hp} {a : Addr} {d : D} {m : Mem} {q : DQ} {Q : VK} (I : Inv X pins σ H s) (sim : Sim X.K H m) (r : Rep X.K H d (.ref a)) (h : reprOf d m q) (post : PostE X.K H m q Q) :
    wpAny (model X.prog X.w) X.A (call (.builtin "repr") [.ref a]) (EP X pins σ Q) X.xe s := by
  unfold reprOf at h
  split at h
  · rename_i p ep
    obtain ⟨h1, h2, h3, h4, hq⟩ := h
    obtain ⟨as, rd⟩ := Dp.reads I p (.ref a) (.ref a) (pyW_ok (pyA_ok sim 3) r ep) rfl
    exact repr_of_reads' rd h1 (PyData.noDict_hsm h2) hgd (by omega) (fun _ _ e => e) (fun h' u tk hk => ⟨.str p.shown, H, I.kept hk, ⟨u, rfl⟩, post.here hq (.str _) sim⟩) h4
  · exact h.elim
theorem c_repr (hgd : X.A.guards = some []) (hu : X.A.units + 64 < cLine) : CallD X (.builtin "repr") reprD := by
  intro pins s σ H xs us Q I r ⟨ds, m, q, rs, sim, h, post⟩
  unfold reprD at h
  split at h
  · obtain ⟨v, rfl, rv⟩ := reps1 rs
    cases rv
    exact SkE.call_repr_int pins s σ H _ us Q I r ⟨_, rfl, h.1, post.here h.2 (.str _) sim⟩
  · obtain ⟨v, rfl, rv⟩ := reps1 rs
    obtain ⟨a, rfl⟩ : ∃ a, v = .ref a := by cases rv; exact ⟨_, rfl⟩
    rw [Vals.ref1 r]
    exact repr_ok rfl hgd hu I sim rv h post
  · obtain ⟨v, rfl, rv⟩ := reps1 rs
    obtain ⟨a, rfl⟩ : ∃ a, v = .ref a := by cases rv; exact ⟨_, rfl⟩
    rw [Vals.ref1 r]
    exact repr_ok rfl hgd hu I sim rv h post
  · obtain ⟨v, rfl, rv⟩ := reps1 rs
    obtain ⟨a, rfl⟩ : ∃ a, v = .ref a := by cases rv; exact ⟨_, rfl⟩
    rw [Vals.ref1 r]
    exact repr_ok rfl hgd hu I sim rv h post
  · obtain ⟨v, rfl, rv⟩ := reps1 rs
    obtain ⟨a, rfl⟩ : ∃ a, v = .ref a := by cases rv; exact ⟨_, rfl⟩
    rw [Vals.ref1 r]
    exact repr_ok rfl hgd hu I sim rv h post
  · exact h.elim
/-! .. of a list just made -/
def reprN : DRC := fun ds m q => match pyDs m ds with
  | some ps => (PyData.list ps).showable = true ∧ (PyData.list ps).hasDict = false ∧ (PyData.list ps).depth ≤ 50 ∧ (PyData.list ps).shown.length ≤ sizeLine ∧ q (.str (PyData.list ps).shown) m
  | none => False
theorem n_repr (hgd : X.A.guards = some []) (hu : X.A.units + 64 < cLine) : CallN X (.builtin "repr") reprN := by
  intro pins s σ H xs us Q I r ⟨a, ds, vs, m, q, e, ha, rs, hn, sim, h, post⟩
  unfold reprN at h
  split at h
  · rename_i ps ep
    subst e
    obtain ⟨h1, h2, h3, h4, hq⟩ := h
    rw [Vals.ref1 r]
    obtain ⟨as, rd⟩ := Dp.reads I (.list ps) (.ref a) (.ref a) (.lst (SqL.of ha) (pyWs_ok (pyA_ok sim 3) rs ep)) rfl
    exact repr_of_reads' rd h1 (PyData.noDict_hsm h2) hgd (by omega) (fun _ _ e => e) (fun h' u tk hk => ⟨.str _, H, I.kept hk, ⟨u, rfl⟩, post.here hq (.str _) sim⟩) h4
  · exact h.elim
end

/-! ### min, max of ints -/
section
variable {prog : Program} {w : World} {A : Around} {E : Value → Shared → Prop} {s : Shared} {Q : Value → Shared → Prop} {l : Addr} {its : List Value} {ns : List Int}
end
def minD : DRC
  | [d], m, q => match itemsOf m d with
    | some xs => match intsOf xs with
      | some ns => 0 < ns.length ∧ ∀ k, k ∈ ns → (∀ y ∈ ns, k ≤ y) → q (.int k) m
      | none => False
    | none => False
  | _, _, _ => False
section
variable {X : Cx} {B : Bs}
/-! ### o.remove(k) that finds k -/
def removeD : DRM
  | .ref a, [.int k], m, q => ∃ ns : List Int, m a = some (.lst (ns.map D.int)) ∧ k ∈ ns ∧ q .non (m.set a (.lst ((ns.erase k).map D.int)))
  | _, _, _, _ => False
theorem reps_of_ints {K : PySem.W.Frag} {H : Hp} : ∀ ns : List Int, Reps K H (ns.map D.int) (ns.map V.int)
  | [] => .nil
  | n :: ns => .cons (.int n) (reps_of_ints ns)
theorem de_remove {o e : Expr} {to te : DTE} {apos cpos : Pos} (hc : X.calm = true) (ho : DE B X o to) (he : DE B X e te) (hbase : attributeBase o "remove" X.env (eval o X.env) = eval o X.env := by rfl)
    (hfew : ((backTo cpos (starEach [e] X.env)).all (fun x => !x.1) && (backToKw cpos (keywordEach [] X.env)).all (fun x => x.1.isSome)
      && decide (([e] : List Expr).length + ([] : List Keyword).length + (if ([] : List Keyword).isEmpty then 0 else 1) < 30)) = true := by rfl)
    (hline : (apos.endLine == cpos.line) = true := by rfl) (hs : starEach [e] X.env = (false, eval e X.env) :: starEach [] X.env := by rfl) (hplain : (backTo cpos (starEach [] X.env)).any (·.1) = false := by rfl) :
    DE B X (.Call (.Attribute o "remove" apos) [e] [] cpos) (dBM removeD to (dCons te dNil)) :=
  pe_imp (pe_remX hc (takesN (K := X.K) (B := B)) ho he hbase hfew hline hs hplain) fun σ H Q ⟨ρ, m, q, p, h, post⟩ => ⟨ρ, m, _, p, h, fun x m1 v H1 ⟨⟨a, xs, hd, hm1⟩, h1⟩ r1 s1 t1 => by
    subst hd
    cases r1
    obtain ⟨vs, hv, _⟩ := s1 a _ hm1
    refine ⟨.inl ⟨rfl, vs, SqL.of hv⟩, ρ, m1, _, p.next s1 t1, h1, fun y m2 u H2 h2 r2 s2 t2 => ?_⟩
    have h2 : removeD (.ref a) [y] m2 q := h2
    cases y with
    | int k =>
      obtain ⟨ns, e1, hk, hq⟩ := h2
      cases r2
      obtain ⟨vs2, hv2, rs⟩ := s2 a _ e1
      have e2 := reps_ints rs
      subst e2
      exact ⟨a, ns, k, rfl, rfl, hv2, fun _ => PostE.wrt (fun d3 m3 v3 H3 h3 r3 s3 t3 => post d3 m3 v3 H3 h3 r3 s3 (t1.trans (t2.trans t3))) e1 hq (reps_of_ints _) .non s2, fun z => absurd hk z⟩
    | _ => exact (show False from h2).elim⟩
end
/-! ### a call, every argument a keyword -/
/-- the callee runs here -/
def Runs (X : Cx) (f : Addr) (fd : FuncData) (ps : List Str) (sp : Sp) : Prop := ∀ (E : XK) (pins : List (Addr × Obj)) (σ : St) (H : Hp) (s : Shared) (Q : VK) (args : Args) (us : List Value) (vs : List V), Inv X pins σ H s → PassesAt (L2.CX X.prog X.w) X σ E → BindsTo s fd args (ps.zip us) → Vals vs us → sp vs H Q E →
  wpAny (model X.prog X.w) X.A (call (.ref f) args.pos args.kw) (EP X pins σ Q) X.xe s
section
variable {X : Cx} {B : Bs} {k : Nat} {ps ks : List Str} {ix : List Nat} {sp : DSp} {we : DWX} {x : Str} {p pos kpos : Pos} {e : Expr} {kws : List Keyword} {te : DTE} {t : DTA} {f : Addr} {fd : FuncData} {nm : Option Str}
theorem runs_end {E : XK} {pins : List (Addr × Obj)} {σ : St} {H : Hp} {s : Shared} {Q : VK} {args : Args} (I : Inv X pins σ H s) (hx : PassesAt (L2.CX X.prog X.w) X σ E) (h : codeAny (model X.prog X.w) X.A (.call (.ref f) args) (CR (L2.CX X.prog X.w) X.stack X.prog X.w H s Q E) s) :
    wpAny (model X.prog X.w) X.A (call (.ref f) args.pos args.kw) (EP X pins σ Q) X.xe s :=
  wpAny_call (codeAny_mono h fun r s' z => by
    match r, z with
    | .error e, z => exact hx pins H s e s' I z
    | .ok (.ret u), z => exact I.after z
    | .ok .next, z => exact False.elim z
    | .ok .brk, z => exact False.elim z
    | .ok .cont, z => exact False.elim z)
theorem runs_D (F : FnD X.prog X.w X.K X.mg X.base k f fd ps sp) (hr : Room k X.A) : Runs X f fd ps (upSp X.K sp) := fun E pins σ H s Q args us vs I hx b r h => runs_end I hx (F.run X.A X.stack s H args us vs Q E hr I.env0 b r h)
/-- keywords' values -/
abbrev DK (B : Bs) (X : Cx) (kws : List Keyword) (t : DTA) : Prop := PK X kws (upA X.K B t)
theorem dk_nil : DK B X [] dNil := ⟨fun pos pins s σ H Q I h => pk_nil.run pos pins s σ H Q I (let ⟨ρ, m, q, p, h, post⟩ := h; post [] m [] H h .nil p.sim (Step.refl _ _))⟩
theorem dk_cons (ha : DE B X e te) (hr : DK B X kws t) : DK B X (⟨nm, e, kpos⟩ :: kws) (dCons te t) := ⟨fun pos pins s σ H Q I h => (pk_cons ha hr).run pos pins s σ H Q I (let ⟨ρ, m, q, p, h, post⟩ := h; ⟨ρ, m, _, p, h, fun d m1 v H1 h1 r1 s1 t1 => ⟨ρ, m1, _, p.next s1 t1, h1, fun ds m2 vs H2 h2 r2 s2 t2 => post (d :: ds) m2 (v :: vs) H2 h2 (.cons (r1.mono t2.ext) r2) s2 (t1.trans t2)⟩⟩)⟩
def dCallK (sp : DSp) (we : DWX) (n : Nat) (ix : List Nat) (t : DTA) : DTE := fun ρ m q => t ρ m fun ds m1 => ds.length = n ∧ sp (ix.map fun i => ds.getD i .non) m1 q fun cls m2 => we cls ρ m2
theorem vals_perm {zs : List V} {ws : List Value} (r : Vals zs ws) : ∀ {ix : List Nat}, (∀ i ∈ ix, i < zs.length) → Vals (ix.map fun i => zs.getD i .non) (ix.map fun i => ws.getD i .none)
  | [], _ => .nil
  | i :: ix, h => by
    refine .cons ?_ (vals_perm r fun j hj => h j (List.mem_cons_of_mem _ hj))
    have hi := h i List.mem_cons_self
    obtain ⟨u, hu, rv⟩ := r.get (List.getElem?_eq_getElem hi)
    dsimp only
    rw [List.getD_eq_getElem?_getD, List.getElem?_eq_getElem hi, List.getD_eq_getElem?_getD, hu]
    exact rv
theorem reps_perm {K : PySem.W.Frag} {H : Hp} {ds : List D} {vs : List V} (r : Reps K H ds vs) : ∀ {ix : List Nat}, (∀ i ∈ ix, i < ds.length) → Reps K H (ix.map fun i => ds.getD i .non) (ix.map fun i => vs.getD i .non)
  | [], _ => .nil
  | i :: ix, h => by
    refine .cons ?_ (reps_perm r fun j hj => h j (List.mem_cons_of_mem _ hj))
    have hi := h i List.mem_cons_self
    obtain ⟨u, hu, rv⟩ := r.get (List.getElem?_eq_getElem hi)
    dsimp only
    rw [List.getD_eq_getElem?_getD, List.getElem?_eq_getElem hi, List.getD_eq_getElem?_getD, hu]
    exact rv
end
end L2.Lh

/-! readings at known things: equations -/
namespace L2.Lh
open PySem PySem.Spec PyProof.Rows
section
variable {m : Mem} {q : DQ} {i j : Int} {x y : Str} {xs ys : List D} {a b : Addr} {d : D} {ds : List D}
theorem addD_ii : addD (.int i) (.int j) m q = q (.int (i + j)) m := rfl
theorem addD_ss : addD (.str x) (.str y) m q = (x.length + y.length ≤ sizeLine ∧ q (.str (x ++ y)) m) := rfl
theorem addD_tt : addD (.tup xs) (.tup ys) m q = (xs.length + ys.length ≤ sizeLine ∧ q (.tup (xs ++ ys)) m) := rfl
theorem addD_rr : addD (.ref a) (.ref b) m q = ∃ xs ys, m a = some (.lst xs) ∧ m b = some (.lst ys) ∧ xs.length + ys.length ≤ sizeLine ∧ ∀ p, m p = none → q (.ref p) (m.set p (.lst (xs ++ ys))) := rfl
theorem iiD_ii {C : Int → Int → Prop} {g : Int → Int → D} : iiD C g (.int i) (.int j) m q = (C i j ∧ q (g i j) m) := rfl
theorem ii0_ii {g : Int → Int → D} : ii0 g (.int i) (.int j) m q = q (g i j) m := rfl
theorem mulD_ii : mulD (.int i) (.int j) m q = (CMul i j ∧ q (.int (i * j)) m) := rfl
theorem mulD_ri : mulD (.ref a) (.int j) m q = ∃ xs, m a = some (.lst xs) ∧ -(2 ^ 63) ≤ j ∧ j < 2 ^ 63 ∧ xs.length * j.toNat ≤ sizeLine ∧ ∀ p, m p = none → q (.ref p) (m.set p (.lst (List.replicate j.toNat xs).flatten)) := rfl
theorem mulD_ti : mulD (.tup xs) (.int j) m q = (xs ≠ [] ∧ 2 ≤ j ∧ j ≤ 1000 ∧ xs.length ≤ 1000 ∧ q (.tup (List.replicate j.toNat xs).flatten) m) := rfl
theorem negD_i : negD (.int i) m q = q (.int (-i)) m := rfl
theorem absD_i : absD [.int i] m q = q (.int (if i < 0 then -i else i)) m := rfl
theorem max2D_ii : max2D [.int i, .int j] m q = q (.int (if j > i then j else i)) m := rfl
theorem min2D_ii : min2D [.int i, .int j] m q = q (.int (if j < i then j else i)) m := rfl
theorem eqD_ii : eqD (.int i) (.int j) m q = q (.bl (i == j)) m := rfl
theorem neD_ii : neD (.int i) (.int j) m q = q (.bl (!(i == j))) m := rfl
theorem eqD_ss : eqD (.str x) (.str y) m q = q (.bl (decide (x = y))) m := rfl
theorem neD_ss : neD (.str x) (.str y) m q = q (.bl (!decide (x = y))) m := rfl
theorem reprD_i : reprD [.int i] m q = (i.natAbs.log2 < 1920 ∧ q (.str (toString i)) m) := rfl
theorem reprD_t : reprD [.tup xs] m q = reprOf (.tup xs) m q := rfl
theorem reprD_f : reprD [.ftup xs] m q = reprOf (.ftup xs) m q := rfl
theorem reprD_r : reprD [.ref a] m q = reprOf (.ref a) m q := rfl
theorem reprD_o : reprD [.rol xs] m q = reprOf (.rol xs) m q := rfl
theorem itemsOf_t : itemsOf m (.tup xs) = some xs := rfl
theorem itemsOf_f : itemsOf m (.ftup xs) = some xs := rfl
theorem itemsOf_o : itemsOf m (.rol xs) = some xs := rfl
theorem itemsOf_r (h : m a = some (.lst xs)) : itemsOf m (.ref a) = some xs := by unfold itemsOf; dsimp only; rw [h]
theorem itemsL_o : itemsL m (.rol xs) = some xs := rfl
theorem lenD_t : lenD [.tup xs] m q = q (.int xs.length) m := rfl
theorem lenD_f : lenD [.ftup xs] m q = q (.int xs.length) m := rfl
theorem lenD_o : lenD [.rol xs] m q = q (.int xs.length) m := rfl
theorem lenD_s : lenD [.str x] m q = (x.length ≤ sizeLine ∧ q (.int x.length) m) := rfl
theorem lenD_r (h : m a = some (.lst xs)) : lenD [.ref a] m q = q (.int xs.length) m := by
  show (match itemsOf m (.ref a) with | some xs => q (.int xs.length) m | none => False) = _
  rw [itemsOf_r h]
theorem tupleD_t : tupleD [.tup xs] m q = q (.tup xs) m := rfl
theorem tupleD_f : tupleD [.ftup xs] m q = q (.ftup xs) m := rfl
theorem tupleD_o : tupleD [.rol xs] m q = q (.tup xs) m := rfl
theorem tupleD_r (h : m a = some (.lst xs)) : tupleD [.ref a] m q = q (.tup xs) m := by
  show (match itemsOf m (.ref a) with | some xs => q (.tup xs) m | none => False) = _
  rw [itemsOf_r h]
theorem listD_t {q : List D → Mem → Prop} : listD (.tup xs) m q = q xs m := rfl
theorem listD_f {q : List D → Mem → Prop} : listD (.ftup xs) m q = q xs m := rfl
theorem listD_o {q : List D → Mem → Prop} : listD (.rol xs) m q = q xs m := rfl
theorem listD_r {q : List D → Mem → Prop} (h : m a = some (.lst xs)) : listD (.ref a) m q = q xs m := by unfold listD; rw [itemsOf_r h]
theorem minD_t : minD [.tup xs] m q = (match intsOf xs with | some ns => 0 < ns.length ∧ ∀ k, k ∈ ns → (∀ y ∈ ns, k ≤ y) → q (.int k) m | none => False) := rfl
theorem ixD_t (h : atI xs i = some d) : ixD (.tup xs) (.int i) m q = q d m := by unfold ixD; dsimp only [itemsOf]; rw [h]
theorem ixD_f (h : atI xs i = some d) : ixD (.ftup xs) (.int i) m q = q d m := by unfold ixD; dsimp only [itemsOf]; rw [h]
theorem ixD_r (h1 : m a = some (.lst xs)) (h : atI xs i = some d) : ixD (.ref a) (.int i) m q = q d m := by unfold ixD; dsimp only; rw [itemsOf_r h1]; dsimp only; rw [h]
theorem slD_t {lo hi : Option Int} : slD (.tup xs) lo hi m q = q (.tup (cutL xs lo hi)) m := rfl
theorem slD_o {lo hi : Option Int} : slD (.rol xs) lo hi m q = ∀ p, m p = none → q (.ref p) (m.set p (.lst (cutL xs lo hi))) := rfl
theorem slD_r {lo hi : Option Int} (h : m a = some (.lst xs)) : slD (.ref a) lo hi m q = ∀ p, m p = none → q (.ref p) (m.set p (.lst (cutL xs lo hi))) := by unfold slD; dsimp only; rw [h]
theorem itOf_t {q : Itd → Prop} : itOf m (.tup xs) q = q ⟨xs, fun _ => True⟩ := rfl
theorem itOf_f {q : Itd → Prop} : itOf m (.ftup xs) q = q ⟨xs, fun _ => True⟩ := rfl
theorem itOf_o {q : Itd → Prop} : itOf m (.rol xs) q = q ⟨xs, fun _ => True⟩ := rfl
theorem itOf_r {q : Itd → Prop} (h : m a = some (.lst xs)) : itOf m (.ref a) q = q ⟨xs, fun m' => m' a = some (.lst xs)⟩ := by unfold itOf; dsimp only; rw [h]
theorem sortD_f {q : List D → Mem → Prop} : sortD (.ftup xs) m q = (match intsOf xs with | some ns => ns.length < 64 ∧ ∀ ns' : List Int, ns'.Perm ns → ns'.Pairwise (· ≤ ·) → q (ns'.map D.int) m | none => False) := rfl
theorem sortD_t {q : List D → Mem → Prop} : sortD (.tup xs) m q = (match intsOf xs with | some ns => ns.length < 64 ∧ ∀ ns' : List Int, ns'.Perm ns → ns'.Pairwise (· ≤ ·) → q (ns'.map D.int) m | none => False) := rfl
theorem appendD_r {v : D} (h : m a = some (.lst xs)) : appendD (.ref a) [v] m q = (xs.length < sizeLine ∧ q .non (m.set a (.lst (xs ++ [v])))) := by
  unfold appendD
  dsimp only
  rw [h]
  simp
theorem setD_r {v : D} {k : Nat} {q : Mem → Prop} (h : m a = some (.lst xs)) (hk : ixN xs.length i = some k) : setD (.ref a) (.int i) v m q = q (m.set a (.lst (xs.set k v))) := by
  unfold setD
  dsimp only
  rw [h]
  dsimp only
  rw [hk]
def isA (d : D) (m : Mem) (T : String) : Option Bool := match tyS m d with | some a => isaB a T | none => none
theorem isi_some {T : String} {c : Bool} (h : isA d m T = some c) : isiD [d, .ty T] m q = q (.bl c) m := by
  unfold isA at h
  unfold isiD
  dsimp only
  cases e : tyS m d with
  | none => rw [e] at h; cases h
  | some s =>
    rw [e] at h
    dsimp only at h ⊢
    rw [h]
theorem isi_int_int : isiD [.int i, .ty "int"] m q = q (.bl true) m := rfl
theorem isi_int_bool : isiD [.int i, .ty "bool"] m q = q (.bl false) m := rfl
theorem isi_int_tuple : isiD [.int i, .ty "tuple"] m q = q (.bl false) m := rfl
theorem isi_tup_tuple : isiD [.tup xs, .ty "tuple"] m q = q (.bl true) m := rfl
theorem isi_ftup_tuple : isiD [.ftup xs, .ty "tuple"] m q = q (.bl true) m := rfl
theorem isi_tup_list : isiD [.tup xs, .ty "list"] m q = q (.bl false) m := rfl
theorem isi_tup_int : isiD [.tup xs, .ty "int"] m q = q (.bl false) m := rfl
theorem truD_b {c : Bool} : truD (.bl c) m = some c := rfl
theorem truD_t : truD (.tup xs) m = some (!xs.isEmpty) := rfl
theorem gTp_t {n : Nat} {t : DTGs} {ρ : DEnv} {q : DEnv → Mem → Prop} : gTp n t (.tup xs) ρ m q = (xs.length = n ∧ t xs ρ m q) := rfl
theorem gCn_c {t : DTG} {u : DTGs} {ρ : DEnv} {q : DEnv → Mem → Prop} : gCn t u (d :: ds) ρ m q = t d ρ m fun ρ' m' => u ds ρ' m' q := rfl
theorem gNl_n {ρ : DEnv} {q : DEnv → Mem → Prop} : gNl [] ρ m q = q ρ m := rfl
end
end L2.Lh

/-! instances, tuple.index -/
namespace L2.Lh
open PySem PySem.Spec PyProof.Rows

/-! ### t.index(k) that finds k -/
def tixD : DR2 := fun x y m q => match x, y with
  | .ftup xs, .int k => match intsOf xs with
    | some ns => k ∈ ns ∧ q (.int (ns.idxOf k : Nat)) m
    | none => False
  | _, _ => False
def isF : D → Prop
  | .ftup _ => True
  | _ => False
def dTix (to te : DTE) : DTE := fun ρ m q => to ρ m fun x m1 => isF x ∧ te ρ m1 fun y m2 => tixD x y m2 q
section
variable {X : Cx} {B : Bs} {o e : Expr} {es : List Expr} {to te : DTE} {t : DTA} {apos cpos pos : Pos}
theorem tixD_t {ns : List Int} {k : Int} {m : Mem} {q : DQ} : tixD (.ftup (ns.map D.int)) (.int k) m q = (k ∈ ns ∧ q (.int (ns.idxOf k : Nat)) m) := by
  unfold tixD
  dsimp only
  rw [intsOf_map]
theorem frz_tup {P : Program} {w : World} {H : Hp} {h : Heap} {a : Addr} {ob : Obj} {vs : List V} (hok : HOk P w H h) (e : H a = some (.frz ob (.tup vs))) : h.get? a = some ob ∧ ∃ its : List Value, Vals vs its ∧ IsTup h a its.toArray ∧ vs.length ≤ sizeLine := by
  obtain ⟨h1, hz, its, rv, ht⟩ := hok a _ e
  exact ⟨h1, its, rv, ht, hz⟩
theorem de_tix (ho : DE B X o to) (he : DE B X e te) (hbase : attributeBase o "index" X.env (eval o X.env) = eval o X.env := by rfl)
    (hfew : ((backTo cpos (starEach [e] X.env)).all (fun x => !x.1) && (backToKw cpos (keywordEach [] X.env)).all (fun x => x.1.isSome)
      && decide (([e] : List Expr).length + ([] : List Keyword).length + (if ([] : List Keyword).isEmpty then 0 else 1) < 30)) = true := by rfl)
    (hline : (apos.endLine == cpos.line) = true := by rfl) (hs : starEach [e] X.env = (false, eval e X.env) :: starEach [] X.env := by rfl) (hplain : (backTo cpos (starEach [] X.env)).any (·.1) = false := by rfl) :
    DE B X (.Call (.Attribute o "index" apos) [e] [] cpos) (dTix to te) := by
  refine ⟨fun pins s σ H Q I ⟨ρ, m, q, p, h, post⟩ => ?_⟩
  refine wpAny_Call_method_late hbase hfew hline rfl (thn (ho.run pins s σ H (fun v H1 => ∃ x m1, Rep X.K H1 x v ∧ Sim X.K H1 m1 ∧ Step H m H1 m1 ∧ isF x ∧ te ρ m1 fun y m2 => tixD x y m2 q) I ⟨ρ, m, _, p, h, fun x m1 v H1 h1 r1 s1 t1 => ⟨x, m1, r1, s1, t1, h1⟩⟩) fun v s1 ⟨vx, H1, I1, rv, x, m1, rx, sm1, t1, hf, h1⟩ => ?_)
  cases rx with
  | @ftup a ob vs xs hz nz rs =>
    cases (show v = Value.ref a from rv)
    obtain ⟨hob, its, rvs, htup, hlen⟩ := frz_tup I1.hok hz
    have hty : s1.heap.IsTuple a its.toArray := htup
    refine ⟨"tuple", _, PySem.F.plainAttrs_tuple, PySem.F.slot_tuple_index, PySem.F.type_tuple_index, (by obtain ⟨o', g1, g2, _⟩ := hty; exact ⟨o', g1, g2⟩), (fun b hb => by cases hb; exact ⟨ob, hob, nz⟩), ?_⟩
    rw [hs]
    refine Calls.callWith_builtin (by show (false || (backTo cpos (starEach [] X.env)).any (·.1)) = false; rw [hplain] <;> rfl) (Calls.evalArgs_plain ?_)
    show wpAny _ _ (spliced ((false, eval e X.env) :: backTo cpos (starEach [] X.env))) _ _ s1
    refine Calls.spliced_cons (thn (he.run pins s1 σ H1 (fun u H2 => ∃ y m2, Rep X.K H2 y u ∧ Sim X.K H2 m2 ∧ Step H1 m1 H2 m2 ∧ tixD (.ftup xs) y m2 q) I1 ⟨ρ, m1, _, p.next sm1 t1, h1, fun y m2 u H2 h2 r2 s2 t2 => ⟨y, m2, r2, s2, t2, h2⟩⟩) fun u s2 ⟨vy, H2, I2, ru, y, m2, ry, sm2, t2, h2⟩ => ?_)
    refine Calls.spliced_nil ?_
    unfold tixD at h2
    cases y with
    | int k =>
      dsimp only at h2
      split at h2
      · rename_i ns en
        have e1 := intsOf_ok en
        subst e1
        have rs2 := reps_ints rs
        subst rs2
        cases ry
        obtain ⟨tk, rfl⟩ := (show ∃ t, u = Value.int k t from ru)
        obtain ⟨_, its2, rv2, htup2, _⟩ := frz_tup I2.hok (t2.ext.frz _ _ _ hz)
        exact PySem.SeqAt.tuple_index_ints (show s2.heap.IsTuple a its2.toArray from htup2) rv2.ints h2.1 ⟨.int _, H2, I2.tok _, ⟨_, rfl⟩, post _ m2 _ H2 h2.2 (.int _) sm2 (t1.trans t2)⟩
      · exact h2.elim
    | _ => exact (show False from h2).elim
  | _ => exact (show False from hf).elim
/-- tuple of a list just made: its very object is known -/
theorem n_ftuple : CallN X (.type "tuple") (fun ds m q => q (.ftup ds) m) := by
  intro pins s σ H xs us Q I r ⟨a, ds, vs, m, q, e, ha, rs, hn, sim, h, post⟩
  subst e
  rw [Vals.ref1 r]
  obtain ⟨its, rv, pl, hz⟩ := I.list (SqL.of ha)
  refine call_tuple_list pl.isList (fun h' hk => ?_) (by rw [List.size_toArray, ← rv.length]; exact hz)
  have I1 : Inv X pins σ H { s with heap := h' } := I.kept (t' := s.toks) hk
  have nw : H h'.objs.size = none := I1.hok.fresh (Nat.le_refl _)
  have I2 : Inv X pins σ (upd H h'.objs.size (.frz { cls := .type "tuple", data := .seq its.toArray } (.tup vs))) { s with heap := h'.push { cls := .type "tuple", data := .seq its.toArray } } :=
    I1.laid (t' := s.toks) (fun b o e => Heap.get?_push_of_some _ e) (Nat.le_refl _) (show ObjOk X.prog X.w _ _ _ (.frz _ (.tup vs)) from ⟨Heap.get?_push_size _ rfl, hz, its, rv, IsTup.new _ _⟩)
  exact ⟨.ref h'.objs.size, _, I2, rfl, post (.ftup ds) m _ _ h (.ftup upd_same rfl (rs.mono (upd_new nw))) (sim.alloc nw) (Step.alloc nw)⟩
end
/-! ### instances -/
def putFD (f : Str) (v : D) : List (Str × D) → List (Str × D)
  | [] => [(f, v)]
  | (g, x) :: r => if g = f then (g, v) :: r else (g, x) :: putFD f v r
theorem RepF.put {K : PySem.W.Frag} {H : Hp} {f : Str} {d : D} {v : V} (r : Rep K H d v) : ∀ {fs : List (Str × D)} {fv : List (Str × V)}, RepF K H fs fv → RepF K H (putFD f d fs) (putF f v fv)
  | _, _, .nil => .cons ⟨rfl, r⟩ .nil
  | (g, x) :: fs, (g', x') :: fv, .cons ⟨e, q⟩ rest => by
    have e : g = g' := e
    subst e
    unfold putFD putF
    by_cases z : g = f
    · rw [if_pos z, if_pos z]; exact .cons ⟨rfl, r⟩ rest
    · rw [if_neg z, if_neg z]; exact .cons ⟨rfl, q⟩ (RepF.put r rest)
theorem RepF.look {K : PySem.W.Frag} {H : Hp} {f : Str} : ∀ {fs : List (Str × D)} {fv : List (Str × V)} {d : D}, RepF K H fs fv → fs.lookup f = some d → ∃ v, fv.lookup f = some v ∧ Rep K H d v
  | _, _, _, .nil, e => by cases e
  | (g, x) :: fs, (g', x') :: fv, d, .cons ⟨eg, q⟩ rest, e => by
    have eg : g = g' := eg
    subst eg
    rw [List.lookup_cons] at e ⊢
    cases z : (f == g) with
    | true => rw [z] at e; cases e; exact ⟨x', rfl, q⟩
    | false => rw [z] at e; exact RepF.look rest e
theorem RepF.lookN {K : PySem.W.Frag} {H : Hp} {f : Str} : ∀ {fs : List (Str × D)} {fv : List (Str × V)}, RepF K H fs fv → fs.lookup f = none → fv.lookup f = none
  | _, _, .nil, e => rfl
  | (g, x) :: fs, (g', x') :: fv, .cons ⟨eg, q⟩ rest, e => by
    have eg : g = g' := eg
    subst eg
    rw [List.lookup_cons] at e ⊢
    cases z : (f == g) with
    | true => rw [z] at e; cases e
    | false => rw [z] at e; exact RepF.lookN rest e
theorem RepF.len {K : PySem.W.Frag} {H : Hp} {fs : List (Str × D)} {fv : List (Str × V)} (r : RepF K H fs fv) : fs.length = fv.length := Paired.length r
/-- e.f -/
def dFld (C : Addr) (f : Str) (to : DTE) : DTE := fun ρ m q => to ρ m fun x m1 => ∃ a fs d, x = .ref a ∧ m1 a = some (.ins C fs) ∧ fs.lookup f = some d ∧ q d m1
/-- e.f = v -/
def dSetF (C : Addr) (f : Str) (te to : DTE) : DTS := fun E ρ m => te ρ m fun y m1 => to ρ m1 fun x m2 => ∃ a fs, x = .ref a ∧ m2 a = some (.ins C fs) ∧ fs.length < 1000 ∧ E.nx ρ (m2.set a (.ins C (putFD f y fs)))
section
variable {X : Cx} {B : Bs} {o e value : Expr} {es : List Expr} {to te : DTE} {t : DTA} {f : Str} {apos cpos pos pos' : Pos} {C : Addr}
theorem de_fld (c : Cls X.K C) (n : NoAttr X.K C f) (he : DE B X o to) (hb : attributeBase o f X.env (eval o X.env) = eval o X.env := by rfl) : DE B X (.Attribute o f pos) (dFld C f to) :=
  pe_imp (pe_fld he hb) fun σ H Q ⟨ρ, m, q, p, h, post⟩ => ⟨ρ, m, _, p, h, fun x m1 v H1 ⟨a, fs, d, ex, ea, el, hq⟩ r1 s1 t1 => by
    subst ex
    cases r1
    obtain ⟨dx, fv, e1, rf⟩ := s1 a _ ea
    obtain ⟨w, hw, rw'⟩ := rf.look el
    exact ⟨a, C, dx, fv, w, rfl, e1, c, n, hw, post d m1 w H1 hq rw' s1 t1⟩⟩
theorem ds_fld (c : Cls X.K C) (n : NoAttr X.K C f) (ha : DE B X o to) (hv : DE B X value te) (hs : swapsWith value (some (.Attribute o f pos')) pos.line X.env = pure false := by rfl) : DS B X (.Assign [.Attribute o f pos'] value pos) (dSetF C f te to) :=
  ps_imp (ps_fld ha hv hs) fun F σ H ⟨ρ, m, E, p, h, ok⟩ => ⟨ρ, m, _, p, h, fun y m1 v H1 h1 r1 s1 t1 => ⟨ρ, m1, _, p.next s1 t1, h1, fun x m2 u H2 ⟨a, fs, ex, ea, hl, hn⟩ r2 s2 t2 => by
    subst ex
    cases r2
    obtain ⟨dx, fv, e1, rf⟩ := s2 a _ ea
    have r1' := r1.mono t2.ext
    refine ⟨a, C, dx, fv, rfl, e1, c, n, by rw [← rf.len]; exact hl, ?_⟩
    have st : Step H2 m2 (upd H2 a (.ins C dx (putF f v fv))) (m2.set a (.ins C (putFD f y fs))) := Step.write s2 ea
    exact ok.nx ρ _ σ _ hn ((p.env.mono ((t1.trans t2).ext)).mono st.ext) (s2.write ea ⟨dx, _, upd_same, (rf.put r1').mono (upd_old s2 ea)⟩) ((t1.trans t2).trans st)⟩⟩
end
/-- o.m(..) -/
def dMeth (C : Addr) (mn : Str) (sp : DSp) (we : DWX) (to : DTE) (t : DTA) : DTE := fun ρ m q => to ρ m fun x m1 => ∃ a fs, x = .ref a ∧ m1 a = some (.ins C fs) ∧ fs.lookup mn = none ∧ t ρ m1 fun ds m2 => sp (x :: ds) m2 q fun cls m3 => we cls ρ m3
/-- a method of the text as it is called -/
structure MethAt (P : Program) (w : World) (K : PySem.W.Frag) (mg : Str → Option Value) (base : Heap) (k : Nat) (C : Addr) (mn : Str) (ps : List Str) (sp : DSp) where
  f : Addr
  fd : FuncData
  ok : FnD P w K mg base k f fd ps sp
  me : Meth K C mn f
  b : Binds K fd ps []
section
variable {X : Cx} {B : Bs} {o e : Expr} {es : List Expr} {to : DTE} {t : DTA} {sp : DSp} {we : DWX} {mn : Str} {apos pos : Pos} {C : Addr} {k : Nat} {ps : List Str}
theorem meth_run {fa : Addr} {fd : FuncData} {pins : List (Addr × Obj)} {σ : St} {H : Hp} {s : Shared} {Q : VK} {us : List Value} {vs : List V} (F : FnD X.prog X.w X.K X.mg X.base k fa fd ps sp) (hr : Room k X.A) (b : Binds X.K fd ps []) (tk : Takes X (upW X.K B we)) (I : Inv X pins σ H s) (r : Vals vs us)
    (h : upSp X.K sp vs H Q (WE (upW X.K B we) σ)) : wpAny (model X.prog X.w) X.A (call (.ref fa) us) (EP X pins σ Q) X.xe s := by
  have hl : us.length = ps.length := by rw [← r.length]; exact F.len _ _ _ _ h
  have bb := b s us I.kIn (by rw [List.append_nil]; exact hl)
  rw [List.append_nil] at bb
  exact runs_D F hr _ pins σ H s Q ⟨us, []⟩ us vs I (passAt tk σ) bb r h
theorem de_meth {pl : Sem Bool} (d : MethAt X.prog X.w X.K X.mg X.base k C mn ps sp) (c : Cls X.K C) (hr : Room k X.A) (tk : Takes X (upW X.K B we)) (he : DE B X o to) (ha : DA B X (e :: es) t)
    (hst : starEach (e :: es) X.env = (false, eval e X.env) :: starEach es X.env := by rfl) (hpl : (backTo pos (starEach es X.env)).any (·.1) = false := by rfl)
    (ht : eval (.Call (.Attribute o mn apos) (e :: es) [] pos) X.env = (do
      let ov ← eval o X.env
      standAt apos.atName
      let (f, first) ← holding [ov] (getMethod ov mn pl)
      callWith pos f first (backTo pos (starEach (e :: es) X.env)) (backToKw pos (keywordEach [] X.env))) := by rfl) :
    DE B X (.Call (.Attribute o mn apos) (e :: es) [] pos) (dMeth C mn sp we to t) := by
  refine ⟨fun pins s σ H Q I ⟨ρ, m, q, p, h, post⟩ => ?_⟩
  refine PySem.W.methodCall_KW (pl := pl) (thn (he.run pins s σ H (fun v H1 => ∃ a m1 dx fv fs, v = .ref a ∧ H1 a = some (.ins C dx fv) ∧ fv.lookup mn = none ∧ m1 a = some (.ins C fs) ∧ Sim X.K H1 m1 ∧ Step H m H1 m1 ∧ t ρ m1 fun ds m2 => sp (.ref a :: ds) m2 q fun cls m3 => we cls ρ m3) I ⟨ρ, m, _, p, h, fun x m1 v H1 ⟨a, fs, ex, ea, el, h1⟩ r1 s1 t1 => by
    subst ex
    cases r1
    obtain ⟨dx, fv, e1, rf⟩ := s1 a _ ea
    exact ⟨a, m1, dx, fv, fs, rfl, e1, rf.lookN el, ea, s1, t1, h1⟩⟩) fun v s1 ⟨vx, H1, I1, rv, a, m1, dx, fv, fs, ev, e1, ln, ea, sm1, t1, h1⟩ => ?_) ht
  subst ev
  cases (show v = Value.ref a from rv)
  refine getmeth_ok I1 e1 c d.me ln ?_
  refine PySem.W.callWith_K (first := [.ref a]) (h₀ := X.base) I.ok.mod.kin d.me.kp (thn (ha.run pos pins s1 σ H1 (fun vs H2 => upSp X.K sp (.ref a :: vs) H2 Q (WE (upW X.K B we) σ)) I1 ⟨ρ, m1, _, p.next sm1 t1, h1, fun ds m2 vs H2 h2 r2 s2 t2 =>
    ⟨.ref a :: ds, m2, q, _, .cons (.ref a) r2, s2, h2, fun d3 m3 v3 H3 h3 r3 s3 t3 => post d3 m3 v3 H3 h3 r3 s3 (t1.trans (t2.trans t3)), fun cls m3 H3 hq s3 t3 => ⟨cls, ⟨rfl, rfl⟩, ρ, m3, p.next s3 (t1.trans (t2.trans t3)), hq⟩⟩⟩) fun us s2 ⟨vs, H2, I2, r, q2⟩ => ⟨I2.kIn, ?_⟩) hst hpl
  exact meth_run (us := .ref a :: us) (vs := .ref a :: vs) d.ok hr d.b tk I2 (.cons rfl r) q2
end
/-- C(..) -/
def dMake (C : Addr) (sp : DSp) (we : DWX) (t : DTA) : DTE := fun ρ m q => t ρ m fun ds m1 => ∀ a, m1 a = none → sp (.ref a :: ds) (m1.set a (.ins C [])) (fun d m2 => d = .non ∧ q (.ref a) m2) fun cls m3 => we cls ρ m3
section
variable {X : Cx} {B : Bs} {e : Expr} {es : List Expr} {t : DTA} {sp : DSp} {qe : Value → Mem → Prop} {x : Str} {p pos : Pos} {C : Addr} {k : Nat} {ps : List Str}
/-- what is asked of an error, whatever stands in the slots -/
def upE0 (K : PySem.W.Frag) (B : Bs) (qe : Value → Mem → Prop) : XK := fun cls d H => ∃ c, (cls = xvC c ∧ d = xvD c) ∧ ∃ m, Sim K H m ∧ Step B.H B.m H m ∧ qe c m
theorem passes0 (tk : Takes X (upW X.K B fun cls _ m => qe cls m)) : Passes (L2.CX X.prog X.w) X (upE0 X.K B qe) := fun pins σ H s e s' I c =>
  tk e s' (XE.of_call I (fun cls d H' ⟨c0, e1, m', s1, st, hq⟩ => ⟨c0, e1, σ.map fun _ => none, m', ⟨(by
    clear hq st s1 e1 c I
    induction σ with
    | nil => exact .nil
    | cons v σ ih => exact .cons trivial ih), s1, st⟩, hq⟩) c)
theorem de_make {f : Addr} {fd : FuncData} (M : Mk X.K C f) (F : FnD X.prog X.w X.K X.mg X.base k f fd ps sp) (b : Binds X.K fd ps []) (hr : Room (k + 1) X.A) (hg : Gl X x) (hm : X.mg x = some (.ref C)) (tk : Takes X (upW X.K B fun cls _ m => qe cls m)) (ha : DA B X (e :: es) t)
    (hdb : (x == ("__debug__" : Str)) = false := by decide) (he : starEach (e :: es) X.env = (false, eval e X.env) :: starEach es X.env := by rfl) (hpl : (backTo pos (starEach es X.env)).any (·.1) = false := by rfl) :
    DE B X (.Call (.Name x p) (e :: es) [] pos) (dMake C sp (fun cls _ m => qe cls m) t) :=
  pe_imp (pe_make (dvs := []) M F hr hg hm b .nil (passes0 tk) ha hdb he hpl) fun σ H Q ⟨ρ, m, q, pr, h, post⟩ => ⟨ρ, m, _, pr, h, fun ds m1 vs H1 h1 r1 s1 t1 a dx na nd hne => by
    rw [List.append_nil]
    have n2 : upd H1 dx (.own a) a = none := by rw [upd_ne hne.symm]; exact na
    have st : Step H1 m1 (upd (upd H1 dx (.own a)) a (.ins C dx [])) (m1.set a (.ins C [])) := (Step.alloc nd).trans (Step.allocM n2)
    refine ⟨.ref a :: ds, m1.set a (.ins C []), _, _, .cons (.ref a) ((r1.mono (upd_new nd)).mono (upd_new n2)), (s1.alloc nd).allocM n2 ⟨dx, [], upd_same, .nil⟩, h1 a (s1.free na), fun d3 m3 v3 H3 ⟨e3, h3⟩ r3 s3 t3 => ?_, fun cls m3 H3 hq s3 t3 => ⟨cls, ⟨rfl, rfl⟩, m3, s3, (pr.st.trans t1).trans (st.trans t3), hq⟩⟩
    subst e3
    cases r3
    exact ⟨rfl, post _ m3 _ H3 h3 (.ref a) s3 (t1.trans (st.trans t3))⟩⟩
end
end L2.Lh

/-! tuples whose very object is known; what the memory holds, by grind -/
namespace L2.Lh
open PySem PySem.Spec PyProof.Rows
section
variable {X : Cx} {B : Bs}
/-- tuple(range(n)) -/
def dTupRgF (ta : DTE) : DTE := fun ρ m q => dRg1 ta (fun ds m' => q (.ftup ds) m') ρ m
/-- tuple(xs) of a list -/
def ftupleD : DRC
  | [.ftup xs], m, q => q (.ftup xs) m
  | [.ref a], m, q => match m a with
    | some (.lst xs) => q (.ftup xs) m
    | _ => False
  | _, _, _ => False
theorem ftupleD_f {xs : List D} {m : Mem} {q : DQ} : ftupleD [.ftup xs] m q = q (.ftup xs) m := rfl
end
end L2.Lh

/-! dicts: keys that are ints and texts (dK), keys that are tuples, nested (dN) -/
namespace L2.Lh
open PySem PySem.Spec PyProof.Rows

/-! ### association lists -/
section
variable {κ β : Type} [DecidableEq κ]
def valG (kvs : List (κ × β)) (k : κ) : Option β := (kvs.find? fun kv => decide (kv.1 = k)).map (·.2)
def putG (kvs : List (κ × β)) (k : κ) (v : β) : List (κ × β) :=
  if (valG kvs k).isSome then kvs.map (fun kv => if kv.1 = k then (kv.1, v) else kv) else kvs ++ [(k, v)]
theorem valG_cons (p : κ × β) (r : List (κ × β)) (k : κ) : valG (p :: r) k = if p.1 = k then some p.2 else valG r k := by
  unfold valG
  by_cases h : p.1 = k <;> simp [List.find?_cons, h]
end

/-! ### keys -/
theorem isTup_at {h : Heap} {a : Addr} {vs : Array Value} (t : IsTup h a vs) : ∃ o, h.get? a = some o ∧ o.cls = .type "tuple" ∧ ∃ n, o.data = .seq vs n := t
mutual
theorem nested_of {P : Program} {w : World} {K : PySem.W.Frag} {H : Hp} {h : Heap} (hok : HOk P w H h) : ∀ {d : D} {v : V} {u : Value} {k : NestedKey}, Rep K H d v → keyN d = some k → RelV v u → NestedIs h k u
  | _, _, _, _, .non, e, r => by cases e; cases r; exact .none
  | _, _, _, _, .bl b, e, r => by cases e
  | _, _, _, _, .int i, e, r => by cases e; obtain ⟨t, rfl⟩ := r; exact .int i t
  | _, _, _, _, .str x, e, r => by cases e
  | _, _, _, _, .ty x, e, r => by cases e
  | _, _, _, _, .ref x, e, r => by cases e
  | _, _, _, _, .rol _ _, e, r => by cases e
  | .tup xs, _, _, _, .tup (a := a) (vs := vs) g rs, e, r => by
    cases r
    rw [keyN] at e
    cases q : keyNs xs with
    | none => rw [q] at e; cases e
    | some ks =>
      rw [q] at e; cases e
      obtain ⟨_, its, rv, t⟩ := hok a _ g
      obtain ⟨o, e1, e2, n, e3⟩ := isTup_at t
      exact .tup e1 e2 e3 (by simpa using nesteds_of hok rs q rv)
  | .ftup xs, _, _, _, .ftup (a := a) (vs := vs) g _ rs, e, r => by
    cases r
    rw [keyN] at e
    cases q : keyNs xs with
    | none => rw [q] at e; cases e
    | some ks =>
      rw [q] at e; cases e
      obtain ⟨_, _, its, rv, t⟩ := hok a _ g
      obtain ⟨o, e1, e2, n, e3⟩ := isTup_at t
      exact .tup e1 e2 e3 (by simpa using nesteds_of hok rs q rv)
theorem nesteds_of {P : Program} {w : World} {K : PySem.W.Frag} {H : Hp} {h : Heap} (hok : HOk P w H h) : ∀ {ds : List D} {vs : List V} {us : List Value} {ks : List NestedKey}, Reps K H ds vs → keyNs ds = some ks → Vals vs us → NestedAll h ks us
  | _, _, _, _, .nil, e, r => by cases e; cases r; exact .nil
  | d :: ds, _, _, _, .cons g rs, e, r => by
    rw [keyNs] at e
    cases q1 : keyN d with
    | none => rw [q1] at e; cases e
    | some k =>
      cases q2 : keyNs ds with
      | none => rw [q1, q2] at e; cases e
      | some ks =>
        rw [q1, q2] at e; cases e
        cases r with
        | cons r1 r2 => exact .cons (nested_of hok g q1 r1) (nesteds_of hok rs q2 r2)
end
mutual
theorem hash_any : ∀ {d : D} {k : NestedKey}, keyN d = some k → ∀ w w' : World, k.hash w = k.hash w'
  | .non, _, e, w, w' => by cases e; rfl
  | .int i, _, e, w, w' => by cases e; rfl
  | .bl _, _, e, _, _ => by cases e
  | .str _, _, e, _, _ => by cases e
  | .ty _, _, e, _, _ => by cases e
  | .ref _, _, e, _, _ => by cases e
  | .rol _, _, e, _, _ => by cases e
  | .tup xs, _, e, w, w' => by
    rw [keyN] at e
    cases q : keyNs xs with
    | none => rw [q] at e; cases e
    | some ks => rw [q] at e; cases e; rw [NestedKey.hash, NestedKey.hash, hashes_any q w w']
  | .ftup xs, _, e, w, w' => by
    rw [keyN] at e
    cases q : keyNs xs with
    | none => rw [q] at e; cases e
    | some ks => rw [q] at e; cases e; rw [NestedKey.hash, NestedKey.hash, hashes_any q w w']
theorem hashes_any : ∀ {ds : List D} {ks : List NestedKey}, keyNs ds = some ks → ∀ w w' : World, NestedKey.hashes w ks = NestedKey.hashes w' ks
  | [], _, e, w, w' => by cases e; rfl
  | d :: ds, _, e, w, w' => by
    rw [keyNs] at e
    cases q1 : keyN d with
    | none => rw [q1] at e; cases e
    | some k =>
      cases q2 : keyNs ds with
      | none => rw [q1, q2] at e; cases e
      | some ks => rw [q1, q2] at e; cases e; rw [NestedKey.hashes, NestedKey.hashes, hash_any q1 w w', hashes_any q2 w w']
end
theorem KeyRep.is {P : Program} {w : World} {K : PySem.W.Frag} {H : Hp} {h : Heap} (hok : HOk P w H h) {k : NestedKey} {a : Addr} (r : KeyRep K H k a) : (nestedKind P w).is h k a :=
  let ⟨_, rd, e, z⟩ := r; ⟨nested_of hok rd e rfl, z⟩
theorem KeyRep.hash {K : PySem.W.Frag} {H : Hp} {k : NestedKey} {a : Addr} (r : KeyRep K H k a) (w w' : World) : k.hash w = k.hash w' := let ⟨_, _, e, _⟩ := r; hash_any e w w'
/-- a dict of tuple keys as it stands -/
theorem RawN.dict {P : Program} {w : World} {K : PySem.W.Frag} {H : Hp} {h : Heap} (hok : HOk P w H h) {a : Addr} {kvs : List (NestedKey × D)} {es : Array DictEntry} {ep : Nat} {xs : List (NestedKey × Addr × Value)} (e : H a = some (.ext (rawIs a es ep))) (r : RawN K H a kvs es ep xs) :
    h.DictOfH (nestedKind P w) a xs := by
  obtain ⟨⟨o, h1, h2, h3⟩, _, _⟩ := hok a _ e
  refine ⟨o, es, ep, h1, h2, h3, r.ent P w, fun x hx => ?_, r.nd⟩
  have : ∀ {kvs : List (NestedKey × D)} {xs : List (NestedKey × Addr × Value)}, RepN K H kvs xs → ∀ x ∈ xs, KeyRep K H x.1 x.2.1 := by
    intro kvs xs r
    induction r with
    | nil => intro x hx; cases hx
    | cons q _ ih =>
      intro x hx
      rcases List.mem_cons.mp hx with e | hx
      · subst e; exact q.2.1
      · exact ih x hx
  exact (this r.rel x hx).is hok
theorem RepN.val {K : PySem.W.Frag} {H : Hp} {kvs : List (NestedKey × D)} {xs : List (NestedKey × Addr × Value)} (r : RepN K H kvs xs) (k : NestedKey) :
    (valG kvs k = none ∧ atKey xs k = none) ∨ ∃ d v p, valG kvs k = some d ∧ atKey xs k = some p ∧ Rep K H d v ∧ RelV v p.2 := by
  induction r with
  | nil => exact .inl ⟨rfl, rfl⟩
  | @cons p x ps xs q _ ih =>
    rw [valG_cons]
    unfold atKey at ih ⊢
    rw [List.find?_cons]
    by_cases h : p.1 = k
    · have h' : x.1 = k := q.1.symm.trans h
      obtain ⟨_, _, v, rd, rv⟩ := q
      rw [if_pos h, decide_eq_true h']
      exact .inr ⟨_, v, x.2, rfl, rfl, rd, rv⟩
    · have h' : ¬ x.1 = k := fun e => h (q.1.trans e)
      rw [if_neg h, decide_eq_false h']
      exact ih
theorem RepN.len {K : PySem.W.Frag} {H : Hp} {kvs : List (NestedKey × D)} {xs : List (NestedKey × Addr × Value)} (r : RepN K H kvs xs) : kvs.length = xs.length := Paired.length r
theorem RepN.app {K : PySem.W.Frag} {H : Hp} {kvs ks : List (NestedKey × D)} {xs ys : List (NestedKey × Addr × Value)} (r : RepN K H kvs xs) (s : RepN K H ks ys) : RepN K H (kvs ++ ks) (xs ++ ys) := by
  induction r with
  | nil => exact s
  | cons q _ ih => exact .cons q ih
theorem RepN.put {K : PySem.W.Frag} {H : Hp} {kvs : List (NestedKey × D)} {xs : List (NestedKey × Addr × Value)} (r : RepN K H kvs xs) {k : NestedKey} {b : Addr} {d : D} {v : V} {u : Value} (hk : KeyRep K H k b) (rd : Rep K H d v) (rv : RelV v u) :
    RepN K H (putG kvs k d) (storedH xs k b u) := by
  unfold putG storedH
  have hs : (valG kvs k).isSome = (atKey xs k).isSome := by
    rcases r.val k with ⟨e1, e2⟩ | ⟨_, _, _, e1, e2, _⟩ <;> rw [e1, e2] <;> rfl
  rw [hs]
  cases (atKey xs k).isSome with
  | false => exact r.app (.cons ⟨rfl, hk, v, rd, rv⟩ .nil)
  | true =>
    clear hs
    simp only [if_true]
    induction r with
    | nil => exact .nil
    | @cons p x ps xs q _ ih =>
      rw [List.map_cons, List.map_cons]
      refine .cons ?_ ih
      unfold putAt
      by_cases h : p.1 = k
      · have h' : x.1 = k := q.1.symm.trans h
        rw [if_pos h, if_pos h']
        exact ⟨q.1, q.2.1, v, rd, rv⟩
      · have h' : ¬ x.1 = k := fun e => h (q.1.trans e)
        rw [if_neg h, if_neg h']
        exact q
theorem storedH_len (xs : List (NestedKey × Addr × Value)) (k : NestedKey) (b : Addr) (u : Value) : (storedH xs k b u).length ≤ xs.length + 1 := by
  unfold storedH; split
  · rw [List.length_map]; omega
  · rw [List.length_append]; simp
theorem RepN.keys {K : PySem.W.Frag} {H : Hp} {kvs : List (NestedKey × D)} {xs : List (NestedKey × Addr × Value)} (r : RepN K H kvs xs) : ∀ x ∈ xs, KeyRep K H x.1 x.2.1 := by
  induction r with
  | nil => intro x hx; cases hx
  | cons q _ ih =>
    intro x hx
    rcases List.mem_cons.mp hx with e | hx
    · subst e; exact q.2.1
    · exact ih x hx
/-- a store -/
theorem RawN.stored {P : Program} {w : World} {K : PySem.W.Frag} {H : Hp} {a : Addr} {kvs : List (NestedKey × D)} {es : Array DictEntry} {ep : Nat} {xs : List (NestedKey × Addr × Value)} (r : RawN K H a kvs es ep xs) (hz : kvs.length < sizeLine) {k : NestedKey} {b : Addr} {d : D} {v : V} {u : Value} (hk : KeyRep K H k b) (rd : Rep K H d v) (rv : RelV v u)
    {h' : Heap} (hm : h'.DictOfH (nestedKind P w) a (storedH xs k b u)) : ∃ es' ep', rawIs a es' ep' h' ∧ RawN K H a (putG kvs k d) es' ep' (storedH xs k b u) := by
  obtain ⟨o, es', ep', h1, h2, h3, h4, _, h6⟩ := hm
  have rp := r.rel.put hk rd rv
  refine ⟨es', ep', ⟨o, h1, h2, h3⟩, fun P' w' => ?_, h6, ?_, r.sys, rp⟩
  · rw [h4]
    refine List.map_congr_left fun x hx => ?_
    unfold entryOfKey
    have : (nestedKind P w).hash x.1 = (nestedKind P' w').hash x.1 := (rp.keys x hx).hash w w'
    rw [this]
  · have := storedH_len xs k b u
    have := r.rel.len
    omega
section
variable {X : Cx} {pins : List (Addr × Obj)} {σ : St} {H : Hp} {s : Shared} {a b : Addr}
theorem ext_new {P : Program} {w : World} {H : Hp} {h : Heap} {a : Addr} {es : Array DictEntry} {ep : Nat} (r : rawIs a es ep h) : ObjOk P w H h a (.ext (rawIs a es ep)) :=
  ⟨r, (let ⟨o, e, _⟩ := r; ⟨o, e⟩), fun h1 h2 ⟨o, e, q⟩ k => ⟨o, k o e, q⟩⟩
theorem roomN {A : Around} (hu : A.units + 64 < cLine) {P : Program} {w : World} : (nestedKind P w).room A.in1 := by
  show A.units + 1 + 8 < cLine
  omega
end

/-! ### what is read and stored -/
def keyK : D → Option Key
  | .int i => some (.inl i)
  | .str x => some (.inr x)
  | _ => none
theorem keyK_rep {K : PySem.W.Frag} {H : Hp} {d : D} {v : V} {k : Key} (r : Rep K H d v) (e : keyK d = some k) : v = kV k := by
  cases r <;> cases e <;> rfl
theorem RepK.val {K : PySem.W.Frag} {H : Hp} {kvs : List (Key × D)} {kv : List (Key × V)} (r : RepK K H kvs kv) (k : Key) : (valG kvs k = none ∧ valV kv k = none) ∨ ∃ d v, valG kvs k = some d ∧ valV kv k = some v ∧ Rep K H d v := by
  induction r with
  | nil => exact .inl ⟨rfl, rfl⟩
  | @cons p x ps xs q _ ih =>
    rw [valG_cons]
    by_cases h : p.1 = k
    · have h' : x.1 = k := q.1.symm.trans h
      rw [if_pos h, valV_pos h']
      exact .inr ⟨_, _, rfl, rfl, q.2⟩
    · have h' : ¬ x.1 = k := fun e => h (q.1.trans e)
      rw [if_neg h, valV_neg h']
      exact ih
theorem RepK.len {K : PySem.W.Frag} {H : Hp} {kvs : List (Key × D)} {kv : List (Key × V)} (r : RepK K H kvs kv) : kvs.length = kv.length := Paired.length r
theorem RepK.put {K : PySem.W.Frag} {H : Hp} {kvs : List (Key × D)} {kv : List (Key × V)} (r : RepK K H kvs kv) (k : Key) {d : D} {v : V} (rd : Rep K H d v) : RepK K H (putG kvs k d) (putK kv k v) := by
  unfold putG putK
  have hs : (valG kvs k).isSome = (kv.any fun kv => decide (kv.1 = k)) := by
    rw [valV_any]
    rcases r.val k with ⟨e1, e2⟩ | ⟨_, _, e1, e2, _⟩ <;> rw [e1, e2] <;> rfl
  rw [hs]
  cases (kv.any fun kv => decide (kv.1 = k)) with
  | false =>
    simp only [Bool.false_eq_true, if_false]
    clear hs
    induction r with
    | nil => exact .cons ⟨rfl, rd⟩ .nil
    | cons q _ ih => exact .cons q ih
  | true =>
    clear hs
    simp only [if_true]
    induction r with
    | nil => exact .nil
    | @cons p x ps xs q _ ih =>
      rw [List.map_cons, List.map_cons]
      refine .cons ?_ ih
      by_cases h : p.1 = k
      · have h' : x.1 = k := q.1.symm.trans h
        rw [if_pos h, if_pos h']
        exact ⟨q.1, rd⟩
      · have h' : ¬ x.1 = k := fun e => h (q.1.trans e)
        rw [if_neg h, if_neg h']
        exact q
def keyD (y : D) : Option NestedKey := match keyN y with
  | some k => if k.depth ≤ 8 then some k else none
  | none => none
def keyT : D → Option NestedKey
  | .tup xs => keyD (.tup xs)
  | .ftup xs => keyD (.ftup xs)
  | _ => none
theorem keyD_of {y : D} {k : NestedKey} (h : keyD y = some k) : keyN y = some k ∧ k.depth ≤ 8 := by
  unfold keyD at h
  split at h
  · rename_i k' e
    split at h
    · cases h; exact ⟨e, by assumption⟩
    · cases h
  · cases h
theorem keyT_rep {K : PySem.W.Frag} {H : Hp} {d : D} {v : V} {k : NestedKey} (r : Rep K H d v) (e : keyT d = some k) : ∃ b, v = .ref b ∧ KeyRep K H k b := by
  cases r with
  | tup g rs => obtain ⟨e1, e2⟩ := keyD_of (y := .tup _) e; exact ⟨_, rfl, _, .tup g rs, e1, e2⟩
  | ftup g n rs => obtain ⟨e1, e2⟩ := keyD_of (y := .ftup _) e; exact ⟨_, rfl, _, .ftup g n rs, e1, e2⟩
  | _ => cases e
/-- the value of a dict at a key: none is «no dict or no such key kind» -/
def getO (m : Mem) (x y : D) : Option (Option D) := match x with
  | .ref a => match m a with
    | some (.dK kvs) => (keyK y).map fun k => valG kvs k
    | some (.dN kvs) => (keyT y).map fun k => valG kvs k
    | some (.dR kvs _ _ _) => (keyT y).map fun k => valG kvs k
    | some (.dF kvs) => (keyK y).map fun k => valG kvs k
    | _ => none
  | _ => none
theorem getO_L {m : Mem} {a : Addr} {xs : List D} {y : D} (h : m a = some (.lst xs)) : getO m (.ref a) y = none := by
  unfold getO; dsimp only; rw [h]
/-- what stands at a dict and a key -/
inductive DictSim (X : Cx) (H : Hp) (a : Addr) (y : D) (vy : V) (o : Option D) : Prop
  | k (kvs : List (Key × D)) (kv : List (Key × V)) (k : Key) : Rd H a (.dK kv) → RepK X.K H kvs kv → vy = kV k → o = valG kvs k → DictSim X H a y vy o
  | n (kvs : List (NestedKey × D)) (es : Array DictEntry) (ep : Nat) (xs : List (NestedKey × Addr × Value)) (k : NestedKey) (b : Addr) : H a = some (.ext (rawIs a es ep)) → RawN X.K H a kvs es ep xs → vy = .ref b → KeyRep X.K H k b → o = valG kvs k → DictSim X H a y vy o
theorem getO_sim {X : Cx} {H : Hp} {m : Mem} {x y : D} {vx vy : V} {o : Option D} (sim : Sim X.K H m) (rx : Rep X.K H x vx) (ry : Rep X.K H y vy) (e : getO m x y = some o) : ∃ a, vx = .ref a ∧ DictSim X H a y vy o := by
  unfold getO at e
  split at e
  · rename_i a
    cases rx
    refine ⟨a, rfl, ?_⟩
    split at e
    · rename_i kvs q
      obtain ⟨kv, h1, h2⟩ := sim a _ q
      cases q2 : keyK y with
      | none => rw [q2] at e; cases e
      | some k => rw [q2] at e; cases e; exact .k kvs kv k (.inl h1) h2 (keyK_rep ry q2) rfl
    · rename_i kvs q
      obtain ⟨es, ep, xs, h1, h2⟩ := sim a _ q
      cases q2 : keyT y with
      | none => rw [q2] at e; cases e
      | some k =>
        rw [q2] at e; cases e
        obtain ⟨b, eb, hk⟩ := keyT_rep ry q2
        exact .n kvs es ep xs k b h1 h2 eb hk rfl
    · rename_i kvs es ep ds q
      obtain ⟨h1, xs, h2, _⟩ := sim a _ q
      cases q2 : keyT y with
      | none => rw [q2] at e; cases e
      | some k =>
        rw [q2] at e; cases e
        obtain ⟨b, eb, hk⟩ := keyT_rep ry q2
        exact .n kvs es ep xs k b h1 h2 eb hk rfl
    · rename_i kvs q
      obtain ⟨od, kv, h1, h2⟩ := sim a _ q
      cases q2 : keyK y with
      | none => rw [q2] at e; cases e
      | some k => rw [q2] at e; cases e; exact .k kvs kv k (.inr ⟨od, h1⟩) h2 (keyK_rep ry q2) rfl
    · cases e
  · cases e
section
variable {X : Cx} {pins : List (Addr × Obj)} {σ : St} {H : Hp} {s : Shared} {a : Addr} {y : D} {vy : V} {u : Value} {o : Option D} {E : Value → Shared → Prop}
theorem DictSim.typeIs (I : Inv X pins σ H s) (g : DictSim X H a y vy o) : s.TypeIs (.ref a) "dict" ∧ (∀ b, Value.ref a = .ref b → ∃ ob, s.heap.get? b = some ob ∧ ob.dict = none) ∧ (a == sysModules) = false := by
  cases g with
  | k kvs kv k h1 h2 _ _ => exact isD_at I (.inl ⟨kv, h1⟩)
  | n kvs es ep xs k b h1 h2 _ _ _ =>
    refine ⟨(h2.dict I.hok h1).typeIs, fun c q => ?_, h2.sys⟩
    cases q
    obtain ⟨⟨ob, e1, e2, _⟩, _, _⟩ := I.hok a _ h1
    exact ⟨ob, e1, e2.2.1⟩
/-- d[y] -/
theorem DictSim.get (hu : X.A.units + 64 < cLine) (I : Inv X pins σ H s) {d : D} (g : DictSim X H a y vy (some d)) (ry : RelV vy u) {Q : Value → Shared → Prop} (h : ∀ w' v s', Inv X pins σ H s' → Rep X.K H d v → RelV v w' → Q w' s') :
    wpAny (model X.prog X.w) X.A (getItem (.ref a) u) Q E s := by
  cases g with
  | k kvs kv k h1 h2 ey ev =>
    rcases h2.val k with ⟨e1, _⟩ | ⟨d', v, e1, e2, rd⟩
    · rw [e1] at ev; cases ev
    · rw [e1] at ev; cases ev
      subst ey
      exact d_getItem (by omega) I (.inl ⟨kv, k, h1, rfl, e2.symm⟩) ry fun w' s' I' rv => h w' v s' I' rd rv
  | n kvs es ep xs k b h1 h2 ey hk ev =>
    subst ey
    cases ry
    rcases h2.rel.val k with ⟨e1, _⟩ | ⟨d', v, p, e1, e2, rd, rv⟩
    · rw [e1] at ev; cases ev
    · rw [e1] at ev; cases ev
      exact wpAny_getItem_heap (roomN hu) (hk.is I.hok) (h2.dict I.hok h1) e2 (h _ v _ (I.tok _) rd rv)
theorem DictSim.isIn (hu : X.A.units + 64 < cLine) (I : Inv X pins σ H s) (g : DictSim X H a y vy o) (ry : RelV vy u) {Q : Value → Shared → Prop} (h : ∀ s', Inv X pins σ H s' → Q (.bool o.isSome) s') :
    wpAny (model X.prog X.w) X.A (compareOp .In u (.ref a)) Q E s := by
  cases g with
  | k kvs kv k h1 h2 ey ev =>
    subst ey
    have e : o.isSome = (valV kv k).isSome := by
      subst ev
      rcases h2.val k with ⟨e1, e2⟩ | ⟨_, _, e1, e2, _⟩ <;> rw [e1, e2] <;> rfl
    rw [e] at h
    exact L2.d_in (by omega) I (.inl ⟨kv, k, h1, rfl, rfl⟩) ry h
  | n kvs es ep xs k b h1 h2 ey hk ev =>
    subst ey
    cases ry
    have e : o.isSome = (atKey xs k).isSome := by
      subst ev
      rcases h2.rel.val k with ⟨e1, e2⟩ | ⟨_, _, _, e1, e2, _⟩ <;> rw [e1, e2] <;> rfl
    rw [e] at h
    exact wpAny_in_heap (roomN hu) (hk.is I.hok) h2.sys (h2.dict I.hok h1) (h _ (I.tok _))
theorem DictSim.notIn (hu : X.A.units + 64 < cLine) (I : Inv X pins σ H s) (g : DictSim X H a y vy o) (ry : RelV vy u) {Q : Value → Shared → Prop} (h : ∀ s', Inv X pins σ H s' → Q (.bool (!o.isSome)) s') :
    wpAny (model X.prog X.w) X.A (compareOp .NotIn u (.ref a)) Q E s := by
  cases g with
  | k kvs kv k h1 h2 ey ev =>
    subst ey
    have e : o.isSome = (valV kv k).isSome := by
      subst ev
      rcases h2.val k with ⟨e1, e2⟩ | ⟨_, _, e1, e2, _⟩ <;> rw [e1, e2] <;> rfl
    rw [e] at h
    exact L2.d_notIn (by omega) I (.inl ⟨kv, k, h1, rfl, rfl⟩) ry h
  | n kvs es ep xs k b h1 h2 ey hk ev =>
    subst ey
    cases ry
    have e : o.isSome = (atKey xs k).isSome := by
      subst ev
      rcases h2.rel.val k with ⟨e1, e2⟩ | ⟨_, _, _, e1, e2, _⟩ <;> rw [e1, e2] <;> rfl
    rw [e] at h
    exact wpAny_notIn_heap (roomN hu) (hk.is I.hok) h2.sys (h2.dict I.hok h1) (h _ (I.tok _))
end
/-! ### stores -/
def setG (o i d : D) (m : Mem) (q : Mem → Prop) : Prop := match o with
  | .ref a => match m a with
    | some (.dK kvs) => match keyK i with
      | some k => kvs.length < sizeLine ∧ q (m.set a (.dK (putG kvs k d)))
      | none => False
    | some (.dN kvs) => match keyT i with
      | some k => kvs.length < sizeLine ∧ q (m.set a (.dN (putG kvs k d)))
      | none => False
    | _ => setD o i d m q
  | _ => False
def dSetG (te to ti : DTE) : DTS := fun E ρ m => te ρ m fun d m1 => to ρ m1 fun o m2 => ti ρ m2 fun i m3 => setG o i d m3 fun m4 => E.nx ρ m4
section
variable {X : Cx} {B : Bs} {e : Expr} {te : DTE} {pos : Pos}
end
/-! ### in, not in, d[k] -/
def inG (neg : Bool) : DR2 := fun x y m q => match getO m y x with
  | some o => q (.bl (if neg then !o.isSome else o.isSome)) m
  | none => match x, itemsOf m y with
    | .int k, some xs => match intsOf xs with
      | some ns => q (.bl (if neg then !ns.contains k else ns.contains k)) m
      | none => False
    | _, _ => False
theorem inV_ints (k : Int) (ns : List Int) : inV (.int k) (ns.map V.int) = ns.contains k := by
  unfold inV
  rw [List.any_map, List.contains_eq_any_beq]
  congr 1
  funext x
  show (x == k) = (k == x)
  exact Bool.beq_comm
theorem flat_ints (ns : List Int) : (ns.map V.int).all flatV = true := by
  rw [List.all_map, List.all_eq_true]; intro x _; rfl
theorem d_inG {X : Cx} (hu : X.A.units + 64 < cLine) (neg : Bool) : OpD X (compareOp (if neg then .NotIn else .In)) (inG neg) := by
  intro pins s σ H x y v u Q I rx ry ⟨dx, dy, m, q, r1, r2, sim, h, post⟩
  unfold inG at h
  split at h
  · rename_i o e
    obtain ⟨a, rfl, g⟩ := getO_sim sim r2 r1 e
    cases ry
    cases neg with
    | false => exact g.isIn hu I rx fun s' I' => ⟨.bl o.isSome, H, I', rfl, post.here h (.bl _) sim⟩
    | true => exact g.notIn hu I rx fun s' I' => ⟨.bl (!o.isSome), H, I', rfl, post.here h (.bl _) sim⟩
  · cases dx with
    | int k =>
      cases e : itemsOf m dy with
      | none => rw [e] at h; exact h.elim
      | some xs =>
        rw [e] at h
        dsimp only at h
        split at h
        · rename_i ns en
          have e1 := intsOf_ok en
          subst e1
          obtain ⟨p, vs, rfl, hq, rs⟩ := sim.seq r2 e
          have e2 := reps_ints rs
          subst e2
          cases r1
          have hh : Q (.bl (if neg then !inV (.int k) (ns.map V.int) else inV (.int k) (ns.map V.int))) H := by rw [inV_ints]; exact post.here h (.bl _) sim
          cases neg with
          | false => exact op_in_seq pins s σ H _ _ v u Q I rx ry ⟨p, _, rfl, hq, rfl, flat_ints ns, hh⟩
          | true => exact op_notIn_seq pins s σ H _ _ v u Q I rx ry ⟨p, _, rfl, hq, rfl, flat_ints ns, hh⟩
        · exact h.elim
    | _ => exact (show False from h).elim
theorem d_in {X : Cx} (hu : X.A.units + 64 < cLine) : OpD X (compareOp .In) (inG false) := d_inG hu false
theorem d_notIn {X : Cx} (hu : X.A.units + 64 < cLine) : OpD X (compareOp .NotIn) (inG true) := d_inG hu true
def ixG : DR2 := fun x y m q => match getO m x y with
  | some (some d) => q d m
  | some none => False
  | none => ixD x y m q
theorem d_ixG {X : Cx} (hu : X.A.units + 64 < cLine) : IxR X (up2 X.K ixG) := by
  intro value slice pins s σ H x y v u Q I rx ry ⟨dx, dy, m, q, r1, r2, sim, h, post⟩ hs
  unfold ixG at h
  split at h
  · rename_i d e
    obtain ⟨a, rfl, g⟩ := getO_sim sim r1 r2 e
    cases rx
    obtain ⟨hT, _, _⟩ := g.typeIs I
    unfold subscriptTail
    refine wpAny_bind ?_
    rw [getitemInPython_of_ne hT.not_modules]
    refine wpAny_bind (wpAny_specialOf hT PySem.F.slot_dict_getitem.lookup ?_)
    have fin : wpAny (model X.prog X.w) X.A (subscripted slice false (.ref a) u) (fun r s₃ => wpAny (model X.prog X.w) X.A (letTemporaryGo value (.ref a) r >>= fun _ => pure r) (EP X pins σ Q) X.xe s₃) X.xe s := by
      rw [hs]
      exact wpAny_operating (g.get hu I ry fun w' v' s' I' rd rv => wpAny_bind (wpAny_letTemporaryGo (wpAny_pure ⟨v', H, I', rv, post.here h rd sim⟩)))
    first
      | exact wpAny_pure (wpAny_bind fin)
      | exact wpAny_bind (wpAny_pure (wpAny_bind fin))
      | exact wpAny_bind fin
  · exact h.elim
  · exact d_ix value slice pins s σ H x y v u Q I rx ry ⟨dx, dy, m, q, r1, r2, sim, h, post⟩ hs
section
variable {X : Cx} {B : Bs} {a b o e f : Expr} {ta tb to te tx : DTE} {pos apos cpos : Pos}
theorem de_ixG (hu : X.A.units + 64 < cLine) (ha : DE B X a ta) (hb : DE B X b tb) (hs : PlainIx b := by exact fun _ _ => rfl) : DE B X (.Subscript a b pos) (dOp ixG ta tb) := pe_imp (pe_ix (d_ixG hu) ha hb hs) op_lift
/-! ### methods -/
def isDict (m : Mem) (x : D) : Prop := ∃ a, x = .ref a ∧ ((∃ kvs, m a = some (.dK kvs)) ∨ ∃ kvs, m a = some (.dN kvs))
def dGet1 (to te : DTE) : DTE := fun ρ m q => to ρ m fun x m1 => isDict m1 x ∧ te ρ m1 fun y m2 => match getO m2 x y with | some o => q (o.getD .non) m2 | none => False
def dGet2 (to te tx : DTE) : DTE := fun ρ m q => to ρ m fun x m1 => isDict m1 x ∧ te ρ m1 fun y m2 => tx ρ m2 fun z m3 => match getO m3 x y with | some o => q (o.getD z) m3 | none => False
/-- d.setdefault(k, x), keys tuples -/
def setdefD (x y z : D) (m : Mem) (q : DQ) : Prop := match x with
  | .ref a => match m a with
    | some (.dN kvs) => match keyT y with
      | some k => match valG kvs k with
        | some v => q v m
        | none => kvs.length < sizeLine ∧ q z (m.set a (.dN (putG kvs k z)))
      | none => False
    | _ => False
  | _ => False
def dSetdef (to te tx : DTE) : DTE := fun ρ m q => to ρ m fun x m1 => isDict m1 x ∧ te ρ m1 fun y m2 => tx ρ m2 fun z m3 => setdefD x y z m3 q
/-! ### {}, {k: v}, len -/
theorem raw_new (h : Heap) : rawIs h.objs.size #[] 0 (h.push { cls := .type "dict", data := .dict #[] }) := ⟨_, Heap.get?_push_size _ rfl, ⟨rfl, rfl, rfl⟩, rfl⟩
theorem rawN_new {K : PySem.W.Frag} {H : Hp} {a : Addr} (h : (a == sysModules) = false) : RawN K H a [] #[] 0 [] := ⟨fun _ _ => rfl, List.nodup_nil, Nat.zero_le _, h, .nil⟩
def dDict0 : DTE := fun _ m q => (∀ p, m p = none → q (.ref p) (m.set p (.dK []))) ∨ ∀ p, m p = none → q (.ref p) (m.set p (.dN []))
theorem sys_new {pins : List (Addr × Obj)} {σ : St} {H : Hp} {s : Shared} (I : Inv X pins σ H s) : (s.heap.objs.size == sysModules) = false := beq_eq_false_iff_ne.mpr (Ne.symm (Nat.ne_of_lt I.big))
theorem de_dict0 : DE B X (.Dict [] [] pos) dDict0 := ⟨fun pins s σ H Q I ⟨ρ, m, q, p, h, post⟩ => by
  have nw := I.hok.fresh (Nat.le_refl s.heap.objs.size)
  rcases h with h | h
  · exact wpAny_Dict_empty ⟨.ref s.heap.objs.size, _, I.laid (a := s.heap.objs.size) (o := .dK []) (t' := s.toks) (fun _ _ q => Heap.get?_push_of_some _ q) (Nat.le_refl _) (dk_empty s.heap I.big), rfl,
      post _ _ _ _ (h _ (p.sim.free nw)) (.ref _) (p.sim.allocM nw ⟨[], upd_same, .nil⟩) (Step.allocM nw)⟩
  · exact wpAny_Dict_empty ⟨.ref s.heap.objs.size, _, I.laid (a := s.heap.objs.size) (o := .ext (rawIs s.heap.objs.size #[] 0)) (t' := s.toks) (fun _ _ q => Heap.get?_push_of_some _ q) (Nat.le_refl _) (ext_new (raw_new s.heap)), rfl,
      post _ _ _ _ (h _ (p.sim.free nw)) (.ref _) (p.sim.allocM nw ⟨#[], 0, [], upd_same, rawN_new (sys_new I)⟩) (Step.allocM nw)⟩⟩
def dDisp1N (tk tv : DTE) : DTE := fun ρ m q => tk ρ m fun y m1 => tv ρ m1 fun v m2 => match keyT y with | some k => ∀ p, m2 p = none → q (.ref p) (m2.set p (.dN [(k, v)])) | none => False
def dDisp1K (tk tv : DTE) : DTE := fun ρ m q => tk ρ m fun y m1 => tv ρ m1 fun v m2 => match keyK y with | some k => ∀ p, m2 p = none → q (.ref p) (m2.set p (.dK [(k, v)])) | none => False
def lenG : DRC
  | [.ref a], m, q => match m a with
    | some (.dK kvs) => q (.int kvs.length) m
    | some (.dN kvs) => q (.int kvs.length) m
    | some (.dF kvs) => q (.int kvs.length) m
    | _ => lenD [.ref a] m q
  | ds, m, q => lenD ds m q
theorem lenG_t {m : Mem} {q : DQ} {xs : List D} : lenG [.tup xs] m q = q (.int xs.length) m := rfl
theorem lenG_f {m : Mem} {q : DQ} {xs : List D} : lenG [.ftup xs] m q = q (.int xs.length) m := rfl
theorem lenG_o {m : Mem} {q : DQ} {xs : List D} : lenG [.rol xs] m q = q (.int xs.length) m := rfl
end
end L2.Lh

namespace L2.Lh
open PySem PySem.Spec PyProof.Rows
section
variable {X : Cx} {B : Bs} {ke ve : Expr} {tk tv : DTE} {pos : Pos}
end
end L2.Lh

/-! enumerate of a tuple -/
namespace L2.Lh
open PySem PySem.Spec PyProof.Rows
open AutoSeq1 (wpAny_loadPart')
section
variable {prog : Program} {w : World} {A : Around} {E : Value → Shared → Prop} {s : Shared}
theorem enumNewT (t : Addr) (ob : Obj) (its : Array Value) (n : Nat) (hc : ob.cls = .type "tuple") (hd : ob.data = .seq its n) :
    Meets (Builtin.«enumerate.__new__» ⟨[.type "enumerate", .ref t], []⟩) (fun _ R s₀ => s₀.heap.get? t = some ob ∧
      R (.ok (.ret (.ref (s₀.heap.push { cls := .type "tuple_iterator", data := .fields #[.ref t, .int 0 0] }).objs.size)))
        { s₀ with heap := (s₀.heap.push { cls := .type "tuple_iterator", data := .fields #[.ref t, .int 0 0] }).push { cls := .type "enumerate", data := .fields #[.none, .bool false, .ref s₀.heap.objs.size, rawInt 0, .none, .none] } }) :=
  .of_wp fun P₀ w₀ A₀ R₀ s₀ hyp => by
    obtain ⟨hp, gg, dd, tk, os⟩ := s₀
    obtain ⟨ht, hyp⟩ := hyp
    obtain ⟨oc, od, odt, osl⟩ := ob
    cases hc
    cases hd
    have hsub := sub_enumerate
    have hT : Heap.IsTuple (Shared.heap ⟨hp, gg, dd, tk, os⟩) t its := ⟨_, ht, rfl, n, rfl⟩
    wp_walk using wpAny_loadPart' ht
    refine wpAny_stack_any fun st => wpAny_pure ?_
    split
    · rename_i c _ _ _ _ _
      cases (c == Value.type "enumerate") <;> (wp_walk using wpAny_loadPart' ht, wpAny_pyIter_tuple hT; exact ⟨_, rfl, hyp⟩)
    · wp_walk using wpAny_loadPart' ht, wpAny_pyIter_tuple hT
      exact ⟨_, rfl, hyp⟩
theorem enumCallT {t : Addr} {its : Array Value} {Q : Value → Shared → Prop} (hT : s.heap.IsTuple t its)
    (hyp : ∀ h₁, IsEnum h₁ (s.heap.objs.size + 1) s.heap.objs.size 0 .none → h₁.IsTupleIter s.heap.objs.size t 0 → (∀ b o, s.heap.get? b = some o → h₁.get? b = some o) → Q (.ref (s.heap.objs.size + 1)) { s with heap := h₁ }) :
    wpAny (model prog w) A (call (.type "enumerate") [.ref t]) Q E s := by
  obtain ⟨ob, ho, hc, n, hd⟩ := hT
  refine callType_new F.called_enumerate (by decide) (F.typeCall_enumerate_1 _) (F.newCall_enumerate_1 _) (fun obj => F.args_object_init_2 obj _) F.entry_enumerate_new (enumNewT t ob its n hc hd) ⟨ho, ?_⟩
  have sz1 : (s.heap.push { cls := .type "tuple_iterator", data := .fields #[.ref t, .int 0 0] }).objs.size = s.heap.objs.size + 1 := Heap.size_push ..
  have isE : IsEnum ((s.heap.push { cls := .type "tuple_iterator", data := .fields #[.ref t, .int 0 0] }).push { cls := .type "enumerate", data := .fields #[.none, .bool false, .ref s.heap.objs.size, rawInt 0, .none, .none] }) (s.heap.objs.size + 1) s.heap.objs.size 0 .none := by
    rw [← sz1]
    exact Heap.get?_push_size _ rfl
  show _ ∧ _
  rw [sz1]
  exact ⟨⟨_, isE, rfl⟩, hyp _ isE ⟨_, Heap.get?_push_of_some _ (Heap.get?_push_size _ rfl), rfl, rfl⟩ fun b o x => Heap.get?_push_of_some _ (Heap.get?_push_of_some _ x)⟩
end
/-- the tuple at a, each item in a new pair -/
def ItEt (K : PySem.W.Frag) (a : Addr) : It where
  go := fun i H => ∃ (xs : List V) (x : V), SqT K H a xs ∧ xs[i]? = some x
  yld := fun i H v H' => ∃ T x, v = .ref T ∧ H T = none ∧ H' = upd H T (.tup [.int (i : Nat), x]) ∧ ∀ xs, SqT K H a xs → xs[i]? = some x
  stop := fun i H => ∃ xs : List V, SqT K H a xs ∧ xs.length = i
theorem turnEt {P : Program} {w : World} {K : PySem.W.Frag} {elts : List Expr} {kk : Nat} {tpos : Pos} (a en it : Addr) (its : Array Value) (nai : a ≠ it) (nei : en ≠ it) (nea : en ≠ a) :
    Turn P w K (.Tuple elts kk tpos) (ItEt K a) [en, it] en (fun i h => (∃ old, IsEnum h en it ((i : Nat) : Int) old) ∧ h.IsTupleIter it a i) where
  mem := by simp
  obj := fun i h st b hb => by
    obtain ⟨⟨old, he⟩, o, ho, hc, hd⟩ := st
    rcases (show b = en ∨ b = it by simpa using hb) with z | z
    · subst z; exact ⟨_, he, fun v q => nomatch q⟩
    · subst z; exact ⟨o, ho, fun v q => by rw [hd] at q; cases q⟩
  keep := fun i h h' st k => by
    obtain ⟨⟨old, he⟩, hi⟩ := st
    exact ⟨⟨old, k en (by simp) _ he⟩, hi.at fun o q => k it (by simp) o q⟩
  item := by
    intro X hP hw hK hc i pins s σ H E I hf st hg
    subst hP hw hK
    obtain ⟨⟨old, he⟩, hit⟩ := st
    obtain ⟨xs, x, hq, hx⟩ := hg
    obtain ⟨itv, rv, p, hz⟩ := I.tuple hq
    obtain ⟨u, hu, ru⟩ := rv.get hx
    have len1 : en < s.heap.objs.size := Heap.lt_size he
    have lit : it < s.heap.objs.size := by obtain ⟨_, q, _⟩ := hit; exact Heap.lt_size q
    have hlt : i < itv.toArray.size := by
      have := (List.getElem?_eq_some_iff.mp hu).1
      simpa using this
    have D := Draws.tuple (prog := X.prog) (w := X.w) (A := X.A.in1) (I.ok.hd hc) it a nai itv.toArray
    refine wpAny_pyNext_enum_itemD D he ⟨hit, (show s.heap.IsTuple a itv.toArray from p)⟩ hlt nei (by simp [nei, nea]) fun y h₁ tk hy ho hst hT hsz hk => ?_
    have ey : y = u := by
      have : itv.toArray[i]? = some u := by simpa using hu
      rw [this] at hy; cases hy; rfl
    subst ey
    refine ⟨_, rfl, wpAny_letOwnedTupleGo_enum (s := { s with heap := h₁, toks := tk + 1 }) ho fun h₂ he₂ sb => ?_⟩
    have hT2 : h₂.get? s.heap.objs.size = some { cls := .type "tuple", data := .seq #[.int i tk, y] } := (sb.2 _ (Nat.ne_of_gt len1)).trans hT
    have new : ObjOk X.prog X.w (upd H s.heap.objs.size (.tup [.int (i : Nat), x])) h₂ s.heap.objs.size (.tup [.int (i : Nat), x]) :=
      ⟨by show 2 ≤ sizeLine; decide, [.int i tk, y], .cons ⟨_, rfl⟩ (.cons ru .nil), ⟨_, hT2, rfl, _, rfl⟩⟩
    have I1 : Inv X pins σ (upd H s.heap.objs.size (.tup [.int (i : Nat), x])) { s with heap := h₂, toks := tk + 1 } :=
      I.turnedNew (ch := [en, it]) (fun b ob hb q => by
        have nb : b ≠ en ∧ b ≠ it := by
          constructor <;> intro z <;> exact hb (by simp [z])
        exact (sb.2 b nb.1).trans (hk b ob nb.1 nb.2 q)) hf (Nat.le_refl _) new
    refine ⟨.ref s.heap.objs.size, _, I1, rfl, ⟨_, x, rfl, I.hok.fresh (Nat.le_refl _), rfl, fun ys hy2 => by rw [I.tuple_inj hy2 hq]; exact hx⟩, ⟨⟨y, ?_⟩, hst.1.at fun o q => (sb.2 it (Ne.symm nei)).trans q⟩, fun b hb => ?_⟩
    · rw [show ((i + 1 : Nat) : Int) = (i : Int) + 1 by omega]; exact he₂
    · have lb : b < s.heap.objs.size := by
        rcases (show b = en ∨ b = it by simpa using hb) with z | z
        · subst z; exact len1
        · subst z; exact lit
      rw [upd_ne (Nat.ne_of_lt lb)]
      exact (hf b hb).1
  done := by
    intro X hP hw hK hc i pins s σ H E I hf st hg
    subst hP hw hK
    obtain ⟨⟨old, he⟩, hit⟩ := st
    obtain ⟨xs, hq, hx⟩ := hg
    obtain ⟨itv, rv, p, hz⟩ := I.tuple hq
    obtain ⟨f0, f1, f2, f3, f4, f5⟩ := hf it (by simp)
    have hl := rv.length
    have D := Draws.tuple (prog := X.prog) (w := X.w) (A := X.A.in1) (I.ok.hd hc) it a nai itv.toArray
    have en' : i = itv.toArray.size := by simp; omega
    refine wpAny_pyNext_enum_endD D he ⟨by rw [← en']; exact hit, (show s.heap.IsTuple a itv.toArray from p)⟩ fun h₁ eb => ⟨rfl, I.turned (t' := s.toks) (fun b o hb q => eb b o hb q) f0 f1 f3 f4 f5⟩
  self := fun A i s Q E st h => by obtain ⟨⟨_, he⟩, _⟩ := st; exact wpAny_pyIter_enum he h
theorem pi_enumG {X : Cx} {e : Expr} {ta : TA} {p pos tpos : Pos} {elts : List Expr} {kk : Nat} (hg : Gl X "enumerate") (hm : X.mg "enumerate" = none) (ha : PA X [e] ta) (hs : starEach [e] X.env = [(false, eval e X.env)] := by rfl) :
    PI X (.Tuple elts kk tpos) (.Call (.Name "enumerate" p) [e] [] pos) (fun σ H R => ta σ H fun vs H1 => ∃ a xs, vs = [.ref a] ∧ ((SqT X.K H1 a xs ∧ R (ItEt X.K a) H1) ∨ (SqL X.K H1 a xs ∧ R (Ite X.K a) H1))) := by
  refine ⟨fun pins s σ H R I wish => ?_⟩
  refine Call_ (ld_blt I hg hm boot_enumerate (PyProof.Rows.callWith_type1 (thn (ha.run pos pins s σ H _ I wish) fun us s1 ⟨vs, H1, I1, r1, a, xs, ex, which⟩ => ?_) hs rfl))
  subst ex
  rw [Vals.ref1 r1]
  have fresh : ∀ b ∈ [s1.heap.objs.size + 1, s1.heap.objs.size], FpOk X pins H1 b := fun b hb => by
    have hle : s1.heap.objs.size ≤ b := by
      rcases (show b = s1.heap.objs.size + 1 ∨ b = s1.heap.objs.size by simpa using hb) with z | z
      · rw [z]; exact Nat.le_succ _
      · rw [z]; exact Nat.le_refl _
    exact I1.fpOk hle (I1.hok.fresh hle)
  rcases which with ⟨hq, q⟩ | ⟨hq, q⟩
  · obtain ⟨itv, rv, p', hz⟩ := I1.tuple hq
    have pT : s1.heap.IsTuple a itv.toArray := p'
    have la : a < s1.heap.objs.size := by obtain ⟨o, e, _⟩ := pT; exact Heap.lt_size e
    refine enumCallT pT fun h₁ isE hit hk => wpAny_pyIter_enum isE ?_
    have I2 : Inv X pins σ H1 { s1 with heap := h₁ } := I1.kept (t' := s1.toks) hk
    exact ⟨s1.heap.objs.size + 1, [s1.heap.objs.size + 1, s1.heap.objs.size], _, _, H1, rfl, I2, turnEt a (s1.heap.objs.size + 1) s1.heap.objs.size itv.toArray (Nat.ne_of_lt la) (Nat.succ_ne_self _) (Nat.ne_of_gt (Nat.lt_succ_of_lt la)), ⟨⟨.none, isE⟩, hit⟩, fresh, q⟩
  · obtain ⟨itv, rv, p', hz⟩ := I1.list hq
    refine call_enumerate_list p'.isList fun h₁ isE hit _ hk => wpAny_pyIter_enum isE ?_
    exact ⟨s1.heap.objs.size + 1, [s1.heap.objs.size + 1, s1.heap.objs.size], _, _, H1, rfl, I1.kept (t' := s1.toks) hk, turn_enum a (s1.heap.objs.size + 1) s1.heap.objs.size, ⟨⟨.none, isE⟩, hit, Nat.succ_ne_self _⟩, fresh, q⟩
section
variable {X : Cx} {B : Bs}
def iEnum (t : DTE) : DTI := fun ρ m q => t ρ m fun d m' => match d with
  | .tup xs => q ⟨enumFrom 0 xs, fun _ => True⟩ m'
  | .ftup xs => q ⟨enumFrom 0 xs, fun _ => True⟩ m'
  | .ref a => match m' a with
    | some (.lst xs) => q ⟨enumFrom 0 xs, fun m'' => m'' a = some (.lst xs)⟩ m'
    | _ => False
  | _ => False
theorem ItOk.enumT {K : PySem.W.Frag} {a : Addr} {vs : List V} {xs : List D} {H0 : Hp} {m0 : Mem} (h : SqT K H0 a vs) (hs : ∀ H', Ext H0 H' → SqT K H' a vs) (r : Reps K H0 xs vs) : ItOk K ⟨enumFrom 0 xs, fun _ => True⟩ (ItEt K a) H0 m0 where
  go := fun i d m H e s st c => by
    obtain ⟨e0, h0, hd⟩ := enumFrom_get xs 0 i d e
    obtain ⟨v, h1, h2⟩ := (r.mono st.ext).get h0
    refine ⟨⟨vs, v, hs _ st.ext, h1⟩, fun x H' ⟨T, z, e1, e2, e3, e4⟩ => ?_⟩
    subst e1 e3
    have := e4 vs (hs _ st.ext)
    rw [h1] at this
    cases this
    rw [hd, Nat.zero_add]
    exact ⟨.tup upd_same (.cons (.int _) (.cons (h2.mono (upd_new e2)) .nil)), s.alloc e2, Step.alloc e2⟩
  stop := fun m H s st c => ⟨vs, hs _ st.ext, by rw [enumFrom_length]; exact r.length.symm⟩
theorem di_enum {e : Expr} {te : DTE} {p pos tpos : Pos} {elts : List Expr} {kk : Nat} (hg : Gl X "enumerate") (hm : X.mg "enumerate" = none) (he : DE B X e te) (hs : starEach [e] X.env = [(false, eval e X.env)] := by rfl) :
    DI B X (.Tuple elts kk tpos) (.Call (.Name "enumerate" p) [e] [] pos) (iEnum te) :=
  pi_imp (pi_enumG hg hm (pa_cons he pa_nil hs) hs) fun σ H R ⟨ρ, m, q, p, h, post⟩ => ⟨ρ, m, _, p, h, fun d m1 v H1 h1 r1 s1 t1 => by
    cases r1 with
    | tup g rs => exact ⟨_, _, rfl, .inl ⟨SqT.of g, post _ m1 _ H1 h1 (ItOk.enumT (SqT.of g) (fun H' x => SqT.of (x.tup _ _ g)) rs) s1 t1⟩⟩
    | ftup g n rs => exact ⟨_, _, rfl, .inl ⟨.inl (.inr ⟨_, g⟩), post _ m1 _ H1 h1 (ItOk.enumT (.inl (.inr ⟨_, g⟩)) (fun H' x => .inl (.inr ⟨_, x.frz _ _ _ g⟩)) rs) s1 t1⟩⟩
    | ref a =>
      dsimp only at h1
      split at h1
      · rename_i xs ea
        obtain ⟨vs, hv, _⟩ := s1 a _ ea
        exact ⟨a, vs, rfl, .inr ⟨SqL.of hv, post _ m1 _ H1 h1 ItOk.enumL s1 t1⟩⟩
      · exact h1.elim
    | _ => exact (show False from h1).elim⟩
end
end L2.Lh
namespace L2.Lh
open PySem PySem.Spec PyProof.Rows
/-! ### < of ints, of tuples of ints -/
def intsT : D → Option (List Int)
  | .tup xs => intsOf xs
  | .ftup xs => intsOf xs
  | _ => none
def ltG : DR2 := fun x y m q => match x, y with
  | .int i, .int j => q (.bl (decide (i < j))) m
  | x, y => match intsT x, intsT y with
    | some ns, some ms => q (.bl (HT.lexLt ns ms)) m
    | _, _ => False
theorem ltG_ii {i j : Int} {m : Mem} {q : DQ} : ltG (.int i) (.int j) m q = q (.bl (decide (i < j))) m := rfl
/-! ### == of some data -/
/-! ### keys that are tuples of ints -/
end L2.Lh

/-! try .. except X as n: the caught error stays known -/
namespace L2.Lh
open PySem PySem.Spec PyProof.Rows
section
variable {X : Cx} {pins : List (Addr × Obj)} {σ : St} {H : Hp} {s : Shared}
/-- an object of ours, younger than the entry, is tracked from now on -/
theorem track {a : Addr} {o : HO} (I : Inv X pins σ H s) (h0 : X.s_0.heap.get? a = none) (hn : H a = none) (nL : a ≠ X.env.locals) (nC : ∀ x c, X.env.cells.lookup x = some c → c ≠ a) (nP : ∀ p ∈ X.pn ++ pins, p.1 ≠ a) (new : ObjOk X.prog X.w (upd H a o) s.heap a o) : Inv X pins σ (upd H a o) s where
  ok := I.ok
  os := I.os
  bare := I.bare
  base := {
    keep := I.base.keep
    slot := I.base.slot
    free := fun b ob q z hx => by
      rw [upd_ne (fun e => by subst e; rw [h0] at q; cases q)]
      exact I.base.free b ob q z hx
    there := I.base.there
    tups := fun b xs q => by
      have := I.base.tups b xs q
      rw [upd_ne (fun e => by subst e; rw [hn] at this; cases this)]
      exact this
    frzs := fun b ob u q => by
      have := I.base.frzs b ob u q
      rw [upd_ne (fun e => by subst e; rw [hn] at this; cases this)]
      exact this
    tbls := fun b ps q => by
      obtain ⟨more, this⟩ := I.base.tbls b ps q
      refine ⟨more, ?_⟩
      rw [upd_ne (fun e => by subst e; rw [hn] at this; cases this)]
      exact this }
  loc := I.loc
  cell := I.cell
  free := by rw [upd_ne nL.symm]; exact I.free
  freeC := fun x c e => by rw [upd_ne (nC x c e)]; exact I.freeC x c e
  pin := fun p hp => by
    obtain ⟨q1, q2, q3⟩ := I.pin p hp
    exact ⟨q1, by rw [upd_ne (nP p hp)]; exact q2, q3⟩
  hok := fun b u q => by
    by_cases e : b = a
    · subst e; rw [upd_same] at q; cases q; exact new
    · rw [upd_ne e] at q
      exact (I.hok b u q).stay (fun _ _ _ z => z) (fun c z => by rw [upd_ne (ne_of_none z hn)]; exact z) fun c xs z => by rw [upd_ne (ne_of_none z hn)]; exact z
  len := I.len
theorem excIs_ok {P : Program} {w : World} {h : Heap} {a : Addr} {cls : Value} {oe : Obj} {vs : Array Value} (e : h.get? a = some oe) (z : Zc cls none oe) (d : oe.data = .fields vs) : ObjOk P w H h a (.ext (excIs a cls)) :=
  ⟨⟨oe, vs, e, z.1, z.2, d⟩, ⟨oe, e⟩, fun h1 h2 ⟨o, us, q1, q2⟩ k => ⟨o, us, k o q1, q2⟩⟩
end
/-- what the clause 'except x as n' wishes, the error kept -/
def wKeep (K : PySem.W.Frag) (c : Value) (i : Nat) (ts : Addr → Value → Option Addr → TS) (Wout : WX) (D : Ends) : WX := fun cls d σ H =>
  ∃ b, PySem.W.exmOne K cls c = some b ∧ (b = true → d = none ∧ ∀ a, H a = none → ts a cls d { nx := fun τ G => G a = none → D.nx (τ.set i none) (upd G a (.ext (excIs a cls))), rt := fun _ _ => False, bk := fun _ _ => False, ct := fun _ _ => False } (σ.set i (some (.ref a))) H) ∧
    (b = false → Wout cls d σ H)
section
variable {X : Cx} {x n : Str} {c : Value} {i : Nat} {body suite : List Stmt} {b₀ : Stmt} {np pos pos' : Pos} {tb : WX → TS} {ts : Addr → Value → Option Addr → TS} {Wout : WX}
theorem ps_tryK (hex : X.ex = []) (hs : X.stack = X.env :: X.outer) (hf : X.env.frame = some X.env.locals) (nodup : X.N.Nodup) (hi : X.N[i]? = some n) (hkind : X.env.kindOf n = some .local) (hc : Names X x c) (tk : Takes X Wout)
    (hBody : ∀ (W : WX) (pn : List (Addr × Obj)) (xe : Value → Shared → Prop), Takes (X.tr pn xe) W → PassesOwn (model X.prog X.w) X.A X.env xe → PSs (X.tr pn xe) body (tb W))
    (hSuite : ∀ (a : Addr) (oe : Obj) (cls : Value) (d : Option Addr) (pn : List (Addr × Obj)), Zc cls d oe → (∃ vs, oe.data = .fields vs) → PSs (X.suite a ((a, oe) :: pn)) (b₀ :: suite) (ts a cls d)) :
    PS X (.Try body [.ExceptHandler (some (.Name x np)) (some n) (b₀ :: suite) pos'] [] [] pos) (fun D σ H => tb (wKeep X.K c i ts Wout D) D σ H) := by
  refine ⟨fun pins s σ H D I wish => ?_⟩
  have okX := I.ok
  have frX : X.A.frames = some (X.env :: X.outer) := by rw [okX.frames, hs]
  refine wpAny_Try_except (wpAny_mono ((hBody (wKeep X.K c i ts Wout D) (X.pn ++ pins) (fun e₀ s₀ => wpAny (model X.prog X.w) X.A (noteFrame e₀ X.env) (fun _ t₁ => wpAny (model X.prog X.w) X.A (setFlight e₀ none) (fun _ t₂ =>
    wpAny (model X.prog X.w) X.A (handleBy e₀ X.env [.ExceptHandler (some (.Name x np)) (some n) (b₀ :: suite) pos']) (SP X pins D) X.xe t₂) X.xe t₁) X.xe s₀) (fun u₀ t₀ air => ?_) PassesOwn.looking).run [] s σ H D (I.toTry _) wish) (fun fl t₀ came => ?_) (fun _ _ z => z))
  · obtain ⟨a, B, sA, _, τ, G, cls, d, rfl, IA', nb, up, sky, na, os, ag, b, hb1, hyes, hno⟩ := air
    have IA : Inv X pins τ G sA := IA'.ofTry okX
    have sky' : Sky B (X.env :: X.outer) a (Zc cls d) X.env.locals t₀.heap := by rw [← hs]; exact sky
    show wpAny (model X.prog X.w) X.A (noteFrame (.ref a) X.env) _ _ _
    refine Sky.land Zc.steady frX hf sky' fun k₁ air₁ up₁ => ?_
    have I₁ : Inv X pins τ G { t₀ with heap := k₁ } := IA.landed nb air₁.1 (up.trans up₁) os ag
    obtain ⟨o₁, f₁, g₁, z₁, d₁⟩ := air₁.there
    have outFr : a ∉ frs (X.env :: X.outer) := fun hm => by
      obtain ⟨_, o', e', hnf⟩ := air₁.2.2.1.mem hm
      rw [g₁] at e'; cases e'
      exact hnf _ d₁
    have aL : a ≠ X.env.locals := fun z => outFr (List.mem_filterMap.mpr ⟨X.env, List.mem_cons_self, by rw [hf, z]⟩)
    have aF : a ∉ X.fs := fun hm => by
      obtain ⟨ev, hev, q⟩ := List.mem_filterMap.mp hm
      exact outFr (List.mem_filterMap.mpr ⟨ev, List.mem_cons_of_mem _ hev, q⟩)
    -- the error is younger than the entry
    have notA : sA.heap.get? a = none := by
      cases e : sA.heap.get? a with
      | none => rfl
      | some ob =>
        have := nb a ob e (by rw [hs]; exact outFr)
        rw [air₁.2.1] at this; cases this
    have not0 : X.s_0.heap.get? a = none := by
      cases e : X.s_0.heap.get? a with
      | none => rfl
      | some ob =>
        obtain ⟨o', q⟩ := IA.base.there a ob e (by rw [hex]; simp)
        rw [notA] at q; cases q
    have nPins : ∀ p ∈ X.pn ++ pins, p.1 ≠ a := fun p hp z => by
      have := (IA.pin p hp).1
      rw [z, notA] at this; cases this
    have S₁ := I₁.suite g₁ d₁ na aL aF
    refine wpAny_handleBy_cons (codeAny_handlers_test ?_) (by intro q; cases q)
    have looksT : PySem.W.Looks (model X.prog X.w) k₁ (typeOf (.ref a)) cls := fun _ _ _ _ k q => wpAny_typeOf_ref (k _ _ g₁) (by rw [z₁.1]; exact q)
    have looksM := PySem.W.exm_one (M := model X.prog X.w) (I₁.kIn) looksT hb1
    have named : ∀ {Q E : Value → Shared → Prop}, Q c { t₀ with heap := k₁ } → wpAny (model X.prog X.w) (X.A.mark (some (.ref a))) (eval (.Name x np) X.env) Q E { t₀ with heap := k₁ } := fun {Q E} q => by
      obtain ⟨hg, hdbg, hm | ⟨hm, hv, hnn⟩⟩ := hc
      · exact ld_glob (X := X.suite a ((a, o₁) :: (X.pn ++ pins))) S₁ hg hm q hdbg
      · exact ld_blt (X := X.suite a ((a, o₁) :: (X.pn ++ pins))) S₁ hg hm hv q hnn hdbg
    refine named (looksM.here ?_)
    cases b with
    | true =>
      obtain ⟨dn0, hyes⟩ := hyes rfl
      subst dn0
      refine codeAny_handlers_suite_as (HandSPX.lands_againZ air₁ fun k₂ air₂ up₂ => ?_)
      have I₂ : Inv X pins τ G { t₀ with heap := k₂ } := IA.landed nb air₂.1 ((up.trans up₁).trans up₂) os ag
      obtain ⟨o₂, f₂, g₂, z₂, d₂⟩ := air₂.there
      refine store_ok (X := X.suite a ((a, o₂) :: (X.pn ++ pins))) (v := .ref a) (I₂.suite g₂ d₂ na aL aF) nodup hi (.inl hkind) rfl (fun t₃ S₃ => ?_) (.inr hkind)
      refine wpAny_mono ((hSuite a o₂ cls none (X.pn ++ pins) z₂ ⟨_, d₂⟩).run [] t₃ _ G _ S₃ (hyes a na)) (fun fl t₄ ended => ?_) (fun _ _ z => False.elim z)
      cases fl with
      | next =>
        obtain ⟨τ₄, G₄, S₄, q₄⟩ := ended
        obtain ⟨pg, pn, _⟩ := S₄.pin (a, o₂) (by simp)
        have I₄ := S₄.unsuite okX
        have nCell : ∀ y c, X.env.cells.lookup y = some c → c ≠ a := fun y c e z => by
          obtain ⟨v, ob, ho, hcell⟩ := I₄.cell y c e
          rw [z, pg] at ho; cases ho
          rw [d₂] at hcell; cases hcell
        have I₅ : Inv X pins τ₄ (upd G₄ a (.ext (excIs a cls))) t₄ := track I₄ not0 pn aL nCell nPins (excIs_ok pg z₂ d₂)
        exact gone_ok I₅ nodup hi hkind fun t₅ I₆ => ⟨_, _, I₆, q₄ pn⟩
      | brk => obtain ⟨_, _, _, z⟩ := ended; exact z.elim
      | cont => obtain ⟨_, _, _, z⟩ := ended; exact z.elim
      | ret u => obtain ⟨_, _, _, _, _, z⟩ := ended; exact z.elim
    | false =>
      show wpAny _ X.A (handleBy (.ref a) X.env []) _ _ _
      refine wpAny_handleBy_nil ?_
      obtain ⟨_, _, _, o₃, f₃, T, oT, us, g₃, _, d₃, h1, _⟩ := id air₁
      unfold PySem.passOn
      refine wpAny_bind (wpAny_field g₃ d₃ h1 ?_)
      rw [if_neg (show ¬ ((Value.ref T == Value.none) = true) from by simp)]
      have away : wpAny (model X.prog X.w) X.A (setFlight (.ref a) X.env.frame) (fun _ t₅ => wpAny (model X.prog X.w) X.A (throw (.ref a) : Sem Flow) (SP X pins D) X.xe t₅) X.xe { t₀ with heap := k₁ } := by
        rw [hf]
        exact HandSPX.setFlight_upZ air₁ fun k₃ air₃ up₃ => wpAny_throw (tk _ _ ⟨a, B, sA, pins, τ, G, cls, d, rfl, IA, nb, (up.trans up₁).trans up₃, .inr (.inr (by rw [hs]; exact air₃)), na, os, ag, hno rfl⟩)
      first
        | exact wpAny_bind (wpAny_pure (wpAny_bind away))
        | exact wpAny_bind away
  · cases fl with
    | next =>
      obtain ⟨τ, G, I₁, q⟩ := came
      exact wpAny_execs_nil ⟨τ, G, I₁.ofTry okX, q⟩
    | brk => obtain ⟨τ, G, I₁, q⟩ := came; exact ⟨τ, G, I₁.ofTry okX, q⟩
    | cont => obtain ⟨τ, G, I₁, q⟩ := came; exact ⟨τ, G, I₁.ofTry okX, q⟩
    | ret u => obtain ⟨v, τ, G, I₁, r, q⟩ := came; exact ⟨v, τ, G, I₁.ofTry okX, r, q⟩
end
end L2.Lh

/-! try .. except X as n over plain data; isinstance of a kept error -/
namespace L2.Lh
open PySem PySem.Spec PyProof.Rows
/-- what is known of classes: is an instance of the first one of the second? -/
abbrev CT := List (Value × Value × Bool)
inductive CtOk (K : PySem.W.Frag) : CT → Prop
  | nil : CtOk K []
  | own {C : Addr} {u : Value} {b : Bool} {r : CT} : ExcC K C → PySem.W.kitOne K (.ref C) u = some b → CtOk K r → CtOk K ((.ref C, u, b) :: r)
  | ty {n : String} {u : Value} {b : Bool} {r : CT} : PySem.W.kitOne K (.type n) u = some b → CtOk K r → CtOk K ((.type n, u, b) :: r)
theorem CtOk.kit {K : PySem.W.Frag} {t u : Value} {b : Bool} : ∀ {tb : CT}, CtOk K tb → (t, u, b) ∈ tb → PySem.W.kitOne K t u = some b
  | _, .nil, h => by cases h
  | _, .own _ k r, h => by
    cases h with
    | head => exact k
    | tail _ h => exact r.kit h
  | _, .ty k r, h => by
    cases h with
    | head => exact k
    | tail _ h => exact r.kit h
theorem CtOk.exc {K : PySem.W.Frag} {C : Addr} {u : Value} {b : Bool} : ∀ {tb : CT}, CtOk K tb → (Value.ref C, u, b) ∈ tb → ExcC K C
  | _, .nil, h => by cases h
  | _, .own e k r, h => by
    cases h with
    | head => exact e
    | tail _ h => exact r.exc h
  | _, .ty k r, h => by
    cases h with
    | tail _ h => exact r.exc h
def clsD (m : Mem) (d : D) : Option Value := match tyS m d with
  | some n => some (.type n)
  | none => match d with
    | .ref a => match m a with
      | some (.exc (.ref C)) => some (.ref C)
      | _ => none
    | _ => none
def clsA : D → Option Value
  | .ref C => some (.ref C)
  | .ty n => some (.type n)
  | _ => none
def isiE (tb : CT) : DRC
  | [d, c], m, q => match clsD m d, clsA c with
    | some t, some u => ∃ b, (t, u, b) ∈ tb ∧ q (.bl b) m
    | _, _ => False
  | _, _, _ => False
section
variable {X : Cx} {B : Bs}
theorem clsA_ok {K : PySem.W.Frag} {H : Hp} {d : D} {v : V} {u : Value} (r : Rep K H d v) (e : clsA d = some u) : ClsV v u := by
  cases r with
  | ty n => cases e; exact .ty n
  | ref a => cases e; exact .own a
  | _ => cases e
theorem c_isiE {tb : CT} (ok : CtOk X.K tb) : CallD X (.builtin "isinstance") (isiE tb) := by
  intro pins s σ H xs us Q I r ⟨ds, m, q, rs, sim, h, post⟩
  unfold isiE at h
  split at h
  · rename_i d c
    split at h
    · rename_i t u ht hu
      obtain ⟨b, hm, h⟩ := h
      obtain ⟨v, w, rfl, rv, rw'⟩ := reps2 rs
      have k := ok.kit hm
      have kc := clsA_ok rw' hu
      unfold clsD at ht
      split at ht
      · rename_i n en
        cases ht
        exact call_isi pins s σ H _ us Q I r ⟨v, _, _, _, b, rfl, kc, tyS_ok sim rv en, k, post.here h (.bl _) sim⟩
      · split at ht
        · rename_i a hy
          split at ht
          · rename_i C ea
            cases ht
            cases rv
            have hx : H a = some (.ext (excIs a (.ref C))) := sim a _ ea
            obtain ⟨⟨oe, vs, g, e1, e2, e3⟩, _⟩ := I.hok a _ hx
            cases r with
            | cons rx rr =>
              cases rr with
              | cons rt rr =>
                cases rr
                cases rx
                have ec := kc.eq rt
                subst ec
                obtain ⟨oc, od, oda, osl⟩ := oe
                dsimp only at e1 e2 e3
                subst e1 e2 e3
                have E := ok.exc hm
                have J : PySem.W.InstAt s.heap a ⟨.ref C, none, .fields vs, osl⟩ C none := ⟨g, rfl, rfl, trivial⟩
                exact PySem.W.kia_one (PySem.W.handS_kitx_exc E.hg E.hk E.hs E.hd E.ha E.hn E.ht E.hm) I.kIn J k (fun z => nomatch z) fun tk => ⟨.bl b, H, I.kept (t' := tk) fun _ _ z => z, rfl, post.here h (.bl b) sim⟩
          · cases ht
        · cases ht
    · exact h.elim
  · exact h.elim
/-- what an except clause takes -/
def ExOk (K : PySem.W.Frag) (xt : CT) : Prop := ∀ t ∈ xt, PySem.W.exmOne K t.1 t.2.1 = some t.2.2
theorem exOk_nil {K : PySem.W.Frag} : ExOk K [] := fun _ h => by cases h
theorem exOk_cons {K : PySem.W.Frag} {t u : Value} {b : Bool} {r : CT} (h : PySem.W.exmOne K t u = some b) (k : ExOk K r) : ExOk K ((t, u, b) :: r) := fun x hx => by
  cases hx with
  | head => exact h
  | tail _ hx => exact k x hx
/-- a clause's table is about classes alone, never about marks -/
theorem ExOk.plain {K : PySem.W.Frag} {xt : CT} (x : ExOk K xt) {c u : Value} {b : Bool} (h : (c, u, b) ∈ xt) : xvC c = c ∧ xvD c = none := by
  have e := x _ h
  cases c with
  | int i t =>
    exfalso
    simp only [PySem.W.exmOne, PySem.W.kitCls] at e
    split at e
    · split at e
      · split at e <;> simp [PySem.W.subIn] at e
      · split at e <;> simp [PySem.W.subIn] at e
      · cases e
    · cases e
  | _ => exact ⟨rfl, rfl⟩
def dTryK (tb : DWX → DTS) (xt : CT) (c : Value) (i : Nat) (ts : DTS) (we : DWX) : DTS := fun E ρ m =>
  tb (fun cls ρ1 m1 => ∃ b, (cls, c, b) ∈ xt ∧ (b = true → ∀ a, m1 a = none → ts { nx := fun ρ2 m2 => E.nx (ρ2.set i none) (m2.set a (.exc cls)), rt := fun _ _ => False } (ρ1.set i (some (.ref a))) m1) ∧ (b = false → we cls ρ1 m1)) E ρ m
end
end L2.Lh

/-! list methods, max, sum, t[::-1], o[i] as a target -/
namespace L2.Lh
open PySem PySem.Spec PyProof.Rows
section
variable {X : Cx}
end
/-! ### o[i] as a target -/
section
variable {X : Cx} {B : Bs}
end
/-! ### a comprehension to a cell -/
end L2.Lh
namespace HT2
open PySem PySem.Spec PyProof.Rows HT
section
variable {prog : Program} {w : World} {A : Around} {E : Value → Shared → Prop} {s : Shared}
end
end HT2
namespace L2.Lh
open PySem PySem.Spec PyProof.Rows
section
variable {X : Cx} {B : Bs}
end
end L2.Lh

namespace L2.Lh
open PySem PySem.Spec PyProof.Rows
section
variable {X : Cx} {B : Bs}
/-! ### a, b = x, y of plain local names -/
/-! ### xs += ys -/
end
end L2.Lh
namespace L2.Lh
open PySem PySem.Spec PyProof.Rows
section
variable {X : Cx} {B : Bs}
end
end L2.Lh
namespace L2.Lh
open PySem PySem.Spec PyProof.Rows
/-- what is known of an own class of errors under ValueError -/
structure ExcF (K : PySem.W.Frag) (mg : Str → Option Value) (x : Str) (C : Addr) : Prop where
  q : PySem.W.excIn K C [.type "ValueError", .type "Exception", .type "BaseException", .type "object"] "ValueError.__new__" = true
  g : mg x = some (.ref C)
  k : PySem.W.keepIn K (.ref C) = true
  b : PySem.W.subIn K (.ref C) (.type "BaseException") = some true
  t : PySem.W.typeIn K (.ref C) = some (.type "type")
end L2.Lh

/-! lambdas handed to a def of the law, over plain data -/
namespace L2.Lh
open PySem PySem.Spec PyProof.Rows LamX
abbrev lamN (X : Cx) : Str := X.env.qual ++ "<lambda>"
abbrev lamO (X : Cx) (params : Arguments) (body : Expr) (scope : Scope) (pm : Value) (c' : Addr) (ctv : Value) : Obj := PySem.W.kla_obj "<lambda>" (lamN X) params body scope (cloFrom X.env.cells scope.names []) pm c' ctv
/-- how the heap moves where a lambda is made -/
inductive Made (P c' : Addr) (nm : Str) (H : Hp) : Hp → Prop
  | old : Made P c' nm H H
  | new {ps more : Array Value} : H P = some (.tbl ps) → H c' = none → Made P c' nm H (upd (upd H P (.tbl (ps ++ more))) c' (CodeO c' nm))
section
variable {X : Cx} {pins : List (Addr × Obj)} {σ : L2.St} {H : Hp} {s : Shared}
theorem lam_make3 {c P : Addr} {params : Arguments} {body : Expr} {scope : Scope} {pos : Pos} {E : Value → Shared → Prop} {Q : Value → Shared → Prop} (I : Inv X pins σ H s) (TB : TabB X.base X.mg c P) (hcode : X.env.code = .ref c)
    (hT : TabS H P (lamN X)) (hdef : defaultsOf params X.env = ([], [])) (hfree : ∀ y ∈ scope.names, y.2 = .free → ∃ c, X.env.cells.lookup y.1 = some c)
    (h : ∀ (f c' : Addr) (pm ctv : Value) (H1 : Hp) (s' : Shared), Inv X pins σ H1 s' → Made P c' (lamN X) H H1 → TabS H1 P (lamN X) → s'.heap.get? f = some (lamO X params body scope pm c' ctv) → H1 f = none → f ∉ frs X.stack → H1 c' = some (CodeO c' (lamN X)) → Q (.ref f) s') :
    wpAny (model X.prog X.w) X.A (eval (.Lambda params body scope pos) X.env) Q E s := by
  obtain ⟨ps, tabP, tri, among⟩ := hT
  have objP : s.heap.get? P = some { cls := .none, data := .fields ps } := I.hok P _ tabP
  have blt : s.heap.BuiltinsAt X.mg P := TB.bm.keeps I.bk
  have codeC := TB.code.keeps I.bk
  have globs := I.mod.glob.keeps I.bk
  have outside : ∀ f, s.heap.objs.size ≤ f → f ∉ frs X.stack := fun f hf inn => by
    cases List.mem_cons.mp (I.stkSub _ inn) with
    | inl e => have lt := I.lt; rw [← e] at lt; exact absurd (Nat.lt_of_lt_of_le lt hf) (Nat.lt_irrefl _)
    | inr e => exact I.nofs hf e
  refine PySem.W.kla_eval hdef ?_
  cases look : codeAmong pos ps.toList with
  | some cv =>
    obtain ⟨c', rfl, isCode⟩ := among pos cv look
    refine PySem.W.kla_makeFunctionHit (ps := ps) (mg := X.mg) (P := P) (c := c) (closure_ok hfree) I.ok.glob globs hcode codeC objP tri look blt fun ctv h' tk ext size => ?_
    have I1 : Inv X pins σ H { s with heap := h'.push (lamO X params body scope ((X.mg "__name__").getD .none) c' ctv), toks := tk } := I.kept fun b o e => Heap.get?_push_of_some _ (ext b o e)
    exact h _ c' _ ctv H _ I1 .old ⟨ps, tabP, tri, among⟩ (Heap.get?_push_size _ rfl) (I.hok.fresh size) (outside _ size) isCode
  | none =>
    refine PySem.W.kla_makeFunction (ps := ps) (mg := X.mg) (P := P) (c := c) (closure_ok hfree) I.ok.glob globs hcode codeC objP tri look TB.gP blt fun c' ctv h' tk ext ge lt isRec tab' => ?_
    obtain ⟨c2, oc, vs, t, e2, hoc, hd, hv⟩ := isRec
    cases e2
    have size : s.heap.objs.size ≤ h'.objs.size := by omega
    have free : H c' = none := I.hok.fresh ge
    have I1 := inv_table (t' := tk) (h' := h'.push (lamO X params body scope ((X.mg "__name__").getD .none) c' ctv)) (more := #[rawInt pos.line, rawInt pos.col, .ref c']) I tabP
      (fun b o hb e => Heap.get?_push_of_some _ (ext b o hb e)) (Heap.get?_push_of_some _ tab') ge ⟨oc, vs, t, Heap.get?_push_of_some _ hoc, hd, hv⟩
    have listE : (ps ++ #[rawInt pos.line, rawInt pos.col, .ref c']).toList = ps.toList ++ [rawInt pos.line, rawInt pos.col, .ref c'] := by simp
    have pc : P ≠ c' := ne_of_none tabP free
    refine h _ c' _ ctv _ _ I1 (.new tabP free) ⟨_, by rw [upd_ne pc, upd_same], by rw [listE]; exact PySem.TriplesOk_snoc _ _ _ _ tri, fun p' cv hcv => ?_⟩ (Heap.get?_push_size _ rfl) ?_ (outside _ size) upd_same
    · rw [listE] at hcv
      cases among_app _ tri hcv with
      | inr z => exact ⟨c', z, upd_same⟩
      | inl z =>
        obtain ⟨c0, e1, e2⟩ := among p' cv z
        refine ⟨c0, e1, ?_⟩
        rw [upd_ne (ne_of_none e2 free), upd_ne (fun z => by rw [z, tabP] at e2; exact codeO_ne ps (Option.some.inj e2).symm)]
        exact e2
    · have n1 : h'.objs.size ≠ c' := by omega
      have n2 : h'.objs.size ≠ P := Nat.ne_of_gt (Nat.lt_of_lt_of_le (Heap.lt_size objP) size)
      rw [upd_ne n1, upd_ne n2]
      exact I.hok.fresh size
end
theorem Made.sim {K : PySem.W.Frag} {P c' : Addr} {nm : Str} {H H1 : Hp} {m : Mem} (d : Made P c' nm H H1) (s : Sim K H m) (hP : m P = some (.tbl nm)) (t : TabS H1 P nm) : Sim K H1 m ∧ Step H m H1 m := by
  cases d with
  | old => exact ⟨s, Step.refl _ _⟩
  | @new ps more e f =>
    have pc : P ≠ c' := ne_of_none e f
    have other : ∀ b o, H b = some o → b ≠ P → upd (upd H P (.tbl (ps ++ more))) c' (CodeO c' nm) b = some o := fun b o h n => by
      rw [upd_ne (ne_of_none h f), upd_ne n]; exact h
    have ex : Ext H (upd (upd H P (.tbl (ps ++ more))) c' (CodeO c' nm)) := ⟨fun b xs h => other b _ h (fun z => by subst z; rw [e] at h; cases h),
      fun b ob x h => other b _ h (fun z => by subst z; rw [e] at h; cases h), fun b q h => other b _ h (fun z => by subst z; rw [e] at h; exact codeO_ne ps (Option.some.inj h).symm)⟩
    refine ⟨fun a o ha => ?_, ⟨ex, fun b h => ?_, fun b o hn h => other b o h (fun z => by subst z; rw [hP] at hn; cases hn), fun _ _ h _ => h⟩⟩
    · by_cases z : a = P
      · subst z; rw [hP] at ha; cases ha; exact t
      · exact (s a o ha).mono ex fun u hu => other a u hu z
    · by_cases z : b = c'
      · subst z; exact f
      · by_cases z2 : b = P
        · subst z2; rw [upd_ne z, upd_same] at h; cases h
        · rw [upd_ne z, upd_ne z2] at h; exact h
/-- work(), in the def that got the lambda -/
theorem act3 {X : Cx} {pins : List (Addr × Obj)} {σ : L2.St} {H : Hp} {s : Shared} {CXg : CXT} {Eg : XK} {Ng : List Str} {qg : Str} {sg : Scope} {g f c' : Addr} {cdg pm ctv : Value} {params : Arguments} {body : Expr} {scope : Scope} {k i : Nat} {a : Str} {pn : List (Addr × Obj)} {xe : Value → Shared → Prop} {E : XK} {tb : TE} {p1 p2 : Pos}
    {pinsZ : List (Addr × Obj)} {σZ : L2.St} {HZ : Hp} {sZ : Shared} {Q : VK}
    (I : Inv X pins σ H s) (L : LamS X.env.scope scope) (hf : s.heap.get? f = some (lamO X params body scope pm c' ctv)) (hfn : H f = none) (hfr : f ∉ frs X.stack)
    (hbind : bindArgs (PySem.W.kla_fn "<lambda>" (lamN X) params body scope (cloFrom X.env.cells scope.names []) pm (.ref c') ctv) ⟨[], []⟩ = pure [])
    (hr : Room (k + 1) (X.A.deeper (envOfC qg sg s.heap.objs.size g cdg)))
    (hbody : ∀ (A : Around) (outer : List Env) (s : Shared) (H : Hp), Room k (A.deeper (lamEnv X scope s.heap.objs.size f c')) → PE (lamCx X A outer s H E scope f c') body tb)
    (hN : Ng[i]? = some a) (hv : Vis sg a) (hd : (a == ("__debug__" : Str)) = false) (hcd : (a == ("__classdict__" : Str)) = false)
    (IZ : Inv ((cxOf CXg X.prog X.w X.K X.mg X.base Ng qg sg g cdg X.A X.stack s H Eg).tr pn xe) pinsZ σZ HZ sZ)
    (hx : PassesAt (L2.CX X.prog X.w) ((cxOf CXg X.prog X.w X.K X.mg X.base Ng qg sg g cdg X.A X.stack s H Eg).tr pn xe) σZ E)
    (hs : σZ[i]? = some (some (.ref f))) (hc : HZ c' = some (CodeO c' (lamN X))) (ht : tb σ HZ Q) :
    wpAny (model X.prog X.w) ((cxOf CXg X.prog X.w X.K X.mg X.base Ng qg sg g cdg X.A X.stack s H Eg).tr pn xe).A (eval (.Call (.Name a p1) [] [] p2) ((cxOf CXg X.prog X.w X.K X.mg X.base Ng qg sg g cdg X.A X.stack s H Eg).tr pn xe).env)
      (EP ((cxOf CXg X.prog X.w X.K X.mg X.base Ng qg sg g cdg X.A X.stack s H Eg).tr pn xe) pinsZ σZ Q) xe sZ := by
  have name := (pe_var (X := (cxOf CXg X.prog X.w X.K X.mg X.base Ng qg sg g cdg X.A X.stack s H Eg).tr pn xe) (pos := p1) (i := i) hN hv hd hcd).run pinsZ sZ σZ HZ (fun v G => v = .ref f ∧ G = HZ) IZ ⟨.ref f, hs, rfl, rfl⟩
  refine wpAny_Call_Name_kw (thn name fun u s1 hu => ?_)
  obtain ⟨v, G, I1, rel, rfl, rfl⟩ := hu
  cases (show u = Value.ref f from rel)
  have objF : s1.heap.get? f = some (lamO X params body scope pm c' ctv) := I1.base.keep f _ hf hfn hfr (fun z => nomatch (show f ∈ ([] : List Addr) from z))
  obtain ⟨⟨oc, vs, t, hoc, hdc, hvc⟩, _, _⟩ := I1.hok c' _ hc
  have runs : codeAny (model X.prog X.w) (X.A.deeper (envOfC qg sg s.heap.objs.size g cdg)) (.call (.ref f) ⟨[], []⟩) (CR (L2.CX X.prog X.w) (envOfC qg sg s.heap.objs.size g cdg :: X.stack) X.prog X.w G s1 Q E) s1 := by
    refine PySem.W.kla_callFunE hr.depth objF rfl L.co L.gen rfl ⟨c', oc, vs, t, rfl, hoc, hdc, hvc⟩ ?_
    rw [hbind]
    refine wpAny_pure (wpAny_newFunctionEnv (fun y hy => (L.own y hy).2) (fun y hy => absurd hy (by simp)) (fun h₁ ns bt => ⟨I1.nolimit.fresh _ bt, ?_⟩) L.kind)
    have old : ∀ b o, s1.heap.get? b = some o → h₁.get? b = some o := fun b o e => bt.extBut b o (Nat.ne_of_lt (Heap.lt_size e)) (Heap.get?_push_of_some _ e)
    have J := lam_start2 (E := E) (f := f) (c' := c') (tk := s1.toks + ([] : List (Str × Value)).length) I L I1.env0 hr.hd (show Un (frs X.stack) [] H G s.heap s1.heap from I1.base) ns old
    show codeAny _ _ (.expr body (lamEnv X scope s1.heap.objs.size f c')) _ _
    refine PySem.W.kla_codeExpr (wpAny_mono ((hbody _ _ s1 G (hr.deeper _)).run [] _ _ G Q J ht) (fun v s' got => ?_) fun e s' got => got)
    obtain ⟨w', H', J', rv, q⟩ := got
    exact ⟨w', H', J'.os, J'.bare, J'.base, J'.hok, rv, q⟩
  refine PySem.W.callWith_F0 ⟨_, _, _, _, objF⟩ (wpAny_call (codeAny_mono runs fun r s' got => ?_))
  match r, got with
  | .error e, got => exact hx pinsZ G s1 e s' I1 got
  | .ok (.ret u), got => exact I1.after got
/-! ### over plain data -/
abbrev DLm := Mem → DQ → (Value → Mem → Prop) → Prop
/-- what a def makes of the lambda that it gets; it lets no error out -/
abbrev DSpL := DLm → Mem → DQ → Prop
def dAct (f : Addr) (dl : DLm) (we : DWX) : DTE := fun ρ m q => ρ[0]? = some (some (.ref f)) ∧ dl m q fun cls m' => we cls ρ m'
def dLam (sp : DSpL) (P : Addr) (nm : Str) (tb : DWX → DTE) : DTE := fun ρ m q => m P = some (.tbl nm) ∧ sp (fun m' k ke => tb (fun cls _ m2 => ke cls m2) ρ m' k) m q
abbrev ZX (X : Cx) (Ng : List Str) (x : Str) (sg : Scope) (g : Addr) (cdg : Value) (s : Shared) (H : Hp) : Cx := cxOf C8.CX0 X.prog X.w X.K X.mg X.base Ng x sg g cdg X.A X.stack s H C8.E0
/-- the promise of a def that gets a lambda -/
def GivesD (X : Cx) (k : Nat) (Ng : List Str) (x : Str) (sg : Scope) (g : Addr) (cdg : Value) (bg : List Stmt) (a : Str) (sp : DSpL) : Prop :=
  ∀ (f : Addr) (s : Shared) (H : Hp) (dl : DLm) (m : Mem) (q : DQ), Room k (ZX X Ng x sg g cdg s H).A → (ZX X Ng x sg g cdg s H).A.guards = some [] →
    (∀ (B' : Bs) (we : DWX) (pn : List (Addr × Obj)) (xe : Value → Shared → Prop) (p1 p2 : Pos), Step H m B'.H B'.m → Takes ((ZX X Ng x sg g cdg s H).tr pn xe) (upW X.K B' we) → DE B' ((ZX X Ng x sg g cdg s H).tr pn xe) (.Call (.Name a p1) [] [] p2) (dAct f dl we)) →
    sp dl m q → ∃ t : DTS, DSs ⟨H, m⟩ (ZX X Ng x sg g cdg s H).nox bg t ∧ t (defEnds q) (startD Ng [.ref f]) m
theorem de_lam {X : Cx} {B : Bs} {x a : Str} {g c P : Addr} {k : Nat} {pg : Arguments} {bg : List Stmt} {sg : Scope} {dV kV doc pm cdv ct oc : Value} {an od : Option Addr} {osl : Array (Option Value)} {Ng : List Str} {sp : DSpL}
    {params : Arguments} {body : Expr} {scope : Scope} {tb : DWX → DTE} {p lpos pos : Pos} (hg : Gl X x) (hm : X.mg x = some (.ref g)) (hk : PySem.W.keepIn X.K (.ref g) = true)
    (lk : X.K.lookup g = some ⟨oc, od, .func (PySem.W.fnOf x x pg bg sg dV kV doc pm an cdv ct), osl⟩) (hcg : PySem.W.codeIn X.K cdv x = true) (hb : L2.Binds X.K (PySem.W.fnOf x x pg bg sg dV kV doc pm an cdv ct) [a] []) (Sg : FnScope Ng [a] sg) (hNg : Ng[0]? = some a) (hva : Vis sg a)
    (hG : GivesD X (k + 1) Ng x sg g cdv bg a sp) (TB : TabB X.base X.mg c P) (hcode : X.env.code = .ref c) (hr : Room (k + 2) X.A) (gd : X.A.guards = some []) (L : LamS X.env.scope scope) (hdef : defaultsOf params X.env = ([], []))
    (hbind : ∀ (q : Str) (cl : List (Str × Addr)) (pm cv ctv : Value), bindArgs (PySem.W.kla_fn "<lambda>" q params body scope cl pm cv ctv) ⟨[], []⟩ = pure [])
    (hbody : ∀ (A : Around) (outer : List Env) (s : Shared) (H : Hp) (E : XK) (f c' : Addr) (B' : Bs) (ke : Value → Mem → Prop), Room k (A.deeper (lamEnv X scope s.heap.objs.size f c')) → Takes (lamCx X A outer s H E scope f c') (upW X.K B' fun cls _ m => ke cls m) → DE B' (lamCx X A outer s H E scope f c') body (tb fun cls _ m => ke cls m))
    (hdb : (x == ("__debug__" : Str)) = false := by decide) (hd : (a == ("__debug__" : Str)) = false := by decide) (hcd : (a == ("__classdict__" : Str)) = false := by decide) :
    DE B X (.Call (.Name x p) [.Lambda params body scope lpos] [] pos) (dLam sp P (lamN X) tb) := by
  refine ⟨fun pins s σ H Q I ⟨ρ, m, q, pre, ⟨hP, hsp⟩, post⟩ => ?_⟩
  refine wpAny_Call_Name_kw (ld_glob I hg hm ?_ hdb)
  refine PySem.W.callWith_K (h₀ := X.base) I.ok.mod.kin hk ?_ (by rfl) (by rfl)
  show wpAny _ _ (spliced ((false, eval (.Lambda params body scope lpos) X.env) :: backTo pos (starEach [] X.env))) _ _ s
  refine Calls.spliced_cons (lam_make3 I TB hcode (pre.sim P _ hP) hdef (L.has I.ok) fun f c' pm' ctv H1 s' I1 made tab objF nf nfr codeC => Calls.spliced_nil ⟨I1.kIn, ?_⟩)
  obtain ⟨sim1, st1⟩ := made.sim pre.sim hP tab
  have runs : codeAny (model X.prog X.w) X.A (.call (.ref g) ⟨[.ref f], []⟩) (CR C8.CX0 X.stack X.prog X.w H1 s' Q C8.E0) s' := by
    refine run_ofS (N := Ng) (ps := [a]) (us := [.ref f]) (vs := [.ref f]) lk hcg Sg hr I1.env0 (hb s' [.ref f] I1.kIn rfl) (.cons rfl .nil) rfl fun hr' => ?_
    have act : ∀ (B' : Bs) (we : DWX) (pn : List (Addr × Obj)) (xe : Value → Shared → Prop) (p1 p2 : Pos), Step H1 m B'.H B'.m → Takes ((ZX X Ng x sg g cdv s' H1).tr pn xe) (upW X.K B' we) →
        DE B' ((ZX X Ng x sg g cdv s' H1).tr pn xe) (.Call (.Name a p1) [] [] p2) (dAct f (fun m' k ke => tb (fun cls _ m2 => ke cls m2) ρ m' k) we) := fun B' we pn xe p1 p2 stB tk => by
      refine ⟨fun pinsZ sZ σZ HZ QZ IZ ⟨ρZ, mZ, qZ, pZ, ⟨h0, hdl⟩, postZ⟩ => ?_⟩
      have far : Step H m HZ mZ := st1.trans (stB.trans pZ.st)
      obtain ⟨v0, e0, r0⟩ := pZ.env.get h0
      cases r0
      refine act3 (k := k) (i := 0) (E := WE (upW X.K B' we) σZ) (tb := fun σ' H' Q' => ∃ B2, upE X.K B2 (tb fun cls _ m2 => we cls ρZ m2) σ' H' Q' ∧ B2 = ⟨HZ, mZ⟩) I1 L objF nf nfr (hbind _ _ _ _ _) hr' (fun A outer s2 H2 room => ?_) hNg hva hd hcd IZ (passAt tk σZ) e0 ((stB.ext.trans pZ.st.ext).cod c' _ codeC) ⟨_, ⟨ρ, mZ, qZ, ⟨pre.env.mono far.ext, pZ.sim, Step.refl _ _⟩, hdl, postZ⟩, rfl⟩
      refine ⟨fun pins2 s3 σ2 H3 Q2 I2 ⟨B2, h2, e2⟩ => ?_⟩
      subst e2
      refine (hbody A outer s2 H2 _ f c' ⟨HZ, mZ⟩ (fun cls m2 => we cls ρZ m2) room ((takes_of rfl rfl rfl rfl).imp fun cls d σ' H' ⟨c, e, ρ', m', p', w'⟩ => ?_)).run pins2 s3 σ2 H3 Q2 I2 h2
      exact ⟨c, e, ρZ, m', ⟨pZ.env.mono p'.st.ext, p'.sim, pZ.st.trans p'.st⟩, w'⟩
    obtain ⟨t, ht, hq⟩ := hG f s' H1 _ m q hr' gd act hsp
    refine ⟨upS X.K ⟨H1, m⟩ t, PSs.nox ht, startD Ng [.ref f], m, defEnds q, ⟨start_ok (.cons (.ref f) .nil), sim1, Step.refl _ _⟩, hq, ?_⟩
    have done : ∀ d m' v H', (∃ m2 : Mem, m2.le m' ∧ q d m2) → Rep X.K H' d v → Sim X.K H' m' → Step H1 m H' m' → Q v H' := fun d m' v H' ⟨m2, le, h2⟩ rd s2 st => post d m2 v H' h2 rd (s2.forget le) (st1.trans (st.forget le))
    exact ⟨fun ρ' m' σ' H' h2 _ s2 st => done .non m' .non H' h2 .non s2 st, fun d m' v H' h2 rd s2 st => done d m' v H' h2 rd s2 st, fun _ _ _ _ z => z.elim, fun _ _ _ _ z => z.elim⟩
  refine wpAny_call (codeAny_mono runs fun r s2 got => ?_)
  match r, got with
  | .error e, got => exact (show False from got).elim
  | .ok (.ret u), got => exact I1.after got
end L2.Lh

/-! try over plain data, the body knowing where the def stands -/
namespace L2.Lh
open PySem PySem.Spec PyProof.Rows LamX
section
variable {X : Cx} {B : Bs}
theorem ds_tryKS {x n : Str} {c : Value} {i : Nat} {body suite : List Stmt} {b₀ : Stmt} {np pos pos' : Pos} {tb : DWX → DTS} {ts : DTS} {we : DWX} {xt : CT}
    (hex : X.ex = []) (hs : X.stack = X.env :: X.outer) (hf : X.env.frame = some X.env.locals) (nodup : X.N.Nodup) (xo : ExOk X.K xt) (tk : Takes X (upW X.K B we))
    (hBody : ∀ (B' : Bs) (we' : DWX) (pn : List (Addr × Obj)) (xe : Value → Shared → Prop), Step B.H B.m B'.H B'.m → Takes (X.tr pn xe) (upW X.K B' we') → PassesOwn (model X.prog X.w) X.A X.env xe → DSs B' (X.tr pn xe) body (tb we'))
    (hSuite : ∀ (B' : Bs) (a : Addr) (pn : List (Addr × Obj)), DSs B' (X.suite a pn) (b₀ :: suite) ts)
    (hc : Names X x c) (hi : X.N[i]? = some n := by rfl) (hkind : X.env.kindOf n = some .local := by rfl) :
    DS B X (.Try body [.ExceptHandler (some (.Name x np)) (some n) (b₀ :: suite) pos'] [] [] pos) (dTryK tb xt c i ts we) := by
  refine ps_imp (ps_tryK (tb := fun W F σ H => ∃ ρ m E we', Step B.H B.m H m ∧ Pre X.K ⟨H, m⟩ ρ m σ H ∧ (∀ cls d σ' H', upW X.K ⟨H, m⟩ we' cls d σ' H' → W cls d σ' H') ∧ tb we' E ρ m ∧ EndsOk X.K H m E F)
    (ts := fun _ _ _ F σ H => ∃ B', upS X.K B' ts F σ H) hex hs hf nodup hi hkind hc tk ?_ ?_) ?_
  · intro W pn xe tk' po'
    refine ⟨fun pins s σ H F I ⟨ρ, m, E, we', stB, p, hw, ht, eo⟩ => ?_⟩
    exact (hBody ⟨H, m⟩ we' pn xe stB (tk'.imp fun cls d σ' H' z => hw cls d σ' H' z) po').run pins s σ H F I ⟨ρ, m, E, p, ht, eo⟩
  · intro a oe cls d pn hz hd
    exact ⟨fun pins s σ H F I ⟨B', h⟩ => (hSuite B' a _).run pins s σ H F I h⟩
  · rintro F σ H ⟨ρ, m, E, p, h, eo⟩
    refine ⟨ρ, m, E, _, p.st, ⟨p.env, p.sim, Step.refl _ _⟩, ?_, h, eo⟩
    rintro cls d σ' H' ⟨c0, ⟨dn1, dn2⟩, ρ1, m1, p1, b, hb, hyes, hno⟩
    obtain ⟨e1, e2⟩ := xo.plain hb
    rw [e1] at dn1; rw [e2] at dn2; subst dn1 dn2
    refine ⟨b, xo _ hb, fun e => ⟨rfl, fun a ha => ?_⟩, fun e => ⟨_, ⟨e1.symm, e2.symm⟩, ρ1, m1, ⟨p1.env, p1.sim, p.st.trans p1.st⟩, hno e⟩⟩
    have hm : m1 a = none := p1.sim.free ha
    refine ⟨⟨H', m1⟩, ρ1.set i (some (.ref a)), m1, _, ⟨p1.env.set (.ref a) i, p1.sim, Step.refl _ _⟩, hyes e a hm, ?_, ?_, ?_, ?_⟩
    · intro ρ2 m2 σ2 H2 q2 env2 sim2 st2 g2
      refine eo.nx _ _ _ _ q2 ((env2.mono (upd_new g2)).setNone i) (sim2.allocM g2 upd_same) (p1.st.trans (st2.trans (Step.allocM g2)))
    · intro _ _ _ _ z; exact z.elim
    · intro _ _ _ _ z; exact z.elim
    · intro _ _ _ _ z; exact z.elim
/-- within a def that gets a lambda nothing is let out -/
theorem takes0D {we : DWX} (h : ∀ cls ρ m, ¬ we cls ρ m) : Takes X (upW X.K B we) := takes0.imp fun cls d σ H ⟨c, _, ρ, m, _, w⟩ => (h c ρ m w).elim
end
end L2.Lh

/-! the end of a law that makes lambdas: the tables of code objects stand in the memory -/
namespace L2.Lh
open PySem PySem.Spec PyProof.Rows LamX
/-- code object, table, the lambdas' name -/
abbrev Tb := Addr × Addr × Str
def spLawT (n : Nat) (T : List Tb) : DSp := sp1 fun d m q qe => ∃ ns : List Int, d = .rol (ns.map D.int) ∧ ns.length ≤ n ∧ (∀ t ∈ T, m t.2.1 = some (.tbl t.2.2)) ∧ ∀ m, q (.bl true) m
def tabM (T : List Tb) : Mem := fun b => (T.find? fun t => t.2.1 == b).map fun t => .tbl t.2.2
theorem tabM_at {T : List Tb} (nd : (T.map (·.2.1)).Nodup) : ∀ t ∈ T, tabM T t.2.1 = some (.tbl t.2.2) := by
  induction T with
  | nil => intro t h; cases h
  | cons u T ih =>
    intro t h
    rw [List.map_cons, List.nodup_cons] at nd
    unfold tabM
    rw [List.find?_cons]
    by_cases e : u.2.1 = t.2.1
    · rw [show (u.2.1 == t.2.1) = true by simp [e]]
      rcases List.mem_cons.mp h with rfl | h
      · rfl
      · exact absurd (List.mem_map.mpr ⟨t, h, e.symm⟩) nd.1
    · rw [show (u.2.1 == t.2.1) = false by simp [e]]
      rcases List.mem_cons.mp h with rfl | h
      · exact absurd rfl e
      · exact ih nd.2 t h
theorem tabM_of {T : List Tb} {b : Addr} {o : MO} (h : tabM T b = some o) : ∃ t ∈ T, t.2.1 = b ∧ o = .tbl t.2.2 := by
  unfold tabM at h
  rw [Option.map_eq_some_iff] at h
  obtain ⟨t, h1, h2⟩ := h
  exact ⟨t, List.mem_of_find?_eq_some h1, by simpa using List.find?_some h1, h2.symm⟩
def emptyTab : Obj := { cls := .none, data := .fields #[] }
theorem lawGT {P : Program} {w : World} {K : PySem.W.Frag} {mg mb : Str → Option Value} {k n : Nat} {fa a : Addr} {fd : FuncData} {x : Str} {T : List Tb} {s₁ : Shared} {vs : List Value} {ns : List Int}
    (KX : K.In s₁.heap) (gN : s₁.heap.Ns mainGlobals mg) (bN : s₁.heap.Ns builtinsNs mb) (bB : ∀ x : Str, x ≠ "__name__" → mb x = bootBuiltins x) (lim : s₁.heap.NoLimit) (gens : s₁.gens = #[])
    (nd : (T.map (·.2.1)).Nodup) (empty : ∀ t ∈ T, s₁.heap.get? t.2.1 = some emptyTab) (notK : ∀ t ∈ T, K.lookup t.2.1 = none) (codes : ∀ t ∈ T, PySem.W.CodeHd s₁.heap t.1 t.2.1)
    (bmod : ∃ (bm : Addr) (ob : Obj), mg "__builtins__" = some (.ref bm) ∧ bm ≠ builtinsNs ∧ s₁.heap.get? bm = some ob ∧ ob.cls = .type "module" ∧ ob.dict = some builtinsNs ∧ ob.data = .plain)
    (scr : s₁.heap.get? a = some { cls := .type "list", data := .seq vs.toArray }) (hI : IntsAre vs ns) (hn : ns.length ≤ n) (hl : n ≤ sizeLine) (hr : Room k callerA)
    (F : ∀ base : Heap, K.In base → base.Ns mainGlobals mg → (∀ t ∈ T, TabB base mg t.1 t.2.1) → FnDG P w K mg base k fa fd [x] (spLawT n T)) (binds : ∀ (s : Shared) (u : Value), BindsTo s fd ⟨[u], []⟩ [(x, u)]) :
    codeAny (model P w) callerA (.call (.ref fa) ⟨[.ref a], []⟩) (fun r s' => r = .ok (.ret (.bool true)) ∧ OldK s₁.heap s'.heap ∧ s'.os = s₁.os ∧ AllBare s'.gens) s₁ := by
  obtain ⟨ob, hob⟩ : ∃ ob : Obj, ob = { cls := .type "list", data := .seq vs.toArray } := ⟨_, rfl⟩
  have aT : ∀ t ∈ T, t.2.1 ≠ a := fun t ht z => by
    have e := empty t ht
    rw [z, scr] at e
    have e2 : Data.seq vs.toArray _ = Data.fields #[] := congrArg Obj.data (Option.some.inj e)
    cases e2
  -- the abstract heap: the script, if it isn't of the kept part, and the tables
  obtain ⟨S, sK, sS, sH⟩ : ∃ S : Option HO, (∀ u, S = some u → K.lookup a = none) ∧ (∀ H : Hp, H a = S → Rep K H (.rol (ns.map D.int)) (.ref a)) ∧ (∀ u, S = some u → u = .frz ob (.lst (ns.map V.int))) := by
    by_cases hk : K.lookup a = none
    · exact ⟨some (.frz ob (.lst (ns.map V.int))), fun _ _ => hk, fun H e => .rol (.inl ⟨ob, e⟩) (Reps.ints ns), fun _ e => (Option.some.inj e).symm⟩
    · obtain ⟨o, ho⟩ := Option.ne_none_iff_exists'.mp hk
      have eo : o = { cls := .type "list", data := .seq vs.toArray } := Option.some.inj ((KX a o ho).symm.trans scr)
      subst eo
      exact ⟨none, (fun _ e => nomatch e), fun H _ => .rol (.inr ⟨_, vs.toArray, _, ho, rfl, rfl, rfl, by rw [List.size_toArray, hI.length]; omega, by simpa using vals_ints hI⟩) (Reps.ints ns), (fun _ e => nomatch e)⟩
  obtain ⟨H, Ha, Ht, Hn⟩ : ∃ H : Hp, H a = S ∧ (∀ t ∈ T, H t.2.1 = some (.tbl #[])) ∧ (∀ b u, H b = some u → (b = a ∧ S = some u) ∨ ((∃ t ∈ T, t.2.1 = b) ∧ u = .tbl #[])) := by
    refine ⟨fun b => if b = a then S else if b ∈ T.map (·.2.1) then some (.tbl #[]) else none, if_pos rfl, fun t ht => ?_, fun b u h => ?_⟩
    · show (if t.2.1 = a then _ else _) = _
      rw [if_neg (aT t ht), if_pos (List.mem_map.mpr ⟨t, ht, rfl⟩)]
    · have h : (if b = a then S else if b ∈ T.map (·.2.1) then some (HO.tbl #[]) else none) = some u := h
      by_cases e : b = a
      · rw [if_pos e] at h; exact .inl ⟨e, h⟩
      · rw [if_neg e] at h
        by_cases e2 : b ∈ T.map (·.2.1)
        · rw [if_pos e2] at h
          obtain ⟨t, ht, et⟩ := List.mem_map.mp e2
          exact .inr ⟨⟨t, ht, et⟩, (Option.some.inj h).symm⟩
        · rw [if_neg e2] at h; cases h
  have hok : HOk P w H s₁.heap := fun b u h => by
    rcases Hn b u h with ⟨e1, e2⟩ | ⟨⟨t, ht, e1⟩, e2⟩
    · have := sH u e2
      subst this e1
      rw [hob]
      exact ⟨scr, by rw [List.length_map]; omega, vs, _, vals_ints hI, scr⟩
    · subst e1 e2
      exact empty t ht
  have free : ∀ {b : Addr} {o : Obj}, s₁.heap.get? b = some o → (K.lookup b = some o ∨ ((∀ xs c, o.data ≠ .seq xs c) ∧ o.data ≠ .fields #[])) → H b = none := fun {b o} e d => by
    cases q : H b with
    | none => rfl
    | some u =>
      rcases Hn b u q with ⟨e1, e2⟩ | ⟨⟨t, ht, e1⟩, e2⟩
      · subst e1
        rcases d with d | d
        · rw [sK u e2] at d; cases d
        · rw [scr] at e; cases e; exact (d.1 _ _ rfl).elim
      · subst e1
        rcases d with d | d
        · rw [notK t ht] at d; cases d
        · rw [empty t ht] at e; cases e; exact (d.2 rfl).elim
  have base : ∀ {b : Addr} {o : Obj}, s₁.heap.get? b = some o → (K.lookup b = some o ∨ ((∀ xs c, o.data ≠ .seq xs c) ∧ o.data ≠ .fields #[])) → (hidT s₁.heap H).get? b = some o := fun e d => hidT_get e (free e d)
  have ns' : ∀ {b : Addr} {m : Str → Option Value}, s₁.heap.Ns b m → (hidT s₁.heap H).Ns b m := fun {b m} ⟨o, es, ep, e, d, r⟩ =>
    ⟨o, es, ep, base e (.inr ⟨fun xs c z => (by rw [d] at z; cases z), fun z => (by rw [d] at z; cases z)⟩), d, r⟩
  have kIn : K.In (hidT s₁.heap H) := fun b o e => base (KX b o e) (.inl e)
  have tabs : ∀ t ∈ T, TabB (hidT s₁.heap H) mg t.1 t.2.1 := fun t ht => by
    constructor
    · obtain ⟨o, us, file, tf, flags, tg, inF, text, tt, e1, r⟩ := codes t ht
      have r2 := r.2.1
      have r3 := r.2.2.1
      refine ⟨o, us, file, tf, flags, tg, inF, text, tt, base e1 (.inr ⟨fun xs c z => ?_, fun z => ?_⟩), r⟩
      · rw [r2] at z; cases z
      · rw [r2] at z; cases z; simp at r3
    · obtain ⟨bm, o, b1, b2, b3, b4, b5, b6⟩ := bmod
      refine ⟨bm, o, b1, b2, fun z => ?_, fun z => ?_, base b3 (.inr ⟨fun xs c z => ?_, fun z => ?_⟩), b4, b5, b6⟩
      · obtain ⟨o2, es, ep, e, hd, _⟩ := gN
        rw [z, e] at b3; cases b3; rw [hd] at b6; cases b6
      · rw [z, empty t ht] at b3; cases b3; cases b6
      · rw [b6] at z; cases z
      · rw [b6] at z; cases z
    · intro z
      obtain ⟨o, es, ep, e, hd, _⟩ := gN
      rw [z, empty t ht] at e; cases e; cases hd
  obtain ⟨mc, l1, l2⟩ := lim
  have e0 : Env0 P w K mg (hidT s₁.heap H) callerA [] s₁ H := { frames := rfl, mod := ⟨kIn, ns' gN, ⟨mb, ns' bN, bB⟩, ⟨mc, ns' l1, l2⟩⟩, bs := fun b o e => of_hidT e, bsz := Nat.le_of_eq (hidT_size _ _), funs := trivial, frf := (fun _ z => nomatch z), hok := hok, bare := .of_eq gens }
  have sim : Sim K H (tabM T) := fun b o h => by
    obtain ⟨t, ht, rfl, rfl⟩ := tabM_of h
    exact TabS.nil (Ht t ht)
  have rep : Rep K H (.rol (ns.map D.int)) (.ref a) := sS H Ha
  refine codeAny_mono ((F _ kIn (ns' gN) tabs).run callerA [] s₁ H ⟨[.ref a], []⟩ [.ref a] [.ref a] (fun v _ => v = .bl true) (fun _ _ _ => False) rfl hr e0 (binds s₁ (.ref a)) (.cons rfl .nil)
    ⟨[.rol (ns.map D.int)], tabM T, fun d _ => d = .bl true, fun _ _ => False, .cons rep .nil, sim, ⟨ns, rfl, hn, tabM_at nd, fun _ => rfl⟩, fun d m v H' hd r _ _ => by subst hd; cases r; rfl, fun _ _ _ z _ _ => z.elim⟩) fun r s' h => ?_
  match r, h with
  | .error e, h => exact (law_cx h).elim
  | .ok .next, h => exact False.elim h
  | .ok .brk, h => exact False.elim h
  | .ok .cont, h => exact False.elim h
  | .ok (.ret u), ⟨v, H', os, bare, un, hok', r', q⟩ =>
    have q' : v = .bl true := q
    subst q'
    have eu : u = Value.bool true := r'
    subst eu
    have kept : ∀ b o, (∀ t ∈ T, t.2.1 ≠ b) → s₁.heap.get? b = some o → s'.heap.get? b = some o := fun b o nb e => by
      cases z : H b with
      | none => exact un.keep b o e z (fun y => nomatch y) (fun y => nomatch y)
      | some u =>
        rcases Hn b u z with ⟨e1, e2⟩ | ⟨⟨t, ht, e1⟩, _⟩
        · have hu := sH u e2
          subst hu
          have f1 := (hok b _ z).1
          have f2 := (hok' b _ (un.frzs b _ _ z)).1
          rw [e] at f1; cases f1
          exact f2
        · exact (nb t ht e1).elim
    have grown : ∀ t ∈ T, ∃ more : Array Value, s'.heap.get? t.2.1 = some { cls := .none, data := .fields more } := fun t ht => by
      obtain ⟨more, z⟩ := un.tbls t.2.1 #[] (Ht t ht)
      exact ⟨_, hok' t.2.1 _ z⟩
    refine ⟨rfl, ⟨fun b o e => ?_, fun b o e => ?_⟩, os, bare⟩
    · by_cases hb : ∃ t ∈ T, t.2.1 = b
      · obtain ⟨t, ht, rfl⟩ := hb
        obtain ⟨more, hm⟩ := grown t ht
        have eo := (empty t ht).symm.trans e
        cases eo
        exact .inr (.inl ⟨((codes t ht).tab (empty t ht)).isCodeTable, rfl, #[], more, rfl, by rw [Array.empty_append]; exact hm⟩)
      · exact .inl (kept b o (fun t ht z => hb ⟨t, ht, z⟩) e)
    · by_cases hb : ∃ t ∈ T, t.2.1 = b
      · obtain ⟨t, ht, rfl⟩ := hb
        obtain ⟨more, hm⟩ := grown t ht
        exact ⟨_, hm⟩
      · exact ⟨o, kept b o (fun t ht z => hb ⟨t, ht, z⟩) e⟩
/-- the table of a def's code object is empty at the head -/
def OwnT (K : PySem.W.Frag) (mg : Str → Option Value) (h : Heap) (nm : Str) : Prop := ∀ (f c P : Addr) (o : Obj) (fd : FuncData) (e : Value) (dd : Option Addr) (vs : Array Value) (sl : Array (Option Value)),
  mg nm = some (.ref f) → K.lookup f = some o → o.data = .func fd → fd.code = .ref c → K.lookup c = some ⟨e, dd, .fields vs, sl⟩ → vs[11]? = some (.ref P) → h.get? P = some emptyTab ∧ PySem.W.CodeHd h c P
theorem walkGT {l : PySem.W.OpenLaw} {n k : Nat} {q : Program} {loose : List Str} {XP : (Str → Option Value) → Heap → Prop} {YP : World → Heap → Prop} {d : DefRec} {K : Params → PySem.W.Frag} {x : Str} (names : List Str)
    (hn : l.most = some n) (hn2 : n ≤ sizeLine) (hdf : d.params.defaults = []) (hr : Room k callerA) (hrec : (names.all fun nm => (recsOf q).any fun e => e.name == nm) = true) (hY : ∀ (w : World) (h : Heap), YP w h → (K w.params).In h)
    (F : ∀ (w : World) (mg : Str → Option Value) (fa : Addr) (h : Heap), (K w.params).In h → h.Ns mainGlobals mg → mg d.name = some (.ref fa) → (∀ nm ∈ names, OwnT (K w.params) mg h nm) →
      ∃ (fd : FuncData) (T : List Tb), (T.map (·.2.1)).Nodup ∧ (∀ t ∈ T, h.get? t.2.1 = some emptyTab) ∧ (∀ t ∈ T, (K w.params).lookup t.2.1 = none) ∧ (∀ t ∈ T, PySem.W.CodeHd h t.1 t.2.1) ∧ (∀ (s : Shared) (u : Value), BindsTo s fd ⟨[u], []⟩ [(x, u)]) ∧
        ∀ base : Heap, (K w.params).In base → base.Ns mainGlobals mg → (∀ t ∈ T, TabB base mg t.1 t.2.1) → FnDG l.prog w (K w.params) mg base k fa fd [x] (spLawT n T)) :
    PySem.W.WalkO q loose XP YP l.row.toRowW d [] (fun f vs => PySem.call f vs) :=
  Att.attach_call hn hdf fun w s₀ s₁ mg mb fa o pm cd doc a vs ns G Y ho hd hcd hmg hobj hI hlen hg => by
    have KX := hY w _ Y
    have own : ∀ nm ∈ names, OwnT (K w.params) mg s₁.heap nm := fun nm hnm f c P o1 fd1 e dd vs1 sl k0 k1 k2 k3 k4 k5 => by
      obtain ⟨dL, hm, hn1⟩ := List.any_eq_true.mp (List.all_eq_true.mp hrec nm hnm)
      obtain ⟨a', o', fd', c', P', h1, h2, h3, h4, h5, h6⟩ := G.T.tab dL hm
      rw [beq_iff_eq.mp hn1, k0] at h1
      cases h1
      have g1 := (KX _ _ k1).symm.trans h2
      cases g1
      cases k2.symm.trans h3
      cases k3.symm.trans h4
      obtain ⟨⟨oc, vc, e1, e2, e3, e4⟩, hP⟩ := id h6
      have g2 := (KX _ _ k4).symm.trans e1
      cases g2
      cases e3
      cases k5.symm.trans e4
      exact ⟨hP, PySem.W.CodeHd.of h5 h6⟩
    obtain ⟨fd, T, nd, hT, nT, C, hb, hF⟩ := F w mg fa _ KX G.T.g hmg own
    exact lawGT KX G.T.g G.T.b G.T.builtins G.T.nolimit hg nd hT nT C G.T.bmain hobj hI hlen hn2 hr hF hb
/-- a def that needs no word about repr -/
theorem FnDG.of {P : Program} {w : World} {K : PySem.W.Frag} {mg : Str → Option Value} {base : Heap} {k : Nat} {f : Addr} {fd : FuncData} {ps : List Str} {sp : DSp} (F : FnD P w K mg base k f fd ps sp) : FnDG P w K mg base k f fd ps sp :=
  ⟨F.len, fun A outer s H args us vs Q E _ hr e0 hb r h => F.run A outer s H args us vs Q E hr e0 hb r h⟩
end L2.Lh

/-! defs that make lambdas -/
namespace L2.Lh
open PySem PySem.Spec PyProof.Rows LamX
section
variable {P : Program} {w : World} {K : PySem.W.Frag} {mg : Str → Option Value} {base : Heap}
theorem fnG_bodyC {x qual : Str} {st : Stmt} {f : Addr} {fd : FuncData} {N ps : List Str} {k : Nat} {sp : Sp} (F : Fun K x qual st f fd) (S : FnScope N ps (defScope st)) (len : ∀ vs H Q E, sp vs H Q E → vs.length = ps.length)
    (body : ∀ (cdv : Value) (A : Around) (outer : List Env) (s : Shared) (H : Hp) (vs : List V) (Q : VK) (E : XK), fd.code = cdv → A.guards = some [] → Room k (A.deeper (envOfC qual (defScope st) s.heap.objs.size f cdv)) → sp vs H Q E →
      ∃ t, PSs (cxOf (L2.CX P w) P w K mg base N qual (defScope st) f cdv A outer s H E) (defBody st) t ∧ t { nx := fun _ H' => Q .non H', rt := Q } (start N vs) H) : FnG P w K mg base (k + 1) f fd ps sp := by
  obtain ⟨oc, od, kV, doc, pm, an, cdv, ct, osl, rfl, lk, hcd⟩ := F.ex
  have F' : Fun K x qual st f (PySem.W.fnOf x qual (defArgs st) (defBody st) (defScope st) .none kV doc pm an cdv ct) := F
  refine ⟨len, fun A outer s H args us vs Q E hgd hr e0 hb r hsp => ?_⟩
  have KX : K.In s.heap := e0.mod.kin.keeps fun b o e => (e0.bs b o e).1
  have lim : s.heap.NoLimit := e0.mod.nolimit.keeps fun b o e => (e0.bs b o e).1
  refine codeAny_call_function hr.depth (KX _ _ lk) rfl S.co S.gen rfl (PySem.W.codeRec_of KX hcd) (hb _ _ _ _ ?_)
  have kinds : ∀ y ∈ ps.zip us, (defScope st).names.lookup y.1 = some .local ∨ ((defScope st).names.lookup y.1 = some .cell ∧ ((cellsFrom (s.heap.objs.size + 1) (defScope st).names []).lookup y.1).isSome = true) := by
    intro y hy
    cases S.par y.1 (List.of_mem_zip hy).1 with
    | inl q => exact .inl q
    | inr q => exact .inr ⟨q, PySem.W.cellsFrom_some _ _ _ (.inl q)⟩
  refine wpAny_newFunctionEnv_cells S.kind kinds fun env he s1 inc => ?_
  cases he
  obtain ⟨t, ht, hq⟩ := body cdv A outer s H vs Q E rfl hgd (hr.deeper _) hsp
  have I := inv_start (CX := L2.CX P w) (E := E) (N := N) S hr.hd e0 (len _ _ _ _ hsp) r inc
  refine ⟨lim.keeps inc.toInCall.keep, codeAny_func (wpAny_mono (ht.run [] s1 (start N vs) H _ I hq) (fun fl s' hs => ?_) fun _ _ z => z)⟩
  match fl, hs with
  | .ret u, ⟨v, σ', H', J, rv, q⟩ => exact ⟨v, H', J.os, J.bare, J.base, J.hok, rv, q⟩
  | .next, ⟨σ', H', J, q⟩ => exact ⟨.non, H', J.os, J.bare, J.base, J.hok, rfl, q⟩
  | .brk, ⟨_, _, _, q⟩ => exact q.elim
  | .cont, ⟨_, _, _, q⟩ => exact q.elim
theorem fnDG_ofC {x qual : Str} {st : Stmt} {f : Addr} {fd : FuncData} {N ps : List Str} {k : Nat} {sp : DSp} (F : Fun K x qual st f fd) (S : FnScope N ps (defScope st)) (len : ∀ {ds m q qe}, sp ds m q qe → ds.length = ps.length)
    (body : ∀ (cdv : Value) (A : Around) (outer : List Env) (s : Shared) (H : Hp) (E : XK) (B : Bs) (qe : Value → Mem → Prop), fd.code = cdv →
      Room k (A.deeper (envOfC qual (defScope st) s.heap.objs.size f cdv)) → (cxOf (L2.CX P w) P w K mg base N qual (defScope st) f cdv A outer s H E).A.guards = some [] →
      Takes (cxOf (L2.CX P w) P w K mg base N qual (defScope st) f cdv A outer s H E) (upW K B fun cls _ m => qe cls m) →
      PassesOwn (model P w) (cxOf (L2.CX P w) P w K mg base N qual (defScope st) f cdv A outer s H E).A (cxOf (L2.CX P w) P w K mg base N qual (defScope st) f cdv A outer s H E).env (cxOf (L2.CX P w) P w K mg base N qual (defScope st) f cdv A outer s H E).xe →
      ∃ t, DSs B (cxOf (L2.CX P w) P w K mg base N qual (defScope st) f cdv A outer s H E) (defBody st) t ∧ ∀ ds m q, sp ds m q qe → t (defEnds q) (startD N ds) m) : FnDG P w K mg base (k + 1) f fd ps sp := by
  refine fnG_bodyC F S (fun vs H Q E h => ?_) (fun cdv A outer s H vs Q E hc hgd hr h => ?_)
  · obtain ⟨ds, m, q, qe, r, _, h, _⟩ := h
    rw [← r.length]
    exact len h
  · obtain ⟨ds, m, q, qe, r, sim, h, post, hE⟩ := h
    have tk : Takes (cxOf (L2.CX P w) P w K mg base N qual (defScope st) f cdv A outer s H E) (upW K ⟨H, m⟩ fun cls _ m => qe cls m) :=
      (takes_of (E := E) rfl rfl rfl rfl).imp fun cls d σ H' ⟨c, ⟨e1, e2⟩, ρ, m', p, q'⟩ => by
        subst e1 e2
        exact hE c m' H' q' p.sim p.st
    obtain ⟨t, ht, hq⟩ := body cdv A outer s H E ⟨H, m⟩ qe hc hr hgd tk (passes_of (K := fun e s'' => L2.CX P w outer H s E e s'') rfl)
    refine ⟨_, ht, startD N ds, m, defEnds q, ⟨start_ok r, sim, Step.refl _ _⟩, hq ds m q h, ?_⟩
    exact ⟨fun ρ' m' σ' H' ⟨m2, hle, hq⟩ env s2 st => post .non m2 .non H' hq .non (s2.forget hle) (st.forget hle), fun d m' v H' ⟨m2, hle, hq⟩ rd s2 st => post d m2 v H' hq rd (s2.forget hle) (st.forget hle),
      fun _ _ _ _ z => False.elim z, fun _ _ _ _ z => False.elim z⟩
end
theorem de_lamF {X : Cx} {B : Bs} {x a nm : Str} {g c T : Addr} {k : Nat} {st : Stmt} {fdg : FuncData} {Ng : List Str} {sp : DSpL} {params : Arguments} {body : Expr} {scope : Scope} {tb : DWX → DTE} {p lpos pos : Pos}
    (Fg : Fun X.K x x st g fdg) (hm : X.mg x = some (.ref g)) (Sg : FnScope Ng [a] (defScope st)) (hb : L2.Binds X.K fdg [a] []) (hG : ∀ cdv, GivesD X (k + 1) Ng x (defScope st) g cdv (defBody st) a sp)
    (TB : TabB X.base X.mg c T) (hcode : X.env.code = .ref c) (hr : Room (k + 2) X.A) (gd : X.A.guards = some []) (L : LamS X.env.scope scope)
    (hbody : ∀ (A : Around) (outer : List Env) (s : Shared) (H : Hp) (E : XK) (f c' : Addr) (B' : Bs) (ke : Value → Mem → Prop), Room k (A.deeper (lamEnv X scope s.heap.objs.size f c')) → Takes (lamCx X A outer s H E scope f c') (upW X.K B' fun cls _ m => ke cls m) → DE B' (lamCx X A outer s H E scope f c') body (tb fun cls _ m => ke cls m))
    (hg : Gl X x := by rfl) (hNg : Ng[0]? = some a := by rfl) (hva : Vis (defScope st) a := by first | exact .inl rfl | exact .inr (.inl rfl) | exact .inr (.inr rfl)) (hdef : defaultsOf params X.env = ([], []) := by rfl)
    (hbind : ∀ (q : Str) (cl : List (Str × Addr)) (pm cv ctv : Value), bindArgs (PySem.W.kla_fn "<lambda>" q params body scope cl pm cv ctv) ⟨[], []⟩ = pure [] := by intro _ _ _ _ _; rfl)
    (hnm : lamN X = nm := by rfl) (hdb : (x == ("__debug__" : Str)) = false := by decide) (hd : (a == ("__debug__" : Str)) = false := by decide) (hcd : (a == ("__classdict__" : Str)) = false := by decide) :
    DE B X (.Call (.Name x p) [.Lambda params body scope lpos] [] pos) (dLam sp T nm tb) := by
  subst hnm
  have kp := Fg.kp
  obtain ⟨oc, od, kV, doc, pm, an, cdv, ct, osl, rfl, lk, hcg⟩ := Fg.ex
  exact de_lam hg hm kp lk hcg hb Sg hNg hva (hG cdv) TB hcode hr gd L hdef hbind hbody hdb hd hcd
end L2.Lh
namespace L2.Lh
open PySem PySem.Spec PyProof.Rows
/-! ### sep.join(texts) -/
def strsOf : List D → Option (List Str)
  | [] => some []
  | .str b :: r => match strsOf r with
    | some bs => some (b :: bs)
    | none => none
  | _ => none
theorem strsOf_ok : ∀ {xs : List D} {ns : List Str}, strsOf xs = some ns → xs = ns.map D.str
  | [], ns, e => by cases e; rfl
  | d :: xs, ns, e => by
    cases d with
    | str b =>
      unfold strsOf at e
      split at e
      · rename_i bs q; cases e; rw [strsOf_ok q]; rfl
      · cases e
    | _ => cases e
def joinD (x y : D) (m : Mem) (q : DQ) : Prop := match x with
  | .str a => match itemsOf m y with
    | some xs => match strsOf xs with
      | some ys => (ys.map (·.length)).sum + ys.length * a.length ≤ 16777216 ∧ q (.str (Txt.join a ys)) m
      | none => False
    | none => False
  | _ => False
def dJoin (to te : DTE) : DTE := fun ρ m q => to ρ m fun x m1 => (∃ a, x = .str a) ∧ te ρ m1 fun y m2 => joinD x y m2 q
theorem de_join {X : Cx} {B : Bs} {o e : Expr} {to te : DTE} {apos pos : Pos} (ho : DE B X o to) (he : DE B X e te) (hs : starEach [e] X.env = [(false, eval e X.env)] := by rfl) (hbase : attributeBase o "join" X.env (eval o X.env) = eval o X.env := by rfl) (hline : (apos.endLine == pos.line) = true := by rfl) :
    DE B X (.Call (.Attribute o "join" apos) [e] [] pos) (dJoin to te) :=
  pe_imp (pe_join ho he hs hbase hline) fun σ H Q ⟨ρ, m, q, p, h, post⟩ => ⟨ρ, m, _, p, h, fun d m1 v H1 ⟨⟨a, ha⟩, h1⟩ r1 s1 t1 => by
    subst ha
    cases r1
    refine ⟨⟨a, rfl⟩, ρ, m1, _, p.next s1 t1, h1, fun y m2 vy H2 h2 r2 s2 t2 => ?_⟩
    unfold joinD at h2
    dsimp only at h2
    split at h2
    · rename_i xs ex
      split at h2
      · rename_i ys ey
        obtain ⟨b, vs, rfl, hsq, rvs⟩ := s2.seq r2 ex
        have e1 := strsOf_ok ey
        subst e1
        rw [Reps.ofStrs rvs] at hsq
        exact ⟨a, b, ys, rfl, rfl, hsq, h2.1, post _ m2 _ H2 h2.2 (.str _) s2 (t1.trans t2)⟩
      · exact h2.elim
    · exact h2.elim⟩
end L2.Lh
namespace L2.Lh
open PySem
/-- the name of a def's lambdas -/
def lamQ (q : Str) : Str := q ++ ".<locals>." ++ "<lambda>"
end L2.Lh
namespace L2.Lh
theorem all_cons {α : Type} {p : α → Prop} {a : α} {l : List α} (h : p a) (r : ∀ x ∈ l, p x) : ∀ x ∈ a :: l, p x := fun x hx => by
  cases hx with
  | head => exact h
  | tail _ hx => exact r x hx
end L2.Lh

/-! t * k for every small k -/
namespace L2
open PySem PySem.Spec PyProof.Rows
open AutoSeq1 (wpAny_loadPart')
end L2
namespace L2.Lh
open PySem PySem.Spec PyProof.Rows
section
variable {X : Cx}
end
end L2.Lh

/-! a tuple display whose very object is known -/
namespace L2.Lh
open PySem PySem.Spec PyProof.Rows
end L2.Lh

/-! an error of an own class, made with no argument -/
namespace L2.Lh
open PySem PySem.Spec PyProof.Rows
end L2.Lh

/-! for k in d, d a dict whose keys are tuples: the memory keeps the dict's rows while they are walked (dR) -/
namespace L2.Lh
open PySem PySem.Spec PyProof.Rows
end L2.Lh

namespace L2.Lh
open PySem PySem.Spec PyProof.Rows LamX
section
variable {X : Cx}
end
end L2.Lh

/-! zip of two tuples, of two lists -/
namespace L2.Lh
open PySem PySem.Spec PyProof.Rows
section
variable {X : Cx} {B : Bs}
end
end L2.Lh

/-! a.extend(t), t a tuple -/
namespace L2.Lh
open PySem PySem.Spec PyProof.Rows
open AutoSeq1 (wpAny_loadPart')
section
variable {X : Cx}
end
end L2.Lh

/-! len(set(xs)) of ints; xs.index(y) of data -/
namespace L2.Lh
open PySem PySem.Spec PyProof.Rows
section
variable {X : Cx} {B : Bs}
end
end L2.Lh

/-! try: n = d[k], except KeyError -/
namespace L2.Lh
open PySem PySem.Spec PyProof.Rows LamX
section
variable {X : Cx} {B : Bs}
end
end L2.Lh

/-! list(range(a, b)) -/
namespace L2.Lh
open PySem PySem.Spec PyProof.Rows LamX
section
variable {X : Cx} {B : Bs}
end
end L2.Lh

/-! repr of None, True, texts and the empty dict besides -/
namespace L2.Lh
open PySem PySem.Spec PyProof.Rows LamX
section
variable {X : Cx}
def reprX : DRC
  | [.bl b], m, q => q (.str (if b then "True" else "False")) m
  | [.non], m, q => q (.str "None") m
  | [.str x], m, q => (reprText x).length ≤ sizeLine ∧ q (.str (reprText x)) m
  | [.ref a], m, q => match m a with
    | some (.dK []) => q (.str "{}") m
    | _ => reprD [.ref a] m q
  | ds, m, q => reprD ds m q
theorem reprX_t {xs : List D} {m : Mem} {q : DQ} : reprX [.tup xs] m q = reprOf (.tup xs) m q := rfl
theorem reprX_i {i : Int} {m : Mem} {q : DQ} : reprX [.int i] m q = (i.natAbs.log2 < 1920 ∧ q (.str (toString i)) m) := rfl
theorem reprX_n {m : Mem} {q : DQ} : reprX [.non] m q = q (.str "None") m := rfl
theorem reprX_b {b : Bool} {m : Mem} {q : DQ} : reprX [.bl b] m q = q (.str (if b then "True" else "False")) m := rfl
theorem reprX_s {x : Str} {m : Mem} {q : DQ} : reprX [.str x] m q = ((reprText x).length ≤ sizeLine ∧ q (.str (reprText x)) m) := rfl
theorem reprX_d {a : Addr} {m : Mem} {q : DQ} (h : m a = some (.dK [])) : reprX [.ref a] m q = q (.str "{}") m := by unfold reprX; dsimp only; rw [h]
theorem reprX_l {a : Addr} {xs : List D} {m : Mem} {q : DQ} (h : m a = some (.lst xs)) : reprX [.ref a] m q = reprOf (.ref a) m q := by unfold reprX; dsimp only; rw [h]; rfl
theorem c_reprX (hgd : X.A.guards = some []) (hu : X.A.units + 64 < cLine) : CallD X (.builtin "repr") reprX := by
  intro pins s σ H xs us Q I r ⟨ds, m, q, rs, sim, h, post⟩
  unfold reprX at h
  split at h
  · obtain ⟨v, rfl, rv⟩ := reps1 rs
    cases rv
    obtain ⟨u, rfl, rfl⟩ := vals1 r
    exact PySem.P.repr_of_bool ⟨.str _, H, I.tok _, ⟨_, rfl⟩, post.here h (.str _) sim⟩
  · obtain ⟨v, rfl, rv⟩ := reps1 rs
    cases rv
    obtain ⟨u, rfl, rfl⟩ := vals1 r
    exact PySem.P.repr_of_none ⟨.str _, H, I.tok _, ⟨_, rfl⟩, post.here h (.str _) sim⟩
  · obtain ⟨v, rfl, rv⟩ := reps1 rs
    cases rv
    obtain ⟨u, rfl, t, rfl⟩ := vals1 r
    exact PySem.P.repr_of_str ⟨.str _, H, I.tok _, ⟨_, rfl⟩, post.here h.2 (.str _) sim⟩ h.1
  · rename_i a
    split at h
    · rename_i e
      obtain ⟨v, rfl, rv⟩ := reps1 rs
      cases rv
      rw [Vals.ref1 r]
      obtain ⟨kv, hk, rk⟩ := sim a _ e
      have ek : kv = [] := by cases rk; rfl
      subst ek
      obtain ⟨_, hs, vs, rel, ob, es, ep, he, hc⟩ := (show ObjOk X.prog X.w H s.heap a (.dK []) from I.hok a _ hk)
      obtain ⟨hx, hd, _, hp, _⟩ := hc
      have ev : vs = [] := by cases rel; rfl
      subst ev
      have ee : es.toList = [] := by
        cases hl : es.toList with
        | nil => rfl
        | cons y ys => rw [hl] at hp; cases hp
      have rd : Reads s.heap (.ref a) (.dict []) (a :: [] ++ []) := .dict he hx.1 hd (by rw [ee]; exact .nil) (by rw [ee]; exact .nil)
      refine repr_of_reads' rd (by decide) (fun _ z => ?_) hgd (by show X.A.units + (_ + 1) < cLine; simp [PyData.depth, PyData.depthKv]; omega) (fun _ _ e => e) (fun h' u tk hk => ⟨.str _, H, I.kept hk, ⟨u, rfl⟩, post.here (by
        have es' : (PyData.dict []).shown = ("{}" : Str) := by decide +kernel
        rw [es']; exact h) (.str _) sim⟩) (by show (PyData.dict []).shown.length ≤ sizeLine; decide +kernel)
      simp only [List.append_nil, List.mem_singleton] at z
      rw [z] at hs
      simp at hs
    · exact c_repr hgd hu pins s σ H xs us Q I r ⟨_, m, q, rs, sim, h, post⟩
  · exact c_repr hgd hu pins s σ H xs us Q I r ⟨_, m, q, rs, sim, h, post⟩
def sortNS : DRLN := fun ds m q => match strsOf ds with
  | some ss => ss.length < 64 ∧ ∀ ys : List Str, ys.Perm ss → sortedS ys = true → q (ys.map D.str) m
  | none => False
theorem nl_sortedS : CallR X (.builtin "sorted") (upNL X.K sortNS) := by
  intro pins s σ H xs us Q I r ⟨a, ds, vs, m, q, e, ha, rs, hn, sim, h, post⟩
  subst e
  unfold sortNS at h
  split at h
  · rename_i ss es
    have e1 := strsOf_ok es
    subst e1
    have ev := Reps.ofStrs rs
    subst ev
    exact cr_sortedS pins s σ H _ us Q I r ⟨a, ss, rfl, SqL.of ha, h.1, fun ys p hp ho hp0 => post.lst (h.2 ys hp ho) hp0 (Reps.strs ys) sim⟩
  · exact h.elim
end
end L2.Lh

/-! d.update(e), dicts with nested keys -/
namespace L2.Lh
open PySem PySem.Spec PyProof.Rows LamX
section
variable {X : Cx} {B : Bs} {o e : Expr} {to te : DTE} {apos cpos : Pos}
end
end L2.Lh

/-! d == {}, d != {}, d a dict with nested keys -/
namespace L2.Lh
open PySem PySem.Spec PyProof.Rows LamX PySem.W PySem.Calls
section
variable {prog : Program} {w : World} {A : Around} {E : Value → Shared → Prop} {s : Shared}
end
section
variable {X : Cx}
end
end L2.Lh

/-! str of an int -/
namespace L2.Lh
open PySem PySem.Spec PyProof.Rows LamX
section
variable {X : Cx}
def strD : DRC
  | [.int i], m, q => i.natAbs.log2 < 1920 ∧ q (.str (toString i)) m
  | _, _, _ => False
theorem strD_i {i : Int} {m : Mem} {q : DQ} : strD [.int i] m q = (i.natAbs.log2 < 1920 ∧ q (.str (toString i)) m) := rfl
theorem c_str : CallD X (.type "str") strD := by
  intro pins s σ H xs us Q I r ⟨ds, m, q, rs, sim, h, post⟩
  unfold strD at h
  split at h
  · obtain ⟨v, rfl, rv⟩ := reps1 rs
    cases rv
    obtain ⟨u, rfl, t, rfl⟩ := vals1 r
    exact PySem.P.str_of_int h.1 ⟨.str _, H, I.tok _, ⟨_, rfl⟩, post.here h.2 (.str _) sim⟩
  · exact h.elim
end
end L2.Lh

/-! an int or a dict among ints -/
namespace L2.Lh
open PySem PySem.Spec PyProof.Rows LamX PySem.W PySem.Calls PySem.SeqAt PySem.MeetsSeq
section
variable {A : Around} {s : Shared}
end
theorem vals_ints : ∀ {ns : List Int} {us : List Value}, Vals (ns.map V.int) us → ∀ y ∈ us, ∃ n t, y = Value.int n t
  | [], _, r, y, hy => by cases r; cases hy
  | n :: ns, _, r, y, hy => by
    rw [List.map_cons] at r
    cases r with
    | cons q r =>
      rcases List.mem_cons.mp hy with rfl | z
      · obtain ⟨t, e⟩ := q
        exact ⟨n, t, e⟩
      · exact vals_ints r y z
section
variable {X : Cx}
end
end L2.Lh

/-! an instance made by keywords -/
namespace L2.Lh
open PySem PySem.Spec PyProof.Rows LamX
/-- self ahead, then the keywords' values in the parameters' order -/
def MkB (K : PySem.W.Frag) (fd : FuncData) (ps ks : List Str) (ix : List Nat) : Prop := ∀ (s : Shared) (u : Value) (ws : List Value), ws.length = ks.length → BindsTo s fd ⟨[u], ks.zip ws⟩ (ps.zip (u :: ix.map fun i => ws.getD i .none))
section
variable {X : Cx} {B : Bs} {t : DTA} {sp : DSp} {qe : Value → Mem → Prop} {x : Str} {p pos : Pos} {C f : Addr} {fd : FuncData} {k : Nat} {ps ks : List Str} {ix : List Nat} {kws : List Keyword}
/-- a def's own keywords, self by its place -/
theorem mkB_of {K : PySem.W.Frag} {x qual : Str} {st : Stmt} {f : Addr} {fd : FuncData} {ps ks : List Str} {ix : List Nat} (F : Fun K x qual st f fd)
    (h : ∀ (kV doc pm : Value) (an : Option Addr) (cdv ct : Value) (u : Value) (ws : List Value), ws.length = ks.length → bindArgs (PySem.W.fnOf x qual (defArgs st) (defBody st) (defScope st) .none kV doc pm an cdv ct) ⟨[u], ks.zip ws⟩ = pure (ps.zip (u :: ix.map fun i => ws.getD i .none))) : MkB K fd ps ks ix := by
  obtain ⟨oc, od, kV, doc, pm, an, cdv, ct, osl, rfl, lk, hcd⟩ := F.ex
  exact fun s u ws hl => .of_eq (h kV doc pm an cdv ct u ws hl)
end
end L2.Lh

/-! d.values(), d.items(), enumerate(d): d a dict whose keys are tuples -/
namespace L2.Lh
open PySem PySem.Spec PyProof.Rows LamX
section
variable {X : Cx}
end
section
variable {X : Cx} {B : Bs}
/-! ### items -/
end
end L2.Lh

/-! enumerate(d): d a dict whose keys are tuples -/
namespace L2.Lh
open PySem PySem.Spec PyProof.Rows LamX
section
variable {prog : Program} {w : World} {A : Around} {E : Value → Shared → Prop} {s : Shared}
theorem nextOf_key_item {it d : Addr} {i ep : Nat} {es : Array DictEntry} {Q : Value → Shared → Prop} (hit : s.heap.IsKeyIter it d i es.size ep) (hm : s.heap.DictRaw d es ep) (hlt' : i < es.size)
    (hQ : ∀ h', h'.IsKeyIter it d (i + 1) es.size ep → Heap.SameBut it s.heap h' → Q es[i].key { s with heap := h' }) : wpAny (model prog w) A (Builtin.SmallTypes.nextOf (.ref it)) Q E s := by
  obtain ⟨o, ho, hc, hd⟩ := id hit
  obtain ⟨od, hod, hcd, hdd⟩ := id hm
  unfold Builtin.SmallTypes.nextOf
  refine wpAny_bind (wpAny_callSpecial?_slot (name := Str.ofString "__next__") hit.typeIs F.slot_dict_keyiterator_next
    (wpAny_call_entry F.slot_dict_keyiterator_next hit.typeIs F.entry_dict_keyiterator_next ?_ (F.args_dict_keyiterator_next_1 _)))
  refine wpAny_bind (wpAny_pure ?_)
  refine wpAny_bind ?_
  refine wpAny_bind ?_
  first | refine wpAny_bind (wpAny_typeNameOfWhole_keyiter hit.typeIs (wpAny_pure ?_)) | refine wpAny_bind (wpAny_typeNameOf_keyiter hit.typeIs (wpAny_pure ?_))
  refine wpAny_bind (wpAny_fieldsOf ho hd ?_)
  have hown : Builtin.Dict_items.ownsTuple "dict_keyiterator" = false := by decide
  simp only [hown, Bool.false_eq_true, if_false]
  show wpAny _ _ (if (Value.ref d == Value.none) = true then _ else _) _ _ s
  rw [if_neg (show ¬ ((Value.ref d == Value.none) = true) from Bool.false_ne_true)]
  refine wpAny_bind (wpAny_pure ?_)
  refine wpAny_bind (wpAny_dictEntries hod hdd ?_)
  rw [if_neg (by simp)]
  refine wpAny_bind (wpAny_pure ?_)
  refine wpAny_bind (wpAny_dictEpoch hod hdd ?_)
  rw [if_neg (by simp)]
  refine wpAny_pure ?_
  simp only [show ¬ ((i : Int) < 0) from by omega, if_false, Int.toNat_natCast, Array.getElem?_eq_getElem hlt']
  refine wpAny_bind ?_
  first | refine wpAny_bind (wpAny_typeNameOfWhole_keyiter hit.typeIs (wpAny_pure ?_)) | refine wpAny_bind (wpAny_typeNameOf_keyiter hit.typeIs (wpAny_pure ?_))
  refine wpAny_bind (wpAny_isOneOf_keyiter hit.typeIs ?_)
  show wpAny _ _ (setField (.ref it) 1 (rawInt ((i : Int) + 1)) >>= _) _ _ s
  refine wpAny_bind (wpAny_setField ho hd (by simp) ?_)
  have hit' : (s.heap.update it (Obj.mapFields (·.setIfInBounds 1 (rawInt ((i : Int) + 1))))).IsKeyIter it d (i + 1) es.size ep :=
    ⟨_, Heap.get?_update_self _ ho (Obj.isFreed_of_fields (Obj.data_mapFields hd _)), (Obj.cls_mapFields ..).trans hc, by rw [Obj.data_mapFields hd]; simp [rawInt]⟩
  refine wpAny_bind (wpAny_holding ?_)
  refine wpAny_bind (wpAny_isOneOf_keyiter (s := { s with heap := s.heap.update it (Obj.mapFields (·.setIfInBounds 1 (rawInt ((i : Int) + 1)))) }) hit'.typeIs ?_)
  show wpAny _ _ (pure es[i].key) _ _ _
  exact wpAny_pure (wpAny_pure ⟨_, rfl, wpAny_pure (hQ _ hit' (Heap.SameBut.update ..))⟩)
theorem nextOf_key_end {it d : Addr} {i ep : Nat} {es : Array DictEntry} {Q : Value → Shared → Prop} (hh : A.handled = none) (hit : s.heap.IsKeyIter it d i es.size ep) (hm : s.heap.DictRaw d es ep) (hge : es.size ≤ i)
    (hE : ∀ h' e, Heap.ExtBut it s.heap h' → (∃ o, h'.get? e = some o ∧ o.cls = .type "StopIteration") → E (.ref e) { s with heap := h' }) : wpAny (model prog w) A (Builtin.SmallTypes.nextOf (.ref it)) Q E s := by
  obtain ⟨o, ho, hc, hd⟩ := id hit
  obtain ⟨od, hod, hcd, hdd⟩ := id hm
  unfold Builtin.SmallTypes.nextOf
  refine wpAny_bind (wpAny_callSpecial?_slot (name := Str.ofString "__next__") hit.typeIs F.slot_dict_keyiterator_next
    (wpAny_call_entry F.slot_dict_keyiterator_next hit.typeIs F.entry_dict_keyiterator_next ?_ (F.args_dict_keyiterator_next_1 _)))
  refine wpAny_bind (wpAny_pure ?_)
  refine wpAny_bind ?_
  refine wpAny_bind ?_
  first | refine wpAny_bind (wpAny_typeNameOfWhole_keyiter hit.typeIs (wpAny_pure ?_)) | refine wpAny_bind (wpAny_typeNameOf_keyiter hit.typeIs (wpAny_pure ?_))
  refine wpAny_bind (wpAny_fieldsOf ho hd ?_)
  have hown : Builtin.Dict_items.ownsTuple "dict_keyiterator" = false := by decide
  simp only [hown, Bool.false_eq_true, if_false]
  show wpAny _ _ (if (Value.ref d == Value.none) = true then _ else _) _ _ s
  rw [if_neg (show ¬ ((Value.ref d == Value.none) = true) from Bool.false_ne_true)]
  refine wpAny_bind (wpAny_pure ?_)
  refine wpAny_bind (wpAny_dictEntries hod hdd ?_)
  rw [if_neg (by simp)]
  refine wpAny_bind (wpAny_pure ?_)
  refine wpAny_bind (wpAny_dictEpoch hod hdd ?_)
  rw [if_neg (by simp)]
  refine wpAny_pure ?_
  simp only [show ¬ ((i : Int) < 0) from by omega, if_false, Int.toNat_natCast, Array.getElem?_eq_none hge]
  refine wpAny_bind ?_
  first | refine wpAny_bind (wpAny_typeNameOfWhole_keyiter hit.typeIs (wpAny_pure ?_)) | refine wpAny_bind (wpAny_typeNameOf_keyiter hit.typeIs (wpAny_pure ?_))
  show wpAny _ _ (setField (.ref it) 0 .none >>= _) _ _ s
  refine wpAny_bind (wpAny_setField ho hd (by simp) ?_)
  show wpAny _ _ (newExc (.type "StopIteration") [] >>= _) _ _ _
  refine wpAny_bind ?_
  simp only [newExc, newTuple]
  refine wpAny_bind (wpAny_newObj_type ?_ (by size_fits))
  refine wpAny_bind (m := firstArgMember _ _) (wpAny_of_eq (a := Value.none) (by first | rfl | (simp only [firstArgMember]; rfl)) ?_)
  refine wpAny_newObj_type ?_ (by size_fits)
  simp only [raiseNew]
  refine wpAny_bind (wpAny_handled ?_)
  first | rw [show A.in1.handled = none from hh] | rw [hh]
  refine wpAny_bind (wpAny_pure (wpAny_throw ?_))
  exact hE _ _ (((Heap.SameBut.update ..).extBut.push _).push _) ⟨_, Heap.get?_push_size _ rfl, rfl⟩
theorem Draws.keys (hh : A.handled = none) (it d : Addr) (hne : d ≠ it) (es : Array DictEntry) (ep : Nat) :
    Draws prog w A it [it, d] es.size (fun i v => ∃ hi : i < es.size, v = es[i].key) (fun i h => h.IsKeyIter it d i es.size ep ∧ h.DictRaw d es ep) where
  live := fun _ _ st => let ⟨o, ho, _⟩ := st.1; ⟨o, ho⟩
  frame := fun _ _ _ st hk => ⟨st.1.at fun o e => hk it (by simp) o e, st.2.at fun o e => hk d (by simp) o e⟩
  item := fun i s Q E hi st hQ => by
    refine nextOf_key_item st.1 st.2 hi fun h' hit' hs' => ?_
    exact hQ _ h' s.toks ⟨hi, rfl⟩ ⟨hit', st.2.at fun o e => hs'.extBut d o hne e⟩ hs'
  done := fun s Q E st hE => nextOf_key_end hh st.1 st.2 (Nat.le_refl _) hE
end
section
variable {X : Cx} {B : Bs}
end
end L2.Lh

/-! a text so many times: some text -/
namespace L2.Lh
open PySem PySem.Spec PyProof.Rows LamX
section
variable {X : Cx}
end
end L2.Lh

/-! sorted(xs), xs a list or the keys of a dict: tuples of whole numbers, all of one length -/
namespace L2.Lh
open PySem PySem.Spec PyProof.Rows LamX
section
open TS
variable {prog : Program} {w : World} {A : Around} {E : Value → Shared → Prop} {s : Shared}
end
/-- two lists told item by item -/
inductive Two {α β : Type} (R : α → β → Prop) : List α → List β → Prop
  | nil : Two R [] []
  | cons {a b as bs} : R a b → Two R as bs → Two R (a :: as) (b :: bs)
theorem Two.mem {α β : Type} {R : α → β → Prop} {as : List α} {bs : List β} (h : Two R as bs) : ∀ {b}, b ∈ bs → ∃ a ∈ as, R a b := by
  induction h with
  | nil => intro b hb; cases hb
  | cons r t ih =>
    intro b hb
    rcases List.mem_cons.mp hb with rfl | hb
    · exact ⟨_, List.mem_cons_self, r⟩
    · obtain ⟨a, h1, h2⟩ := ih hb
      exact ⟨a, List.mem_cons_of_mem _ h1, h2⟩
theorem Two.mem' {α β : Type} {R : α → β → Prop} {as : List α} {bs : List β} (h : Two R as bs) : ∀ {a}, a ∈ as → ∃ b ∈ bs, R a b := by
  induction h with
  | nil => intro b hb; cases hb
  | cons r t ih =>
    intro b hb
    rcases List.mem_cons.mp hb with rfl | hb
    · exact ⟨_, List.mem_cons_self, r⟩
    · obtain ⟨a, h1, h2⟩ := ih hb
      exact ⟨a, List.mem_cons_of_mem _ h1, h2⟩
theorem Two.pairs {α β : Type} {R : α → β → Prop} {P : α → α → Prop} {Q : β → β → Prop} {as : List α} {bs : List β} (h : Two R as bs) (hQ : bs.Pairwise Q) (hPQ : ∀ a b a' b', R a b → R a' b' → Q b b' → P a a') : as.Pairwise P := by
  induction h with
  | nil => exact .nil
  | cons r t ih =>
    obtain ⟨h1, h2⟩ := List.pairwise_cons.mp hQ
    refine List.pairwise_cons.mpr ⟨fun a' ha => ?_, ih h2⟩
    obtain ⟨b', hb, r'⟩ := t.mem' ha
    exact hPQ _ _ _ _ r r' (h1 b' hb)
section
variable {X : Cx} {pins : List (Addr × Obj)} {σ : St} {H : Hp} {s : Shared}
end
end L2.Lh

/-! {} == a tuple -/
namespace L2.Lh
open PySem PySem.Spec PyProof.Rows LamX PySem.W PySem.Calls PySem.SeqAt PySem.MeetsSeq
section
variable {A : Around} {s : Shared}
end
section
variable {X : Cx}
end
end L2.Lh

/-! xs[::-1], xs a list -/
namespace L2.Lh
open PySem PySem.Spec PyProof.Rows LamX
section
variable {X : Cx} {B : Bs}
end
end L2.Lh

/-! tuples put together, the very object known; tuple(range(a, b)) -/
namespace L2.Lh
open PySem PySem.Spec PyProof.Rows LamX
section
variable {X : Cx} {B : Bs}
end
end L2.Lh

/-! tuples of either kind put together, the very object known -/
namespace L2.Lh
open PySem PySem.Spec PyProof.Rows LamX
section
variable {X : Cx} {B : Bs}
def itemsTp : D → Option (List D)
  | .tup xs => some xs
  | .ftup xs => some xs
  | _ => none
theorem itemsTp_sq {K : PySem.W.Frag} {H : Hp} {d : D} {v : V} {xs : List D} (r : Rep K H d v) (e : itemsTp d = some xs) : ∃ a vs, v = .ref a ∧ SqT K H a vs ∧ Reps K H xs vs := by
  cases r with
  | tup h rs => cases e; exact ⟨_, _, rfl, SqT.of h, rs⟩
  | ftup h _ rs => cases e; exact ⟨_, _, rfl, .inl (.inr ⟨_, h⟩), rs⟩
  | _ => cases e
end
end L2.Lh

/-! dicts of ints and texts that stay as they are from now on: for k, v in d.items(), d.values(), for k in d; list(d); sorted(d.items()); dict(d) -/
namespace L2.Lh
open PySem PySem.Spec PyProof.Rows LamX
def keyV : Key → D
  | .inl i => .int i
  | .inr x => .str x
theorem keyV_rep {K : PySem.W.Frag} {H : Hp} : ∀ k : Key, Rep K H (keyV k) (kV k)
  | .inl i => .int i
  | .inr x => .str x
theorem repK_get {K : PySem.W.Frag} {H : Hp} : ∀ {kvs : List (Key × D)} {kv : List (Key × V)}, RepK K H kvs kv → ∀ {i : Nat} {p : Key × D}, kvs[i]? = some p → ∃ v, kv[i]? = some (p.1, v) ∧ Rep K H p.2 v
  | _, _, .nil, i, p, e => by simp at e
  | _, _, .cons (b := q) h r, 0, p, e => by
    simp only [List.getElem?_cons_zero, Option.some.injEq] at e
    subst e
    obtain ⟨k, v⟩ := q
    obtain ⟨h1, h2⟩ := h
    exact ⟨v, by rw [h1]; rfl, h2⟩
  | _, _, .cons h r, i + 1, p, e => by
    simp only [List.getElem?_cons_succ] at e ⊢
    exact repK_get r e
/-- a dict that may be walked -/
def dictAt (m : Mem) (a : Addr) (kvs : List (Key × D)) : Prop := m a = some (.dK kvs) ∨ m a = some (.dF kvs)
section
variable {X : Cx} {pins : List (Addr × Obj)} {σ : St} {H : Hp} {s : Shared} {m : Mem} {a : Addr} {kvs : List (Key × D)}
theorem dictAt.rd (sim : Sim X.K H m) (h : dictAt m a kvs) : ∃ kv, Rd H a (.dK kv) ∧ RepK X.K H kvs kv := by
  rcases h with h | h
  · obtain ⟨kv, h1, h2⟩ := sim a _ h; exact ⟨kv, .inl h1, h2⟩
  · obtain ⟨od, kv, h1, h2⟩ := sim a _ h; exact ⟨kv, .inr ⟨od, h1⟩, h2⟩
theorem ItOk.items {K : PySem.W.Frag} {H0 : Hp} {m0 : Mem} {od : Obj} {kv : List (Key × V)} (h : H0 a = some (.frz od (.dK kv))) (r : RepK K H0 kvs kv) : ItOk K ⟨kvs.map fun p => .tup [keyV p.1, p.2], fun _ => True⟩ (Iti a od kv) H0 m0 where
  go := fun i d m1 H1 e s1 st _ => by
    rw [List.getElem?_map] at e
    cases hp : kvs[i]? with
    | none => rw [hp] at e; cases e
    | some p =>
      rw [hp] at e
      cases e
      obtain ⟨v, h1, h2⟩ := repK_get (r.mono st.ext) hp
      have hl := (List.getElem?_eq_some_iff.mp h1).1
      refine ⟨⟨st.ext.frz _ _ _ h, hl⟩, fun x H' ⟨T, k, v', e1, e2, e3, e4⟩ => ?_⟩
      rw [h1] at e1
      cases e1
      subst e2 e4
      exact ⟨.tup upd_same (.cons (keyV_rep _) (.cons (h2.mono (upd_new e3)) .nil)), s1.alloc e3, Step.alloc e3⟩
  stop := fun m1 H1 s1 st _ => ⟨st.ext.frz _ _ _ h, by show kv.length ≤ (kvs.map _).length; rw [List.length_map]; exact Nat.le_of_eq (Paired.length r).symm⟩
theorem ItOk.keys {K : PySem.W.Frag} {H0 : Hp} {m0 : Mem} {od : Obj} {kv : List (Key × V)} (h : H0 a = some (.frz od (.dK kv))) (r : RepK K H0 kvs kv) : ItOk K ⟨kvs.map fun p => keyV p.1, fun _ => True⟩ (Itk a od kv) H0 m0 where
  go := fun i d m1 H1 e s1 st _ => by
    rw [List.getElem?_map] at e
    cases hp : kvs[i]? with
    | none => rw [hp] at e; cases e
    | some p =>
      rw [hp] at e
      cases e
      obtain ⟨v, h1, h2⟩ := repK_get (r.mono st.ext) hp
      have hl := (List.getElem?_eq_some_iff.mp h1).1
      refine ⟨⟨st.ext.frz _ _ _ h, hl⟩, fun x H' ⟨e0, k, v', e1, e2⟩ => ?_⟩
      subst e0 e2
      rw [h1] at e1
      cases e1
      exact ⟨keyV_rep _, s1, Step.refl _ _⟩
  stop := fun m1 H1 s1 st _ => ⟨st.ext.frz _ _ _ h, by show kv.length ≤ (kvs.map _).length; rw [List.length_map]; exact Nat.le_of_eq (Paired.length r).symm⟩
end
section
variable {X : Cx} {B : Bs}
/-! ### list(d), dict(d) -/
end
end L2.Lh

/-! divmod, reversed(range(n)), dict(d), sorted(d.items()) of ints -/
namespace L2.Lh
open PySem PySem.Spec PyProof.Rows LamX
section
variable {X : Cx} {B : Bs}
/-! ### reversed(range(n)) -/
/-! ### dict(d) -/
end
/-! ### sorted(d.items()), ints to ints -/
section
open TS
variable {prog : Program} {w : World} {A : Around} {E : Value → Shared → Prop} {s : Shared}
end
section
variable {X : Cx} {B : Bs}
end
end L2.Lh

/-! list(d.items()), sorted(d.items()): new tuples, many at once -/
namespace L2.Lh
open PySem PySem.Spec PyProof.Rows LamX
section
variable {X : Cx} {pins : List (Addr × Obj)} {σ : St} {H : Hp} {s : Shared} {m : Mem} {d : Addr} {kvs : List (Key × D)} {kv : List (Key × V)}
noncomputable def tupAt (kv : List (Key × V)) (as : List Addr) (a : Addr) : HO := match kv[as.idxOf a]? with
  | some p => .tup [kV p.1, p.2]
  | none => .tup []
end
section
variable {X : Cx} {B : Bs}
end
end L2.Lh

/-! defs with defaults -/
namespace L2.Lh
open PySem PySem.Spec PyProof.Rows LamX
section
variable {K : PySem.W.Frag}
variable {x qual : Str} {st : Stmt} {f : Addr} {fd : FuncData} {dvs : List V} {ps ks : List Str} {ix : List Nat}
end
section
variable {P : Program} {w : World} {K : PySem.W.Frag} {mg : Str → Option Value} {base : Heap}
end
section
variable {X : Cx} {B : Bs} {k : Nat} {ps : List Str} {sp : DSp} {we : DWX} {x : Str} {p pos : Pos} {e : Expr} {es : List Expr} {t : DTA} {ds0 : List D} {vs0 : List V}
end
section
variable {X : Cx} {B : Bs} {k : Nat} {ps ks : List Str} {ix : List Nat} {sp : DSp} {we : DWX} {x : Str} {p pos kpos : Pos} {e : Expr} {kws : List Keyword} {te : DTE} {t : DTA} {f : Addr} {fd : FuncData} {nm : Option Str}
end
end L2.Lh

/-! a part of a tuple whose very object is known *)
-/
namespace L2.Lh
open PySem PySem.Spec PyProof.Rows LamX
section
variable {X : Cx} {B : Bs} {e : Expr} {te : DTE} {tl th : DTO} {lo hi : Option Expr} {pos p2 : Pos}
end
end L2.Lh

/-! parts of a tuple whose very object is known, the whole too; such tuples put together -/
namespace L2.Lh
open PySem PySem.Spec PyProof.Rows LamX
section
variable {X : Cx} {B : Bs} {e : Expr} {te : DTE} {tl th : DTO} {lo hi : Option Expr} {pos p2 : Pos}
end
end L2.Lh

/-! products of two great numbers -/
namespace L2.Lh
open PySem PySem.Spec PyProof.Rows LamX
section
variable {X : Cx}
end
end L2.Lh

/-! {k: v, l: w, ..}: a dict of int and text keys, told at once -/
namespace L2.Lh
open PySem PySem.Spec PyProof.Rows LamX
abbrev DPr := List (DTE × DTE)
section
variable {X : Cx} {B : Bs} {ke ve : Expr} {tk tv : DTE} {pos : Pos} {ks : List (Option Expr)} {vs : List Expr} {ts : DPr}
end
end L2.Lh

namespace L2.Lh
open PySem PySem.Spec PyProof.Rows LamX
/-! ### sorted(), any number -/
section
variable {prog : Program} {w : World} {A : Around} {E : Value → Shared → Prop} {s : Shared}
end
section
variable {X : Cx} {B : Bs}
end
end L2.Lh

/-! try with several clauses, none of which names its error -/
namespace L2.Lh
open PySem PySem.Spec PyProof.Rows LamX
abbrev DHd := CT × Value × DTS
def wManyD (we : DWX) (E : DEnds) : List DHd → DWX
  | [], cls, ρ, m => we cls ρ m
  | (xt, c, ts) :: r, cls, ρ, m => ∃ b, (cls, c, b) ∈ xt ∧ (b = true → ts E ρ m) ∧ (b = false → wManyD we E r cls ρ m)
section
variable {X : Cx} {B : Bs}
inductive DHds (X : Cx) : List ExceptHandler → List DHd → Prop
  | nil : DHds X [] []
  | cons {x : Str} {c : Value} {xt : CT} {ts : DTS} {b₀ : Stmt} {suite : List Stmt} {np pos' : Pos} {hds : List ExceptHandler} {l : List DHd} (xo : ExOk X.K xt)
      (hSuite : ∀ (B' : Bs) (a : Addr) (pn : List (Addr × Obj)), DSs B' (X.suite a pn) (b₀ :: suite) ts) (hc : Names X x c) (r : DHds X hds l) :
      DHds X (.ExceptHandler (some (.Name x np)) none (b₀ :: suite) pos' :: hds) ((xt, c, ts) :: l)
def hdsT (K : PySem.W.Frag) (l : List DHd) : List (Value × (Addr → Value → Option Addr → TS)) := l.map fun h => (h.2.1, fun _ _ _ F σ H => ∃ B', upS K B' h.2.2 F σ H)
theorem DHds.ok {hds : List ExceptHandler} {l : List DHd} (h : DHds X hds l) : HdsOk X hds (hdsT X.K l) := by
  induction h with
  | nil => exact .nil
  | cons xo hs hc r ih => exact .cons hc (fun a oe cls d pn hz hd => ⟨fun pins s σ H F I ⟨B', h⟩ => (hs B' a _).run pins s σ H F I h⟩) ih
theorem DHds.wish {hds : List ExceptHandler} {l : List DHd} (h : DHds X hds l) {we : DWX} {E : DEnds} {F : Ends} {H0 : Hp} {m0 : Mem} (eo : EndsOk X.K H0 m0 E F) (stB : Step B.H B.m H0 m0) :
    ∀ cls d σ' H', upW X.K ⟨H0, m0⟩ (wManyD we E l) cls d σ' H' → wMany X.K (upW X.K B we) F (hdsT X.K l) cls d σ' H' := by
  induction h with
  | nil =>
    rintro cls d σ' H' ⟨c0, dn, ρ1, m1, p1, w⟩
    exact ⟨c0, dn, ρ1, m1, ⟨p1.env, p1.sim, stB.trans p1.st⟩, w⟩
  | @cons x c xt ts b₀ suite np pos' hds l xo hs hc r ih =>
    rintro cls d σ' H' ⟨c0, ⟨dn1, dn2⟩, ρ1, m1, p1, b, hb, hyes, hno⟩
    obtain ⟨e1, e2⟩ := xo.plain hb
    rw [e1] at dn1; rw [e2] at dn2; subst dn1 dn2
    exact ⟨b, xo _ hb, fun e a ha => ⟨⟨H', m1⟩, ρ1, m1, E, ⟨p1.env, p1.sim, Step.refl _ _⟩, hyes e, eo.next p1.st⟩, fun e => ih _ _ σ' H' ⟨_, ⟨e1.symm, e2.symm⟩, ρ1, m1, p1, hno e⟩⟩
end
end L2.Lh

/-! own __eq__, __len__ and __str__ -/
namespace L2.Lh
open PySem PySem.Spec PyProof.Rows LamX
section
variable {X : Cx} {k : Nat} {fa C : Addr} {fd : FuncData} {ps : List Str} {sp : DSp} {A : Around} {pins : List (Addr × Obj)} {σ : St} {H : Hp} {s : Shared} {Q : VK} {us : List Value} {vs : List V}
structure SubA (X : Cx) (k : Nat) (A : Around) : Prop where
  room : Room k A
  fr : A.frames = X.A.frames
/-- what an own == may be asked against -/
def othO (C : Addr) (m : Mem) (y : D) : Prop := (∃ T, tyS m y = some T) ∨ ∃ b fs, y = .ref b ∧ m b = some (.ins C fs)
def eqO (C : Addr) (sp : DSp) : DR2 := fun x y m q => ∃ a fs, x = .ref a ∧ m a = some (.ins C fs) ∧ othO C m y ∧ sp [x, y] m (fun d m' => ∃ b, d = .bl b ∧ q d m') fun _ _ => False
end
end L2.Lh

/-! isinstance against an own class, of plain things and of instances -/
namespace L2.Lh
open PySem PySem.Spec PyProof.Rows LamX
structure InsC (K : PySem.W.Frag) (D : Addr) : Prop where
  cl : Cls K D
  ha : PySem.W.findIn K (.ref D) "__class__" = some (some (.builtin "object.__class__"))
  hn : PySem.W.specialIn K (.builtin "object.__class__") "__get__" = some (some (.builtin "getset_descriptor.__get__"))
  ht : PySem.W.takesIn K (.builtin "object.__class__") = some true
  hm : PySem.W.mroIn K D (.type "object") = some true
inductive CtI (K : PySem.W.Frag) : CT → Prop
  | nil : CtI K []
  | own {C : Addr} {u : Value} {b : Bool} {r : CT} : InsC K C → PySem.W.kitOne K (.ref C) u = some b → CtI K r → CtI K ((.ref C, u, b) :: r)
  | ty {n : String} {u : Value} {b : Bool} {r : CT} : PySem.W.kitOne K (.type n) u = some b → CtI K r → CtI K ((.type n, u, b) :: r)
theorem CtI.kit {K : PySem.W.Frag} {t u : Value} {b : Bool} : ∀ {tb : CT}, CtI K tb → (t, u, b) ∈ tb → PySem.W.kitOne K t u = some b
  | _, .nil, h => by cases h
  | _, .own _ k r, h => by
    cases h with
    | head => exact k
    | tail _ h => exact r.kit h
  | _, .ty k r, h => by
    cases h with
    | head => exact k
    | tail _ h => exact r.kit h
theorem CtI.ins {K : PySem.W.Frag} {C : Addr} {u : Value} {b : Bool} : ∀ {tb : CT}, CtI K tb → (Value.ref C, u, b) ∈ tb → InsC K C
  | _, .nil, h => by cases h
  | _, .own e k r, h => by
    cases h with
    | head => exact e
    | tail _ h => exact r.ins h
  | _, .ty k r, h => by
    cases h with
    | tail _ h => exact r.ins h
end L2.Lh
namespace L2.Lh
open PySem PySem.Spec PyProof.Rows
end L2.Lh

/-! lambdas that are kept: in lists, in names -/
namespace L2.Lh
open PySem PySem.Spec PyProof.Rows LamX
section
variable {X : Cx} {pins : List (Addr × Obj)} {σ : L2.St} {H : Hp} {s : Shared}
theorem lam_make4 {c P : Addr} {params : Arguments} {body : Expr} {scope : Scope} {pos : Pos} {E : Value → Shared → Prop} {Q : Value → Shared → Prop} (I : Inv X pins σ H s) (TB : TabB X.base X.mg c P) (hcode : X.env.code = .ref c)
    (hT : TabS H P (lamN X)) (hdef : defaultsOf params X.env = ([], [])) (hfree : ∀ y ∈ scope.names, y.2 = .free → ∃ c, X.env.cells.lookup y.1 = some c)
    (h : ∀ (f c' : Addr) (pm ctv : Value) (H1 : Hp) (s' : Shared), s.heap.objs.size ≤ f → Inv X pins σ H1 s' → Made P c' (lamN X) H H1 → TabS H1 P (lamN X) → s'.heap.get? f = some (lamO X params body scope pm c' ctv) → H1 f = none → f ∉ frs X.stack → H1 c' = some (CodeO c' (lamN X)) → Q (.ref f) s') :
    wpAny (model X.prog X.w) X.A (eval (.Lambda params body scope pos) X.env) Q E s := by
  obtain ⟨ps, tabP, tri, among⟩ := hT
  have objP : s.heap.get? P = some { cls := .none, data := .fields ps } := I.hok P _ tabP
  have blt : s.heap.BuiltinsAt X.mg P := TB.bm.keeps I.bk
  have codeC := TB.code.keeps I.bk
  have globs := I.mod.glob.keeps I.bk
  have outside : ∀ f, s.heap.objs.size ≤ f → f ∉ frs X.stack := fun f hf inn => by
    cases List.mem_cons.mp (I.stkSub _ inn) with
    | inl e => have lt := I.lt; rw [← e] at lt; exact absurd (Nat.lt_of_lt_of_le lt hf) (Nat.lt_irrefl _)
    | inr e => exact I.nofs hf e
  refine PySem.W.kla_eval hdef ?_
  cases look : codeAmong pos ps.toList with
  | some cv =>
    obtain ⟨c', rfl, isCode⟩ := among pos cv look
    refine PySem.W.kla_makeFunctionHit (ps := ps) (mg := X.mg) (P := P) (c := c) (closure_ok hfree) I.ok.glob globs hcode codeC objP tri look blt fun ctv h' tk ext size => ?_
    have I1 : Inv X pins σ H { s with heap := h'.push (lamO X params body scope ((X.mg "__name__").getD .none) c' ctv), toks := tk } := I.kept fun b o e => Heap.get?_push_of_some _ (ext b o e)
    exact h _ c' _ ctv H _ size I1 .old ⟨ps, tabP, tri, among⟩ (Heap.get?_push_size _ rfl) (I.hok.fresh size) (outside _ size) isCode
  | none =>
    refine PySem.W.kla_makeFunction (ps := ps) (mg := X.mg) (P := P) (c := c) (closure_ok hfree) I.ok.glob globs hcode codeC objP tri look TB.gP blt fun c' ctv h' tk ext ge lt isRec tab' => ?_
    obtain ⟨c2, oc, vs, t, e2, hoc, hd, hv⟩ := isRec
    cases e2
    have size : s.heap.objs.size ≤ h'.objs.size := by omega
    have free : H c' = none := I.hok.fresh ge
    have I1 := inv_table (t' := tk) (h' := h'.push (lamO X params body scope ((X.mg "__name__").getD .none) c' ctv)) (more := #[rawInt pos.line, rawInt pos.col, .ref c']) I tabP
      (fun b o hb e => Heap.get?_push_of_some _ (ext b o hb e)) (Heap.get?_push_of_some _ tab') ge ⟨oc, vs, t, Heap.get?_push_of_some _ hoc, hd, hv⟩
    have listE : (ps ++ #[rawInt pos.line, rawInt pos.col, .ref c']).toList = ps.toList ++ [rawInt pos.line, rawInt pos.col, .ref c'] := by simp
    have pc : P ≠ c' := ne_of_none tabP free
    refine h _ c' _ ctv _ _ size I1 (.new tabP free) ⟨_, by rw [upd_ne pc, upd_same], by rw [listE]; exact PySem.TriplesOk_snoc _ _ _ _ tri, fun p' cv hcv => ?_⟩ (Heap.get?_push_size _ rfl) ?_ (outside _ size) upd_same
    · rw [listE] at hcv
      cases among_app _ tri hcv with
      | inr z => exact ⟨c', z, upd_same⟩
      | inl z =>
        obtain ⟨c0, e1, e2⟩ := among p' cv z
        refine ⟨c0, e1, ?_⟩
        rw [upd_ne (ne_of_none e2 free), upd_ne (fun z => by rw [z, tabP] at e2; exact codeO_ne ps (Option.some.inj e2).symm)]
        exact e2
    · have n1 : h'.objs.size ≠ c' := by omega
      have n2 : h'.objs.size ≠ P := Nat.ne_of_gt (Nat.lt_of_lt_of_le (Heap.lt_size objP) size)
      rw [upd_ne n1, upd_ne n2]
      exact I.hok.fresh size
end
theorem act4 {X : Cx} {pins : List (Addr × Obj)} {σ : L2.St} {H : Hp} {s : Shared} {CXg : CXT} {Eg : XK} {Ng : List Str} {qg : Str} {sg : Scope} {g f c' : Addr} {cdg pm ctv : Value} {params : Arguments} {body : Expr} {scope : Scope} {k i : Nat} {a : Str} {pn : List (Addr × Obj)} {xe : Value → Shared → Prop} {E : XK} {tb : TE} {p1 p2 : Pos}
    {pinsZ : List (Addr × Obj)} {σZ : L2.St} {HZ : Hp} {sZ : Shared} {Q : VK}
    (I : Inv X pins σ H s) (L : LamS X.env.scope scope) {hu : HO} (hff : H f = some (.frz (lamO X params body scope pm c' ctv) hu))
    (hbind : bindArgs (PySem.W.kla_fn "<lambda>" (lamN X) params body scope (cloFrom X.env.cells scope.names []) pm (.ref c') ctv) ⟨[], []⟩ = pure [])
    (hr : Room (k + 1) (X.A.deeper (envOfC qg sg s.heap.objs.size g cdg)))
    (hbody : ∀ (A : Around) (outer : List Env) (s : Shared) (H : Hp), Room k (A.deeper (lamEnv X scope s.heap.objs.size f c')) → PE (lamCx X A outer s H E scope f c') body tb)
    (hN : Ng[i]? = some a) (hv : Vis sg a) (hd : (a == ("__debug__" : Str)) = false) (hcd : (a == ("__classdict__" : Str)) = false)
    (IZ : Inv ((cxOf CXg X.prog X.w X.K X.mg X.base Ng qg sg g cdg X.A X.stack s H Eg).tr pn xe) pinsZ σZ HZ sZ)
    (hx : PassesAt (L2.CX X.prog X.w) ((cxOf CXg X.prog X.w X.K X.mg X.base Ng qg sg g cdg X.A X.stack s H Eg).tr pn xe) σZ E)
    (hs : σZ[i]? = some (some (.ref f))) (hc : HZ c' = some (CodeO c' (lamN X))) (ht : tb σ HZ Q) :
    wpAny (model X.prog X.w) ((cxOf CXg X.prog X.w X.K X.mg X.base Ng qg sg g cdg X.A X.stack s H Eg).tr pn xe).A (eval (.Call (.Name a p1) [] [] p2) ((cxOf CXg X.prog X.w X.K X.mg X.base Ng qg sg g cdg X.A X.stack s H Eg).tr pn xe).env)
      (EP ((cxOf CXg X.prog X.w X.K X.mg X.base Ng qg sg g cdg X.A X.stack s H Eg).tr pn xe) pinsZ σZ Q) xe sZ := by
  have name := (pe_var (X := (cxOf CXg X.prog X.w X.K X.mg X.base Ng qg sg g cdg X.A X.stack s H Eg).tr pn xe) (pos := p1) (i := i) hN hv hd hcd).run pinsZ sZ σZ HZ (fun v G => v = .ref f ∧ G = HZ) IZ ⟨.ref f, hs, rfl, rfl⟩
  refine wpAny_Call_Name_kw (thn name fun u s1 hu => ?_)
  obtain ⟨v, G, I1, rel, rfl, rfl⟩ := hu
  cases (show u = Value.ref f from rel)
  have objF : s1.heap.get? f = some (lamO X params body scope pm c' ctv) := (I1.hok f _ (I1.base.frzs f _ _ hff)).1
  obtain ⟨⟨oc, vs, t, hoc, hdc, hvc⟩, _, _⟩ := I1.hok c' _ hc
  have runs : codeAny (model X.prog X.w) (X.A.deeper (envOfC qg sg s.heap.objs.size g cdg)) (.call (.ref f) ⟨[], []⟩) (CR (L2.CX X.prog X.w) (envOfC qg sg s.heap.objs.size g cdg :: X.stack) X.prog X.w G s1 Q E) s1 := by
    refine PySem.W.kla_callFunE hr.depth objF rfl L.co L.gen rfl ⟨c', oc, vs, t, rfl, hoc, hdc, hvc⟩ ?_
    rw [hbind]
    refine wpAny_pure (wpAny_newFunctionEnv (fun y hy => (L.own y hy).2) (fun y hy => absurd hy (by simp)) (fun h₁ ns bt => ⟨I1.nolimit.fresh _ bt, ?_⟩) L.kind)
    have old : ∀ b o, s1.heap.get? b = some o → h₁.get? b = some o := fun b o e => bt.extBut b o (Nat.ne_of_lt (Heap.lt_size e)) (Heap.get?_push_of_some _ e)
    have J := lam_start2 (E := E) (f := f) (c' := c') (tk := s1.toks + ([] : List (Str × Value)).length) I L I1.env0 hr.hd (show Un (frs X.stack) [] H G s.heap s1.heap from I1.base) ns old
    show codeAny _ _ (.expr body (lamEnv X scope s1.heap.objs.size f c')) _ _
    refine PySem.W.kla_codeExpr (wpAny_mono ((hbody _ _ s1 G (hr.deeper _)).run [] _ _ G Q J ht) (fun v s' got => ?_) fun e s' got => got)
    obtain ⟨w', H', J', rv, q⟩ := got
    exact ⟨w', H', J'.os, J'.bare, J'.base, J'.hok, rv, q⟩
  refine PySem.W.callWith_F0 ⟨_, _, _, _, objF⟩ (wpAny_call (codeAny_mono runs fun r s' got => ?_))
  match r, got with
  | .error e, got => exact hx pinsZ G s1 e s' I1 got
  | .ok (.ret u), got => exact I1.after got

/-- a lambda is made, and kept -/
def dKeep (P : Addr) (nm : Str) (L : LamSyn) (fr : List Str) (CL : List (Str × Addr)) : DTE := fun ρ m q => m P = some (.tbl nm) ∧ ∀ f, m f = none → q (.ref f) (m.set f (.lam nm L fr CL))
theorem de_keep {X : Cx} {B : Bs} {c P : Addr} {fr : List Str} {params : Arguments} {body : Expr} {scope : Scope} {pos : Pos} (TB : TabB X.base X.mg c P) (hcode : X.env.code = .ref c) (L : LamS X.env.scope scope) (hdef : defaultsOf params X.env = ([], [])) (hfr : (cloFrom X.env.cells scope.names []).map (·.1) = fr) :
    DE B X (.Lambda params body scope pos) (dKeep P (lamN X) ⟨params, body, scope⟩ fr X.env.cells) := by
  refine ⟨fun pins s σ H Q I ⟨ρ, m, q, pre, ⟨hP, hq⟩, post⟩ => ?_⟩
  refine lam_make4 I TB hcode (pre.sim P _ hP) hdef (L.has I.ok) fun f c' pm ctv H1 s' hsz I1 made tab objF nf nfr codeC => ?_
  obtain ⟨sim1, st1⟩ := made.sim pre.sim hP tab
  have sz0 : X.s_0.heap.objs.size ≤ f := Nat.le_trans I.sz hsz
  have h0 : X.s_0.heap.get? f = none := Heap.get?_none_of_le sz0
  have nL : f ≠ X.env.locals := Nat.ne_of_gt (Nat.lt_of_lt_of_le I.lt hsz)
  have nC : ∀ x c, X.env.cells.lookup x = some c → c ≠ f := fun x c e => by
    obtain ⟨v, ob, ho, _⟩ := I.cell x c e
    exact Nat.ne_of_lt (Nat.lt_of_lt_of_le (Heap.lt_size ho) hsz)
  have nP : ∀ p ∈ X.pn ++ pins, p.1 ≠ f := fun p hp => Nat.ne_of_lt (Nat.lt_of_lt_of_le (Heap.lt_size (I.pin p hp).1) hsz)
  have I2 := track (o := .frz (lamO X params body scope pm c' ctv) (.ext fun _ => True)) I1 h0 nf nL nC nP ⟨objF, trivial, ⟨_, objF⟩, fun _ _ _ _ => trivial⟩
  have hc : upd H1 f (.frz (lamO X params body scope pm c' ctv) (.ext fun _ => True)) c' = some (CodeO c' (lamN X)) := by
    rw [upd_ne (ne_of_none codeC nf)]; exact codeC
  exact ⟨.ref f, _, I2, rfl, post (.ref f) _ (.ref f) _ (hq f (sim1.free nf)) (.ref f) (sim1.allocM nf ⟨⟨pm, ctv, c', upd_same, hc⟩, hfr, L.has I.ok⟩) (st1.trans (Step.allocM nf))⟩
/-- one of the lambdas that a name may hold -/
structure LAlt where
  L : LamSyn
  tb : DWX → DTE
structure LAltOk (X : Cx) (k : Nat) (a : LAlt) : Prop where
  L : LamS X.env.scope a.L.scope
  bind : ∀ (q : Str) (cl : List (Str × Addr)) (pm cv ctv : Value), bindArgs (PySem.W.kla_fn "<lambda>" q a.L.params a.L.body a.L.scope cl pm cv ctv) ⟨[], []⟩ = pure []
  body_ : ∀ (A : Around) (outer : List Env) (s : Shared) (H : Hp) (E : XK) (f c' : Addr) (B' : Bs) (ke : Value → Mem → Prop), Room k (A.deeper (lamEnv X a.L.scope s.heap.objs.size f c')) → Takes (lamCx X A outer s H E a.L.scope f c') (upW X.K B' fun cls _ m => ke cls m) → DE B' (lamCx X A outer s H E a.L.scope f c') a.L.body (a.tb fun cls _ m => ke cls m)
theorem de_keepF {X : Cx} {B : Bs} {nm : Str} {c P : Addr} {fr : List Str} {params : Arguments} {body : Expr} {scope : Scope} {pos : Pos} (TB : TabB X.base X.mg c P) (hcode : X.env.code = .ref c) (L : LamS X.env.scope scope) (hdef : defaultsOf params X.env = ([], []) := by rfl) (hfr : (cloFrom X.env.cells scope.names []).map (·.1) = fr := by rfl) (hnm : lamN X = nm := by rfl) :
    DE B X (.Lambda params body scope pos) (dKeep P nm ⟨params, body, scope⟩ fr X.env.cells) := by
  subst hnm
  exact de_keep TB hcode L hdef hfr
end L2.Lh

/-! defs that give lambdas back -/
namespace L2.Lh
open PySem PySem.Spec PyProof.Rows LamX
section
variable {X : Cx}
/-- statements that end by a return: the slots at the end are known -/
structure PSL (X : Cx) (st : List Stmt) (t : L2.St → Hp → (V → L2.St → Hp → Prop) → Prop) : Prop where
  run : ∀ (pins : List (Addr × Obj)) (s : Shared) (σ : L2.St) (H : Hp) (R : V → L2.St → Hp → Prop), Inv X pins σ H s → t σ H R →
    wpAny (model X.prog X.w) X.A (execs st X.env) (fun fl s' => ∃ v u σ' H', fl = .ret u ∧ Inv X pins σ' H' s' ∧ RelV v u ∧ R v σ' H') X.xe s
end
/-- the frame's cells are never written again -/
structure Froz (N : List Str) (cells : List (Str × Addr)) (σ : L2.St) (H H2 : Hp) : Prop where
  inj : ∀ x y c, cells.lookup x = some c → cells.lookup y = some c → x = y
  old : ∀ b, (∀ x c, cells.lookup x = some c → b ≠ c) → H2 b = H b
  free : ∀ x c, cells.lookup x = some c → H c = none
  cel : ∀ x c, cells.lookup x = some c → ∃ o, H2 c = some (.frz o (.ext fun _ => True)) ∧ ∀ (i : Nat) (v : V), N[i]? = some x → σ[i]? = some (some v) → ∃ u, o.data = .cell (some u) ∧ RelV v u
theorem Froz.keep {N : List Str} {cells : List (Str × Addr)} {σ : L2.St} {H H2 : Hp} (z : Froz N cells σ H H2) {b : Addr} {o : HO} (h : H b = some o) : H2 b = some o := by
  rw [z.old b fun x c e q => by rw [q, z.free x c e] at h; cases h]; exact h
section
variable {P : Program} {w : World} {K : PySem.W.Frag} {mg : Str → Option Value} {base : Heap}
end
section
variable {P : Program} {w : World} {K : PySem.W.Frag} {mg : Str → Option Value} {base : Heap}
end
/-! ### over plain data -/
abbrev DSR := DEnv → Mem → (D → DEnv → Mem → Prop) → Prop
def upR (K : PySem.W.Frag) (B : Bs) (t : DSR) : L2.St → Hp → (V → L2.St → Hp → Prop) → Prop := fun σ H R => ∃ ρ m r, Pre K B ρ m σ H ∧ t ρ m r ∧
  ∀ d ρ' m' v σ' H', r d ρ' m' → Rep K H' d v → RepEnv K H' ρ' σ' → Sim K H' m' → Step H m H' m' → R v σ' H'
structure DRs (B : Bs) (X : Cx) (st : List Stmt) (t : DSR) : Prop where
  run : PSL X st (upR X.K B t)
section
variable {P : Program} {w : World} {K : PySem.W.Frag} {mg : Str → Option Value} {base : Heap}
end
end L2.Lh

/-! told(work): work is a lambda whose maker is gone -/
namespace L2.Lh
open PySem PySem.Spec PyProof.Rows LamX
open Classical in
/-- the heap without the cells -/
noncomputable def hole (H : Hp) (cl : List (Str × Addr)) : Hp := fun b => if ∃ x, cl.lookup x = some b then none else H b
open Classical in
noncomputable def back (H : Hp) (cl : List (Str × Addr)) (H2 : Hp) : Hp := fun b => if ∃ x, cl.lookup x = some b then H b else H2 b
def CelsIn (H : Hp) (cl : List (Str × Addr)) : Prop := ∀ x c, cl.lookup x = some c → ∃ o u, H c = some (.frz o (.ext fun _ => True)) ∧ o.data = .cell (some u)
section
variable {H H2 : Hp} {cl : List (Str × Addr)}
theorem hole_out {b : Addr} (h : ¬ ∃ x, cl.lookup x = some b) : hole H cl b = H b := if_neg h
theorem hole_keep (hc : CelsIn H cl) {b : Addr} {u : HO} (h : H b = some u) (hn : ∀ o, u = .frz o (.ext fun _ => True) → ∀ w, o.data ≠ .cell w) : hole H cl b = some u := by
  rw [hole_out]
  · exact h
  · rintro ⟨x, e⟩
    obtain ⟨o, w, h1, h2⟩ := hc x b e
    rw [h1] at h
    exact hn o (Option.some.inj h).symm _ h2
end
mutual
theorem Rep.hole {K : PySem.W.Frag} {H : Hp} {cl : List (Str × Addr)} (hc : CelsIn H cl) : ∀ {d : D} {v : V}, Rep K H d v → Rep K (L2.Lh.hole H cl) d v
  | _, _, .non => .non
  | _, _, .bl b => .bl b
  | _, _, .int i => .int i
  | _, _, .str x => .str x
  | _, _, .ty n => .ty n
  | _, _, .ref a => .ref a
  | _, _, .tup h r => .tup (hole_keep hc h (fun _ e => nomatch e)) (Reps.hole hc r)
  | _, _, .ftup h n r => .ftup (hole_keep hc h (fun _ e => by cases e)) n (Reps.hole hc r)
  | _, _, .rol h r => .rol (by
      rcases h with ⟨o, h⟩ | h
      · exact .inl ⟨o, hole_keep hc h (fun _ e => by cases e)⟩
      · exact .inr h) (Reps.hole hc r)
theorem Reps.hole {K : PySem.W.Frag} {H : Hp} {cl : List (Str × Addr)} (hc : CelsIn H cl) : ∀ {ds : List D} {vs : List V}, Reps K H ds vs → Reps K (L2.Lh.hole H cl) ds vs
  | _, _, .nil => .nil
  | _, _, .cons h r => .cons (Rep.hole hc h) (Reps.hole hc r)
end
/-- the memory without the lambdas whose makers are gone -/
def hide (m : Mem) : Mem := fun b => match m b with
  | some (.clo ..) => none
  | o => o
theorem hide_some {m : Mem} {b : Addr} {o : MO} (h : hide m b = some o) : m b = some o ∧ ∀ nm L ds, o ≠ .clo nm L ds := by
  unfold hide at h
  split at h
  · cases h
  · rename_i hn
    exact ⟨h, fun nm L ds e => hn nm L ds (by rw [h, e])⟩
theorem exo_true {a C : Addr} {d : Option Addr} (h : L2.exo a C d = .ext fun _ => True) : False := by
  unfold L2.exo at h
  have h2 := (congrFun (HO.ext.inj h) ({ objs := #[] } : Heap)).mpr trivial
  obtain ⟨t1, e⟩ := h2
  simp [Heap.get?] at e
theorem exd_true {dx : Addr} {fs : List (Str × V)} (h : L2.exd dx fs = .ext fun _ => True) : False := by
  unfold L2.exd at h
  have h2 := (congrFun (HO.ext.inj h) ({ objs := #[] } : Heap)).mpr trivial
  obtain ⟨mA, hns, _⟩ := h2
  obtain ⟨od, e, _⟩ := lookIn_ns hns
  simp [Heap.get?] at e
theorem RepO.hole {K : PySem.W.Frag} {H : Hp} {cl : List (Str × Addr)} (hc : CelsIn H cl) {a : Addr} {o : MO} (r : RepO K H a o) (hn : ∀ nm L ds, o ≠ .clo nm L ds) : RepO K (L2.Lh.hole H cl) a o := by
  cases o with
  | lst ds => obtain ⟨vs, e, q⟩ := r; exact ⟨vs, hole_keep hc e (fun _ e => nomatch e), q.hole hc⟩
  | ins C fs => obtain ⟨dx, fv, e, q⟩ := r; exact ⟨dx, fv, hole_keep hc e (fun _ e => nomatch e), Paired.mapP q fun _ _ q => ⟨q.1, q.2.hole hc⟩⟩
  | exc cls => exact hole_keep hc r (fun _ e => nomatch e)
  | xd fs => obtain ⟨fv, e, q⟩ := r; exact ⟨fv, hole_keep hc e (fun _ e => nomatch e), Paired.mapP q fun _ _ q => ⟨q.1, q.2.hole hc⟩⟩
  | dK kvs => obtain ⟨kv, e, q⟩ := r; exact ⟨kv, hole_keep hc e (fun _ e => nomatch e), Paired.mapP q fun _ _ q => ⟨q.1, q.2.hole hc⟩⟩
  | dN kvs =>
    obtain ⟨es, ep, xs, e, q⟩ := r
    exact ⟨es, ep, xs, hole_keep hc e (fun _ e => nomatch e), ⟨q.ent, q.nd, q.sz, q.sys, Paired.mapP q.rel fun _ _ ⟨e, ⟨d, r, e2, z⟩, v, r2, rv⟩ => ⟨e, ⟨d, r.hole hc, e2, z⟩, v, r2.hole hc, rv⟩⟩⟩
  | dR kvs es ep ds =>
    obtain ⟨e, xs, q, r⟩ := r
    exact ⟨hole_keep hc e (fun _ e => nomatch e), xs, ⟨q.ent, q.nd, q.sz, q.sys, Paired.mapP q.rel fun _ _ ⟨e, ⟨d, r, e2, z⟩, v, r2, rv⟩ => ⟨e, ⟨d, r.hole hc, e2, z⟩, v, r2.hole hc, rv⟩⟩, r.hole hc⟩
  | tbl q =>
    obtain ⟨ps, h1, h2, h3⟩ := r
    exact ⟨ps, hole_keep hc h1 (fun _ e => nomatch e), h2, fun pos cv h => let ⟨c, e1, e2⟩ := h3 pos cv h; ⟨c, e1, hole_keep hc e2 (fun _ e => by unfold CodeO at e; cases e)⟩⟩
  | dF kvs => obtain ⟨od, kv, e, q⟩ := r; exact ⟨od, kv, hole_keep hc e (fun _ e => by cases e), Paired.mapP q fun _ _ q => ⟨q.1, q.2.hole hc⟩⟩
  | lam nm L fr CL =>
    obtain ⟨⟨pm, ctv, c', e1, e2⟩, r⟩ := r
    exact ⟨⟨pm, ctv, c', hole_keep hc e1 (fun o e w z => by cases e; cases z), hole_keep hc e2 (fun _ e => by unfold CodeO at e; cases e)⟩, r⟩
  | clo nm L ds => exact absurd rfl (hn nm L ds)
  | own C f d =>
    obtain ⟨oe, od, dx, y, e1, e2, e3⟩ := r
    exact ⟨oe, od, dx, y, hole_keep hc e1 (fun o e w z => exo_true (HO.frz.inj e).2), hole_keep hc e2 (fun o e w z => exd_true (HO.frz.inj e).2), e3.hole hc⟩
theorem Sim.hole {K : PySem.W.Frag} {H : Hp} {cl : List (Str × Addr)} {m : Mem} (hc : CelsIn H cl) (s : Sim K H m) : Sim K (L2.Lh.hole H cl) (hide m) := fun a o h =>
  let ⟨h1, h2⟩ := hide_some h; (s a o h1).hole hc h2
end L2.Lh

namespace L2.Lh
open PySem PySem.Spec PyProof.Rows LamX
abbrev cloEnv (nm : Str) (scope : Scope) (L f c' : Addr) (cl : List (Str × Addr)) : Env := PySem.W.envX nm scope L f (.ref c') cl
/-- the context of the body of a lambda whose maker is gone -/
def cloCx (P : Program) (w : World) (K : PySem.W.Frag) (mg : Str → Option Value) (base : Heap) (N : List Str) (nm : Str) (A : Around) (outer : List Env) (s : Shared) (H : Hp) (E : XK) (scope : Scope) (cl : List (Str × Addr)) (f c' : Addr) : Cx where
  prog := P
  w := w
  K := K
  mg := mg
  base := base
  A := A.deeper (cloEnv nm scope s.heap.objs.size f c' cl)
  N := N
  s_0 := s
  H_0 := H
  env := cloEnv nm scope s.heap.objs.size f c' cl
  outer := outer
  stack := cloEnv nm scope s.heap.objs.size f c' cl :: outer
  ex := []
  fn := fun _ => false
  calm := true
  pn := []
  xe := fun e s' => wpAny (model P w) (A.deeper (cloEnv nm scope s.heap.objs.size f c' cl)) (leaving (cloEnv nm scope s.heap.objs.size f c' cl) e) (fun _ s'' => L2.CX P w outer H s E e s'') (fun e' s'' => L2.CX P w outer H s E e' s'') s'
/-- the scope of a lambda by itself -/
structure CloS (scope : Scope) : Prop where
  kind : scope.kind = .function
  co : scope.isCoroutine = false
  gen : scope.isGenerator = false
  own : ∀ y ∈ scope.names, y.2 ≠ .local ∧ y.2 ≠ .cell
section
variable {P : Program} {w : World} {K : PySem.W.Frag} {mg : Str → Option Value} {base : Heap}
end
/-- a kept lambda of a maker that is gone -/
structure CAlt where
  nm : Str
  N : List Str
  L : LamSyn
  tb : DWX → DTE
structure CAltOk (P : Program) (w : World) (K : PySem.W.Frag) (mg : Str → Option Value) (base : Heap) (k : Nat) (a : CAlt) : Prop where
  L : CloS a.L.scope
  bind : ∀ (q : Str) (cl : List (Str × Addr)) (pm cv ctv : Value), bindArgs (PySem.W.kla_fn "<lambda>" q a.L.params a.L.body a.L.scope cl pm cv ctv) ⟨[], []⟩ = pure []
  body_ : ∀ (A : Around) (outer : List Env) (s : Shared) (H : Hp) (E : XK) (cl : List (Str × Addr)) (f c' : Addr) (B' : Bs) (ke : Value → Mem → Prop), Room k (A.deeper (cloEnv a.nm a.L.scope s.heap.objs.size f c' cl)) →
    Takes (cloCx P w K mg base a.N a.nm A outer s H E a.L.scope cl f c') (upW K B' fun cls _ m => ke cls m) → DE B' (cloCx P w K mg base a.N a.nm A outer s H E a.L.scope cl f c') a.L.body (a.tb fun cls _ m => ke cls m)
theorem cels_lookup {K : PySem.W.Frag} {H : Hp} {ds : List (Str × D)} {cl : List (Str × Addr)} (h : CelsAt K H ds cl) : ∀ {x : Str} {c : Addr}, cl.lookup x = some c → ∃ d, ds.lookup x = some d ∧ CelAt K H c d := by
  unfold CelsAt at h
  induction h with
  | nil => intro x c e; cases e
  | @cons p q ds cl r t ih =>
    intro x c e
    obtain ⟨n1, d⟩ := p
    obtain ⟨n2, c2⟩ := q
    obtain ⟨e1, e2⟩ := r
    have e1 : n1 = n2 := e1
    subst e1
    rw [List.lookup_cons] at e ⊢
    cases hb : x == n1 with
    | true => rw [hb] at e; cases e; exact ⟨d, rfl, e2⟩
    | false => rw [hb] at e; exact ih e
end L2.Lh

namespace L2.Lh
open PySem PySem.Spec PyProof.Rows LamX
theorem CelsAt.isIn {K : PySem.W.Frag} {H : Hp} {ds : List (Str × D)} {cl : List (Str × Addr)} (h : CelsAt K H ds cl) : CelsIn H cl := fun x c e => by
  obtain ⟨d, _, o, u, v, h1, h2, _⟩ := cels_lookup h e
  exact ⟨o, u, h1, h2⟩
theorem RepEnv.hole {K : PySem.W.Frag} {H : Hp} {cl : List (Str × Addr)} (hc : CelsIn H cl) {ρ : DEnv} {σ : L2.St} (h : RepEnv K H ρ σ) : RepEnv K (L2.Lh.hole H cl) ρ σ := Paired.mapP h fun a b q => by
  cases a with
  | none => trivial
  | some d => cases b with
    | none => exact q
    | some v => exact Rep.hole hc q
section
variable {P : Program} {w : World} {K : PySem.W.Frag} {mg : Str → Option Value} {base : Heap}
end
end L2.Lh

/-! repr of data that may hold the empty dict -/
namespace L2.Lh
open PySem PySem.Spec PyProof.Rows LamX
mutual
def pyY (f : Addr → Option PyData) : D → Option PyData
  | .non => some .none
  | .bl b => some (.bool b)
  | .int i => some (.int i)
  | .str x => some (.str x)
  | .ty _ => none
  | .ref a => f a
  | .tup xs => (pyYs f xs).map .tuple
  | .ftup xs => (pyYs f xs).map .tuple
  | .rol xs => (pyYs f xs).map .list
def pyYs (f : Addr → Option PyData) : List D → Option (List PyData)
  | [] => some []
  | d :: ds => match pyY f d, pyYs f ds with
    | some p, some ps => some (p :: ps)
    | _, _ => none
end
section
variable {X : Cx} {pins : List (Addr × Obj)} {σ : L2.St} {H : Hp} {s : Shared}
/-- what is read, and how it is shown within -/
def GK (X : Cx) (s : Shared) (u : Value) (p : PyData) : Prop := ∃ as, Reads s.heap u p as ∧
  (p.showable = true → p.shown.length ≤ sizeLine → ∃ bs, ReadAtMost s.heap p.depth bs ∧ ReprK X.prog X.w bs s.heap p.depth u p.shown)
def GKs (X : Cx) (s : Shared) (us : List Value) (ps : List PyData) : Prop := ∃ as, ReadsAll s.heap us ps as ∧
  (PyData.showableAll ps = true → (∀ t ∈ PyData.shownAll ps, t.length ≤ sizeLine) → ∃ bs, ReadAtMost s.heap (PyData.depthAll ps) bs ∧ ReprAllK X.prog X.w bs s.heap (PyData.depthAll ps) us (PyData.shownAll ps))
theorem GKs.nil : GKs X s [] [] := ⟨_, .nil, fun _ _ => ⟨[], (fun _ h => nomatch h), by simp only [PyData.shownAll]; exact .nil⟩⟩
theorem GKs.cons {u : Value} {us : List Value} {p : PyData} {ps : List PyData} (h : GK X s u p) (hs : GKs X s us ps) : GKs X s (u :: us) (p :: ps) := by
  obtain ⟨as, r, k⟩ := h
  obtain ⟨bs, rs, ks⟩ := hs
  refine ⟨_, .cons r rs, fun h1 h2 => ?_⟩
  have h1' : p.showable = true ∧ PyData.showableAll ps = true := by simpa [PyData.showableAll] using h1
  obtain ⟨b1, hb1, k1⟩ := k h1'.1 (h2 _ (by simp only [PyData.shownAll]; exact List.mem_cons_self ..))
  obtain ⟨b2, hb2, k2⟩ := ks h1'.2 (fun t ht => h2 t (by simp only [PyData.shownAll]; exact List.mem_cons_of_mem _ ht))
  refine ⟨b1 ++ b2, ?_, ?_⟩
  · simp only [PyData.depthAll]
    exact (hb1.mono (by omega)).append (hb2.mono (by omega))
  · simp only [PyData.shownAll, PyData.depthAll]
    exact .cons ((k1.more fun b hb => List.mem_append_left _ hb).level_le (by omega)) (k2.more_le (fun b hb => List.mem_append_right _ hb) (by omega))
theorem GK.tuple {a : Addr} {o : Obj} {its : Array Value} {n : Nat} {ps : List PyData} (ho : s.heap.get? a = some o) (hc : o.cls = .type "tuple") (hd : o.data = .seq its n) (h : GKs X s its.toList ps) : GK X s (.ref a) (.tuple ps) := by
  obtain ⟨as, r, k⟩ := h
  have rd : Reads s.heap (.ref a) (.tuple ps) _ := .tuple ho hc hd r
  refine ⟨_, rd, fun h1 h2 => ?_⟩
  have hz' : (tupleText (PyData.shownAll ps)).length ≤ sizeLine := by simpa only [PyData.shown] using h2
  obtain ⟨bs, hb, hk⟩ := k (by simpa [PyData.showable] using h1) (fun t ht => Nat.le_trans (tupleText_mem_le ht) hz')
  have hna : a ∉ bs := not_mem_of_deeper rd (by simp only [PyData.depth]; omega) hb
  refine ⟨a :: bs, ReadAtMost.cons rd (by simp only [PyData.depth]; omega) hb, ?_⟩
  simp only [PyData.depth, PyData.shown]
  exact ReprK.tuple ho hc hd hna hk
theorem GK.list {a : Addr} {o : Obj} {its : Array Value} {n : Nat} {ps : List PyData} (ho : s.heap.get? a = some o) (hc : o.cls = .type "list") (hd : o.data = .seq its n) (h : GKs X s its.toList ps) : GK X s (.ref a) (.list ps) := by
  obtain ⟨as, r, k⟩ := h
  have rd : Reads s.heap (.ref a) (.list ps) _ := .list ho hc hd r
  refine ⟨_, rd, fun h1 h2 => ?_⟩
  have hz' : (listText (PyData.shownAll ps)).length ≤ sizeLine := by simpa only [PyData.shown] using h2
  obtain ⟨bs, hb, hk⟩ := k (by simpa [PyData.showable] using h1) (fun t ht => Nat.le_trans (listText_mem_le ht) hz')
  have hna : a ∉ bs := not_mem_of_deeper rd (by simp only [PyData.depth]; omega) hb
  refine ⟨a :: bs, ReadAtMost.cons rd (by simp only [PyData.depth]; omega) hb, ?_⟩
  simp only [PyData.depth, PyData.shown]
  obtain ⟨l⟩ := its
  cases l with
  | nil =>
    have r' : ReadsAll s.heap [] ps _ := r
    cases r'
    simp only [PyData.shownAll, listText_nil]
    exact ReprK.listEmpty ho hc hd
  | cons x l => exact ReprK.list ho hc hd hna (by simpa using hk.length_eq) (fun i y e => hk.item i y (by simpa using e))
mutual
theorem pyY_ok (I : Inv X pins σ H s) {f : Addr → Option PyData} (hf : ∀ a p, f a = some p → GK X s (.ref a) p) : ∀ {d : D} {v : V} {p : PyData} {u : Value}, Rep X.K H d v → pyY f d = some p → RelV v u → GK X s u p
  | _, _, _, _, .non, e, r => by cases e; cases r; exact ⟨_, Reads.none, fun _ _ => ⟨[], (fun _ h => nomatch h), by simp only [PyData.shown]; exact .of_is ReprIs.none _ _ _⟩⟩
  | _, _, _, _, .bl b, e, r => by cases e; cases r; exact ⟨_, Reads.bool b, fun _ _ => ⟨[], (fun _ h => nomatch h), by simp only [PyData.shown]; exact .of_is (ReprIs.bool b) _ _ _⟩⟩
  | _, _, _, _, .int b, e, r => by cases e; obtain ⟨t, rfl⟩ := r; exact ⟨_, Reads.int b t, fun hs _ => ⟨[], (fun _ h => nomatch h), by simp only [PyData.shown]; exact .of_is (ReprIs.int t (by simpa [PyData.showable] using hs)) _ _ _⟩⟩
  | _, _, _, _, .str b, e, r => by cases e; obtain ⟨t, rfl⟩ := r; exact ⟨_, Reads.str b t, fun _ hz => ⟨[], (fun _ h => nomatch h), by simp only [PyData.shown]; exact .of_is (ReprIs.str b t (by simpa only [PyData.shown] using hz)) _ _ _⟩⟩
  | _, _, _, _, .ty b, e, r => by cases e
  | _, _, _, _, .ref a, e, r => by cases r; exact hf a _ e
  | .tup xs, _, _, _, .tup h rs, e, r => by
    unfold pyY at e
    cases q : pyYs f xs with
    | none => rw [q] at e; cases e
    | some ps =>
      rw [q] at e; cases e; cases r
      obtain ⟨its, rv, ⟨o, ho, hc, n, hd⟩, _⟩ := I.tuple (SqT.of h)
      exact GK.tuple ho hc hd (by simpa using pyYs_ok I hf rs q rv)
  | .ftup xs, _, _, _, .ftup h _ rs, e, r => by
    unfold pyY at e
    cases q : pyYs f xs with
    | none => rw [q] at e; cases e
    | some ps =>
      rw [q] at e; cases e; cases r
      obtain ⟨its, rv, ⟨o, ho, hc, n, hd⟩, _⟩ := I.tuple (.inl (.inr ⟨_, h⟩))
      exact GK.tuple ho hc hd (by simpa using pyYs_ok I hf rs q rv)
  | .rol xs, _, _, _, .rol h rs, e, r => by
    unfold pyY at e
    cases q : pyYs f xs with
    | none => rw [q] at e; cases e
    | some ps =>
      rw [q] at e; cases e; cases r
      obtain ⟨its, rv, ⟨o, k, ho, hc, _, hd⟩, _⟩ := I.list (rol_sq h)
      exact GK.list ho hc hd (by simpa using pyYs_ok I hf rs q rv)
theorem pyYs_ok (I : Inv X pins σ H s) {f : Addr → Option PyData} (hf : ∀ a p, f a = some p → GK X s (.ref a) p) : ∀ {ds : List D} {vs : List V} {ps : List PyData} {us : List Value}, Reps X.K H ds vs → pyYs f ds = some ps → Vals vs us → GKs X s us ps
  | _, _, _, _, .nil, e, r => by cases e; cases r; exact .nil
  | d :: ds, _, _, _, .cons h rs, e, r => by
    unfold pyYs at e
    cases q1 : pyY f d with
    | none => rw [q1] at e; cases e
    | some p =>
      cases q2 : pyYs f ds with
      | none => rw [q1, q2] at e; cases e
      | some ps =>
        rw [q1, q2] at e; cases e
        cases r with
        | cons r1 r2 => exact .cons (pyY_ok I hf h q1 r1) (pyYs_ok I hf rs q2 r2)
end
end
end L2.Lh

/-! texts: slices -/
namespace L2.Lh
open PySem PySem.Spec PyProof.Rows LamX
section
variable {X : Cx} {B : Bs}
def slX (d : D) (lo hi : Option Int) (m : Mem) (q : DQ) : Prop := match d with
  | .str z => z.length ≤ sizeLine ∧ q (.str (cutS z lo hi)) m
  | d => slD d lo hi m q
theorem slX_s {z : Str} {lo hi : Option Int} {m : Mem} {q : DQ} : slX (.str z) lo hi m q = (z.length ≤ sizeLine ∧ q (.str (cutS z lo hi)) m) := rfl
theorem d_slX : SlR X (fun x lo hi H Q => ∃ d m q, Rep X.K H d x ∧ Sim X.K H m ∧ slX d lo hi m q ∧ PostE X.K H m q Q) := by
  intro pins s σ H x v vl vu lo hi sl Q I rx hs pl pu ⟨d, m, q, r, sim, h, post⟩
  unfold slX at h
  split at h
  · rename_i z
    cases r
    exact sl_str pins s σ H _ v vl vu lo hi sl Q I rx hs pl pu ⟨z, rfl, h.1, post.here h.2 (.str _) sim⟩
  · exact d_sl pins s σ H _ v vl vu lo hi sl Q I rx hs pl pu ⟨d, m, q, r, sim, h, post⟩
def dSlX (te : DTE) (tl th : DTO) : DTE := fun ρ m q => te ρ m fun x m1 => tl ρ m1 fun l m2 => th ρ m2 fun u m3 => slX x l u m3 q
theorem de_sliceX {e : Expr} {te : DTE} {lo hi : Option Expr} {tl th : DTO} {p2 pos : Pos} (he : DE B X e te) (hl : DO B X lo tl) (hu : DO B X hi th) : DE B X (.Subscript e (.Slice lo hi none p2) pos) (dSlX te tl th) :=
  pe_imp (pe_slice d_slX he hl hu) fun σ H Q ⟨ρ, m, q, p, h, post⟩ => ⟨ρ, m, _, p, h, fun d m1 v H1 h1 r1 s1 t1 => ⟨ρ, m1, _, p.next s1 t1, h1, fun l m2 H2 h2 s2 t2 =>
    ⟨ρ, m2, _, (p.next s1 t1).next s2 t2, h2, fun u m3 H3 h3 s3 t3 => ⟨d, m3, q, (r1.mono t2.ext).mono t3.ext, s3, h3, fun d4 m4 v4 H4 h4 r4 s4 t4 => post d4 m4 v4 H4 h4 r4 s4 (t1.trans (t2.trans (t3.trans t4)))⟩⟩⟩⟩
end
end L2.Lh

/-! code that runs while an exception is handled, or not: what ends a walk -/
namespace L2.Lh
open PySem PySem.Spec PyProof.Rows LamX HotX L2H
/-- nothing is handled, or an exception that stands in the heap, its context None, elsewhere than at it -/
def CoolAt (A : Around) (it : Addr) (h : Heap) : Prop := A.handled = none ∨ ∃ p : Addr × Obj, Hot1 A p ∧ h.get? p.1 = some p.2 ∧ p.1 ≠ it
section
variable {prog : Program} {w : World} {A : Around} {E : Value → Shared → Prop} {s : Shared}
theorem CoolAt.upd {it : Addr} {h h' : Heap} (c : CoolAt A it h) (k : ∀ b o, b ≠ it → h.get? b = some o → h'.get? b = some o) : CoolAt A it h' := c.imp id fun ⟨p, h1, h2, h3⟩ => ⟨p, h1, k _ _ h3 h2, h3⟩
theorem CoolAt.in1 {it : Addr} {h : Heap} (c : CoolAt A it h) : CoolAt A.in1 it h := c
end

/-! ### contexts -/
/-- the handled exception was there at the entry -/
structure OldPin (X : Cx) (p : Addr × Obj) : Prop where
  get : X.s_0.heap.get? p.1 = some p.2
  free : X.H_0 p.1 = none
  nofs : p.1 ∉ X.fs
  noex : p.1 ∉ X.ex
  nocell : ∀ v, p.2.data ≠ .cell v
/-- nothing is handled here, or an exception that is known -/
def Cool (X : Cx) : Prop := X.calm = true ∨ ∃ p : Addr × Obj, Hot1 X.A p ∧ (p ∈ X.pn ∨ OldPin X p)
section
variable {X : Cx} {pins : List (Addr × Obj)} {σ : L2.St} {H : Hp} {s : Shared}
theorem Cool.calm (h : X.calm = true) : Cool X := .inl h
theorem Cool.hot (h : HotC X) : Cool X := let ⟨p, a, b⟩ := h; .inr ⟨p, a, .inl b⟩
theorem OldPin.at (I : Inv X pins σ H s) {p : Addr × Obj} (o : OldPin X p) : s.heap.get? p.1 = some p.2 ∧ H p.1 = none ∧ p.1 ≠ X.env.locals ∧ p.1 ∉ X.fs ∧ ∀ b, FpOk X pins H b → p.1 ≠ b := by
  have lt : p.1 < X.s_0.heap.objs.size := Heap.lt_size o.get
  refine ⟨I.base.keep _ _ o.get o.free o.nofs o.noex, I.base.free _ _ o.get o.free o.noex, Nat.ne_of_lt (Nat.lt_of_lt_of_le lt I.ok.above), o.nofs, fun b hb z => ?_⟩
  rcases hb.2.2.2.1 with h | h
  · exact o.noex (z ▸ h)
  · exact absurd (Nat.lt_of_lt_of_le lt h) (by rw [z]; exact Nat.lt_irrefl _)
/-- what is known of it in a state -/
theorem Cool.at (c : Cool X) (I : Inv X pins σ H s) : X.A.handled = none ∨ ∃ p : Addr × Obj, Hot1 X.A p ∧ s.heap.get? p.1 = some p.2 ∧ H p.1 = none ∧ p.1 ≠ X.env.locals ∧ p.1 ∉ X.fs ∧ (∀ v, p.2.data ≠ .cell v) ∧ ∀ b, FpOk X pins H b → p.1 ≠ b := by
  rcases c with h | ⟨p, h1, h2 | h2⟩
  · exact .inl (I.ok.hd h)
  · have P := I.pin p (List.mem_append_left _ h2)
    exact .inr ⟨p, h1, P.1, P.2.1, P.2.2.1, P.2.2.2.1, P.2.2.2.2, fun b hb => hb.2.2.2.2.2 p (List.mem_append_left _ h2)⟩
  · obtain ⟨g, f, l, n, b⟩ := h2.at I
    exact .inr ⟨p, h1, g, f, l, n, h2.nocell, b⟩
/-- a block within -/
theorem Cool.blk (c : Cool X) (I : Inv X pins σ H s) {scope : Scope} {cenv : Env} {fp : List Addr} (hfp : ∀ b ∈ fp, FpOk X pins H b) : Cool (X.blk s H scope cenv fp) := by
  rcases c with h | c
  · exact .inl h
  · rcases Cool.at (.inr c) I with h0 | ⟨p, h1, h2, h3, h4, h5, h6, h7⟩
    · obtain ⟨p, ⟨e, _⟩, _⟩ := c
      rw [h0] at e; cases e
    · exact .inr ⟨p, h1, .inr ⟨h2, h3, fun hm => (List.mem_cons.mp (I.stkSub p.1 hm)).elim h4 h5, fun hm => h7 _ (hfp _ hm) rfl, h6⟩⟩
end

/-! ### walks -/
structure TurnC (P : Program) (w : World) (K : PySem.W.Frag) (tg : Expr) (J : It) (fp : List Addr) (it : Addr) (tn : Nat → Heap → Prop) : Prop where
  mem : it ∈ fp
  obj : ∀ i h, tn i h → ∀ b ∈ fp, ∃ o, h.get? b = some o ∧ ∀ v, o.data ≠ .cell v
  keep : ∀ i h h', tn i h → (∀ b ∈ fp, ∀ o, h.get? b = some o → h'.get? b = some o) → tn i h'
  item : ∀ (X : Cx), X.prog = P → X.w = w → X.K = K → Cool X → ∀ (i : Nat) (pins : List (Addr × Obj)) (s : Shared) (σ : L2.St) (H : Hp) (E : Value → Shared → Prop), Inv X pins σ H s → (∀ b ∈ fp, FpOk X pins H b) → tn i s.heap → J.go i H →
    wpAny (model P w) X.A (pyNext (.ref it)) (fun r s1 => ∃ u, r = some u ∧
      wpAny (model P w) X.A (letOwnedTupleGo tg (.ref it) u) (fun _ s2 => ∃ x H', Inv X pins σ H' s2 ∧ RelV x u ∧ J.yld i H x H' ∧ tn (i + 1) s2.heap ∧ ∀ b ∈ fp, H' b = none) E s1) E s
  done : ∀ (X : Cx), X.prog = P → X.w = w → X.K = K → Cool X → ∀ (i : Nat) (pins : List (Addr × Obj)) (s : Shared) (σ : L2.St) (H : Hp) (E : Value → Shared → Prop), Inv X pins σ H s → (∀ b ∈ fp, FpOk X pins H b) → tn i s.heap → J.stop i H →
    wpAny (model P w) X.A (pyNext (.ref it)) (fun r s1 => r = none ∧ Inv X pins σ H s1) E s
end L2.Lh

/-! walks while an exception is handled, or not: enumerate, for, comprehensions, targets -/
namespace L2.Lh
open PySem PySem.Spec PyProof.Rows LamX HotX L2H
section
variable {prog : Program} {w : World} {A : Around} {E : Value → Shared → Prop} {s : Shared}
/-- what holds of the handled exception through a walk: gp its address, if any -/
structure CoolW (A : Around) (it : Addr) (gp : List Addr) (G : Heap → Prop) : Prop where
  keep : ∀ h h', G h → (∀ b ∈ gp, ∀ o, h.get? b = some o → h'.get? b = some o) → G h'
  ne : ∀ b ∈ gp, b ≠ it
  cool : ∀ h, G h → CoolAt A it h
theorem CoolW.none {it : Addr} (h : A.handled = none) : CoolW A it [] fun _ => True := ⟨(fun _ _ _ _ => trivial), (fun _ z => by cases z), (fun _ _ => .inl h)⟩
theorem CoolW.some {it : Addr} {p : Addr × Obj} (h : Hot1 A p) (n : p.1 ≠ it) : CoolW A it [p.1] fun h => h.get? p.1 = some p.2 :=
  ⟨fun _ _ g k => k _ List.mem_cons_self _ g, fun b hb => by rw [List.mem_singleton] at hb; rw [hb]; exact n, fun _ g => .inr ⟨p, h, g, n⟩⟩
end
/-! ### what is walked -/
def PIEC (X : Cx) (pins : List (Addr × Obj)) (σ : L2.St) (tg : Expr) (R : It → Hp → Prop) (itv : Value) (s2 : Shared) : Prop :=
  ∃ (it : Addr) (fp : List Addr) (tn : Nat → Heap → Prop) (J : It) (H' : Hp), itv = .ref it ∧ Inv X pins σ H' s2 ∧ TurnC X.prog X.w X.K tg J fp it tn ∧ tn 0 s2.heap ∧ (∀ b ∈ fp, FpOk X pins H' b) ∧
    (∀ (A : Around) (i : Nat) (s : Shared) (Q : Value → Shared → Prop) (E : Value → Shared → Prop), tn i s.heap → Q (.ref it) s → wpAny (model X.prog X.w) A (pyIter (.ref it)) Q E s) ∧ R J H'
structure PIC (X : Cx) (tg iter : Expr) (wi : TI) : Prop where
  run : ∀ (pins : List (Addr × Obj)) (s : Shared) (σ : L2.St) (H : Hp) (R : It → Hp → Prop), Inv X pins σ H s → wi σ H R →
    wpAny (model X.prog X.w) X.A (eval iter X.env) (fun v s1 => wpAny (model X.prog X.w) X.A (pyIter v) (PIEC X pins σ tg R) X.xe s1) X.xe s
section
variable {X : Cx} {B : Bs} {tg : Expr}
end

/-! ### for -/
section
variable {X : Cx} {tg : Expr}
/-! ### comprehensions -/
end
section
variable {X : Cx} {B : Bs} {tg : Expr}
end
end L2.Lh

/-! built-ins that walk, and targets, while an exception is handled, or not -/
namespace L2.Lh
open PySem PySem.Spec PyProof.Rows LamX HotX L2H
def CoolNow (A : Around) (h : Heap) : Prop := A.handled = none ∨ ∃ p : Addr × Obj, Hot1 A p ∧ h.get? p.1 = some p.2
theorem Cool.now {X : Cx} {pins : List (Addr × Obj)} {σ : L2.St} {H : Hp} {s : Shared} (c : Cool X) (I : Inv X pins σ H s) : CoolNow X.A s.heap := (c.at I).imp id fun ⟨p, h1, h2, _⟩ => ⟨p, h1, h2⟩
section
variable {prog : Program} {w : World} {A : Around} {E : Value → Shared → Prop} {s : Shared}
theorem CoolNow.keeps {h h' : Heap} (c : CoolNow A h) (k : ∀ b o, h.get? b = some o → h'.get? b = some o) : CoolNow A h' := c.imp id fun ⟨p, h1, h2⟩ => ⟨p, h1, k _ _ h2⟩
theorem CoolNow.walk {h : Heap} (c : CoolNow A h) {it : Addr} (hi : h.objs.size ≤ it) : ∃ gp G, CoolW A it gp G ∧ G h ∧ ∀ b ∈ gp, b < h.objs.size := by
  rcases c with h0 | ⟨p, h1, h2⟩
  · exact ⟨_, _, CoolW.none h0, trivial, fun b z => by cases z⟩
  · have lt := Heap.lt_size h2
    exact ⟨_, _, CoolW.some h1 (Nat.ne_of_lt (Nat.lt_of_lt_of_le lt hi)), h2, fun b hb => by rw [List.mem_singleton] at hb; rw [hb]; exact lt⟩
end
section
variable {X : Cx}
end

/-! ### list(range), tuple(range) -/
section
variable {prog : Program} {w : World} {A : Around} {E : Value → Shared → Prop} {s : Shared}
theorem CoolNow.fresh {h : Heap} (c : CoolNow A h) (ob : Obj) : A.handled = none ∨ ∃ p : Addr × Obj, Hot1 A p ∧ (h.push ob).get? p.1 = some p.2 ∧ p.1 ≠ h.objs.size :=
  c.imp id fun ⟨p, h1, h2⟩ => ⟨p, h1, Heap.get?_push_of_some _ h2, Nat.ne_of_lt (Heap.lt_size h2)⟩
end

/-! ### a, b = t -/
section
variable {prog : Program} {w : World} {A : Around} {E : Value → Shared → Prop} {s : Shared}
end
section
variable {X : Cx} {B : Bs} {pos : Pos} {vs : List Nat}
end
end L2.Lh

/-! defs that run while an exception is handled, or not: one derivation, both promises -/
namespace L2.Lh
open PySem PySem.Spec PyProof.Rows LamX HotX L2H
theorem _root_.L2H.RoomH.units {k : Nat} {A : Around} (r : RoomH k A) : A.units + 64 < cLine := by have := r.un; omega
structure FnC (P : Program) (w : World) (K : PySem.W.Frag) (mg : Str → Option Value) (base : Heap) (k : Nat) (f : Addr) (fd : FuncData) (ps : List Str) (sp : DSp) : Prop where
  cold : FnD P w K mg base k f fd ps sp
  hot : FnH P w K mg base (L2.CX P w) k f fd ps (upSp K sp)
section
variable {P : Program} {w : World} {K : PySem.W.Frag} {mg : Str → Option Value} {base : Heap}
end
structure DefC (P : Program) (w : World) (K : PySem.W.Frag) (mg : Str → Option Value) (base : Heap) (k : Nat) (x : Str) (ps : List Str) (sp : DSp) where
  f : Addr
  fd : FuncData
  ok : FnC P w K mg base k f fd ps sp
  g : mg x = some (.ref f)
  kp : PySem.W.keepIn K (.ref f) = true
  b : Binds K fd ps []
def DefC.at {P : Program} {w : World} {K : PySem.W.Frag} {mg : Str → Option Value} {base : Heap} {k : Nat} {x : Str} {ps : List Str} {sp : DSp} (d : DefC P w K mg base k x ps sp) : DefAt P w K mg base k x ps sp := ⟨d.f, d.fd, d.ok.cold, d.g, d.kp, d.b⟩
structure MethC (P : Program) (w : World) (K : PySem.W.Frag) (mg : Str → Option Value) (base : Heap) (k : Nat) (C : Addr) (mn : Str) (ps : List Str) (sp : DSp) where
  f : Addr
  fd : FuncData
  ok : FnC P w K mg base k f fd ps sp
  me : Meth K C mn f
  b : Binds K fd ps []
def MethC.at {P : Program} {w : World} {K : PySem.W.Frag} {mg : Str → Option Value} {base : Heap} {k : Nat} {C : Addr} {mn : Str} {ps : List Str} {sp : DSp} (d : MethC P w K mg base k C mn ps sp) : MethAt P w K mg base k C mn ps sp := ⟨d.f, d.fd, d.ok.cold, d.me, d.b⟩
section
variable {X : Cx} {B : Bs} {k : Nat} {f C : Addr} {fd : FuncData} {ps : List Str} {sp : DSp} {we : DWX} {x mn : Str} {p pos apos : Pos} {e o : Expr} {es : List Expr} {t : DTA} {to : DTE}
end
end L2.Lh
namespace L2.Lh
open PySem PySem.Spec PyProof.Rows LamX HotX L2H
/-! ### try: n = d[k], except KeyError: a suite that calls -/
section
variable {X : Cx} {B : Bs}
end
end L2.Lh

/-! errors of a class whose own __init__ keeps one field -/
namespace L2.Lh
open PySem PySem.Spec PyProof.Rows LamX HotX L2H
/-- the mark of an error of the class at C whose fields stand at dx -/
def xvI (C dx : Addr) : Value := .int (.ofNat C) dx
@[simp] theorem xvC_I {C dx : Addr} : xvC (xvI C dx) = .ref C := rfl
@[simp] theorem xvD_I {C dx : Addr} : xvD (xvI C dx) = some dx := rfl
@[simp] theorem xvC_ref {C : Addr} : xvC (.ref C) = .ref C := rfl
@[simp] theorem xvD_ref {C : Addr} : xvD (.ref C) = none := rfl
@[simp] theorem xvC_type {C : String} : xvC (.type C) = .type C := rfl
@[simp] theorem xvD_type {C : String} : xvD (.type C) = none := rfl
/-- what such an __init__ does -/
def spInit (C : Addr) (f : Str) : Sp := fun vs H Q _ => ∃ a y, vs = [.ref a, y] ∧ H a = some (exo a C none) ∧ ∀ dx, H dx = none → dx ≠ a → Q .non (upd (upd H dx (exd dx [(f, y)])) a (exo a C (some dx)))
structure InitAt (P : Program) (w : World) (K : PySem.W.Frag) (mg : Str → Option Value) (base : Heap) (k : Nat) (C : Addr) (p f : Str) where
  a : Addr
  fd : FuncData
  cold : FnOk P w K mg base (L2.CX P w) k a fd ["self", p] (spInit C f)
  hot : FnH P w K mg base (L2.CX P w) k a fd ["self", p] (spInit C f)
  fi : PySem.W.findIn K (.ref C) "__init__" = some (some (.ref a))
  ty : PySem.W.typeIn K (.ref a) = some (.type "function")
  b : Binds K fd ["self", p] []
  ox : OexC K C
section
variable {P : Program} {w : World} {K : PySem.W.Frag} {mg : Str → Option Value} {base : Heap}
def initAt_of {qual : Str} {st : Stmt} {a : Addr} {fd : FuncData} {p f : Str} {C : Addr} {k : Nat} (F : Fun K "__init__" qual st a fd) (S : FnScope ["self", p] ["self", p] (defScope st)) (T : OexC K C) (na : PySem.W.findIn K (.ref C) f = some none) (me : Meth K C "__init__" a)
    (b : Binds K fd ["self", p] [])
    (ht : ∀ (X : Cx), X.N = (["self", p] : List Str) → X.env.scope = defScope st → X.K = K → PSs X (defBody st) (tOst K f (tVar 0) (tVar 1))) : InitAt P w K mg base (k + 1) C p f :=
  have ln : ∀ vs H Q E, spInit C f vs H Q E → vs.length = (["self", p] : List Str).length := fun vs H Q E ⟨a, y, e, _⟩ => by rw [e]; rfl
  have rd : ∀ (H : Hp) (vs : List V) (Q : VK) (E : XK), spInit C f vs H Q E → tOst K f (tVar 0) (tVar 1) { nx := fun _ H' => Q .non H', rt := Q } (L2.start (["self", p] : List Str) vs) H := fun H vs Q E ⟨a, y, e, ha, hq⟩ => by
    subst e
    exact ⟨y, rfl, .ref a, rfl, a, C, rfl, T, na, .inl ⟨ha, fun dx h1 h2 => hq dx h1 h2⟩⟩
  { a := a
    fd := fd
    cold := F.okX S ln fun cdv A outer s H vs Q E hr h => ⟨_, ht _ rfl rfl rfl, rd H vs Q E h⟩
    hot := by
      obtain ⟨oc, od, kV, doc, pm, an, cdv, ct, osl, rfl, lk, hcd⟩ := F.ex
      exact fn_ofH lk hcd S ln fun A outer s H vs Q E p hot hr h => ⟨_, ht _ rfl rfl rfl, rd H vs Q E h⟩
    fi := me.at_
    ty := by
      have := me.fn
      unfold PySem.W.isFn at this
      exact eq_of_beq this
    b := b
    ox := T }
end
section
variable {X : Cx} {B : Bs} {k : Nat} {C : Addr} {p f : Str} {we : DWX} {x : Str} {e : Expr} {es : List Expr} {t : DTA} {p1 pos pos2 cpos : Pos} {j : Nat}
end
/-! ### try: return d[k], except KeyError: .. -/
section
variable {X : Cx} {B : Bs}
end
end L2.Lh

/-! try with several clauses, any of which may name its error; the error's field is read in its suite -/
namespace L2.Lh
open PySem PySem.Spec PyProof.Rows LamX
def endN (D : Ends) (i : Nat) : Ends := { nx := fun τ G => D.nx (τ.set i none) G, rt := fun _ _ => False, bk := fun _ _ => False, ct := fun _ _ => False }
abbrev HdA := Value × Option Nat × (Addr → Value → Option Addr → TS)
def wManyA (K : PySem.W.Frag) (Wout : WX) (D : Ends) : List HdA → WX
  | [] => Wout
  | (c, none, ts) :: r => fun cls d σ H => ∃ b, PySem.W.exmOne K cls c = some b ∧ (b = true → ∀ a, H a = none → ts a cls d D σ H) ∧ (b = false → wManyA K Wout D r cls d σ H)
  | (c, some i, ts) :: r => fun cls d σ H => ∃ b, PySem.W.exmOne K cls c = some b ∧ (b = true → ∀ a, H a = none → ts a cls d (endN D i) (σ.set i (some (.ref a))) H) ∧ (b = false → wManyA K Wout D r cls d σ H)
inductive HdsA (X : Cx) : List ExceptHandler → List HdA → Prop
  | nil : HdsA X [] []
  | cons {x : Str} {c : Value} {ts : Addr → Value → Option Addr → TS} {b₀ : Stmt} {suite : List Stmt} {np pos' : Pos} {hds : List ExceptHandler} {l : List HdA} (hc : Names X x c)
      (hsu : ∀ (a : Addr) (oe : Obj) (cls : Value) (d : Option Addr) (pn : List (Addr × Obj)), Zc cls d oe → (∃ vs, oe.data = .fields vs) → PSs (X.suite a ((a, oe) :: pn)) (b₀ :: suite) (ts a cls d)) (r : HdsA X hds l) :
      HdsA X (.ExceptHandler (some (.Name x np)) none (b₀ :: suite) pos' :: hds) ((c, none, ts) :: l)
  | consN {x n : Str} {i : Nat} {c : Value} {ts : Addr → Value → Option Addr → TS} {b₀ : Stmt} {suite : List Stmt} {np pos' : Pos} {hds : List ExceptHandler} {l : List HdA} (hc : Names X x c) (hi : X.N[i]? = some n) (hkind : X.env.kindOf n = some .local)
      (hsu : ∀ (a : Addr) (oe : Obj) (cls : Value) (d : Option Addr) (pn : List (Addr × Obj)), Zc cls d oe → (∃ vs, oe.data = .fields vs) → PSs (X.suite a ((a, oe) :: pn)) (b₀ :: suite) (ts a cls d)) (r : HdsA X hds l) :
      HdsA X (.ExceptHandler (some (.Name x np)) (some n) (b₀ :: suite) pos' :: hds) ((c, some i, ts) :: l)
section
variable {X : Cx} {body : List Stmt} {h₀ : ExceptHandler} {hds : List ExceptHandler} {l : List HdA} {pos : Pos} {tb : WX → TS} {Wout : WX}
end
/-! ### over plain data -/
abbrev DHdA := CT × Value × Option Nat × (Addr → Value → DTS)
def endND (E : DEnds) (i : Nat) : DEnds := { nx := fun ρ2 m2 => E.nx (ρ2.set i none) m2, rt := fun _ _ => False }
def wManyDA (we : DWX) (E : DEnds) : List DHdA → DWX
  | [], cls, ρ, m => we cls ρ m
  | (xt, c, none, ts) :: r, cls, ρ, m => ∃ b, (xvC cls, c, b) ∈ xt ∧ (b = true → ∀ a, m a = none → ts a cls E ρ m) ∧ (b = false → wManyDA we E r cls ρ m)
  | (xt, c, some i, ts) :: r, cls, ρ, m => ∃ b, (xvC cls, c, b) ∈ xt ∧ (b = true → ∀ a, m a = none → ts a cls (endND E i) (ρ.set i (some (.ref a))) m) ∧ (b = false → wManyDA we E r cls ρ m)
section
variable {X : Cx} {B : Bs}
abbrev SuiteA (X : Cx) (body : List Stmt) (ts : Addr → Value → DTS) : Prop :=
  ∀ (B' : Bs) (a : Addr) (oe : Obj) (mk : Value) (pn : List (Addr × Obj)), Zc (xvC mk) (xvD mk) oe → (∃ vs, oe.data = .fields vs) → DSs B' (X.suite a ((a, oe) :: pn)) body (ts a mk)
inductive DHdsA (X : Cx) : List ExceptHandler → List DHdA → Prop
  | nil : DHdsA X [] []
  | cons {x : Str} {c : Value} {xt : CT} {ts : Addr → Value → DTS} {b₀ : Stmt} {suite : List Stmt} {np pos' : Pos} {hds : List ExceptHandler} {l : List DHdA} (xo : ExOk X.K xt)
      (hSuite : SuiteA X (b₀ :: suite) ts) (hc : Names X x c) (r : DHdsA X hds l) :
      DHdsA X (.ExceptHandler (some (.Name x np)) none (b₀ :: suite) pos' :: hds) ((xt, c, none, ts) :: l)
  | consN {x n : Str} {i : Nat} {c : Value} {xt : CT} {ts : Addr → Value → DTS} {b₀ : Stmt} {suite : List Stmt} {np pos' : Pos} {hds : List ExceptHandler} {l : List DHdA} (xo : ExOk X.K xt)
      (hSuite : SuiteA X (b₀ :: suite) ts) (hc : Names X x c) (r : DHdsA X hds l) (hi : X.N[i]? = some n := by rfl) (hkind : X.env.kindOf n = some .local := by rfl) :
      DHdsA X (.ExceptHandler (some (.Name x np)) (some n) (b₀ :: suite) pos' :: hds) ((xt, c, some i, ts) :: l)
def hdsTA (K : PySem.W.Frag) (l : List DHdA) : List HdA := l.map fun h => (h.2.1, h.2.2.1, fun a cls d F σ H => ∃ B' mk, (cls = xvC mk ∧ d = xvD mk) ∧ upS K B' (h.2.2.2 a mk) F σ H)
theorem DHdsA.ok {hds : List ExceptHandler} {l : List DHdA} (h : DHdsA X hds l) : HdsA X hds (hdsTA X.K l) := by
  induction h with
  | nil => exact .nil
  | cons xo hs hc r ih => exact .cons hc (fun a oe cls d pn hz hd => ⟨fun pins s σ H F I ⟨B', mk, ⟨e1, e2⟩, h⟩ => by subst e1 e2; exact (hs B' a oe mk _ hz hd).run pins s σ H F I h⟩) ih
  | consN xo hs hc r hi hk ih => exact .consN hc hi hk (fun a oe cls d pn hz hd => ⟨fun pins s σ H F I ⟨B', mk, ⟨e1, e2⟩, h⟩ => by subst e1 e2; exact (hs B' a oe mk _ hz hd).run pins s σ H F I h⟩) ih
theorem DHdsA.wish {hds : List ExceptHandler} {l : List DHdA} (h : DHdsA X hds l) {we : DWX} {E : DEnds} {F : Ends} {H0 : Hp} {m0 : Mem} (eo : EndsOk X.K H0 m0 E F) (stB : Step B.H B.m H0 m0) :
    ∀ cls d σ' H', upW X.K ⟨H0, m0⟩ (wManyDA we E l) cls d σ' H' → wManyA X.K (upW X.K B we) F (hdsTA X.K l) cls d σ' H' := by
  induction h with
  | nil =>
    rintro cls d σ' H' ⟨c0, dn, ρ1, m1, p1, w⟩
    exact ⟨c0, dn, ρ1, m1, ⟨p1.env, p1.sim, stB.trans p1.st⟩, w⟩
  | @cons x c xt ts b₀ suite np pos' hds l xo hs hc r ih =>
    rintro cls d σ' H' ⟨c0, ⟨e1, e2⟩, ρ1, m1, p1, b, hb, hyes, hno⟩
    subst e1 e2
    exact ⟨b, xo _ hb, fun e a ha => ⟨⟨H', m1⟩, c0, ⟨rfl, rfl⟩, ρ1, m1, E, ⟨p1.env, p1.sim, Step.refl _ _⟩, hyes e a (p1.sim.free ha), eo.next p1.st⟩, fun e => ih _ _ σ' H' ⟨c0, ⟨rfl, rfl⟩, ρ1, m1, p1, hno e⟩⟩
  | @consN x n i c xt ts b₀ suite np pos' hds l xo hs hc r hi hk ih =>
    rintro cls d σ' H' ⟨c0, ⟨e1, e2⟩, ρ1, m1, p1, b, hb, hyes, hno⟩
    subst e1 e2
    refine ⟨b, xo _ hb, fun e a ha => ⟨⟨H', m1⟩, c0, ⟨rfl, rfl⟩, ρ1.set i (some (.ref a)), m1, _, ⟨p1.env.set (.ref a) i, p1.sim, Step.refl _ _⟩, hyes e a (p1.sim.free ha), ?_, ?_, ?_, ?_⟩, fun e => ih _ _ σ' H' ⟨c0, ⟨rfl, rfl⟩, ρ1, m1, p1, hno e⟩⟩
    · intro ρ2 m2 σ2 H2 q2 env2 sim2 st2
      exact eo.nx _ _ _ _ q2 (env2.setNone i) sim2 (p1.st.trans st2)
    · intro _ _ _ _ z; exact z.elim
    · intro _ _ _ _ z; exact z.elim
    · intro _ _ _ _ z; exact z.elim
end
end L2.Lh

/-! texts: globals, signs, walks, ends; dicts with text keys: None in d, d.pop(k), sorted(d) -/
namespace L2.Lh
open PySem PySem.Spec PyProof.Rows LamX
/-- a sign as a text -/
def sg1 (c : Nat) : Str := ⟨#[c]⟩
def sgs (x : Str) : List D := x.cps.toList.map fun c => D.str (sg1 c)
section
variable {X : Cx} {B : Bs}
/-! ### for c in text -/
theorem ItOk.txt {K : PySem.W.Frag} {x : Str} {H0 : Hp} {m0 : Mem} : ItOk K ⟨sgs x, fun _ => True⟩ (Its x) H0 m0 where
  go := fun i d m H e s st _ => by
    have e' : (sgs x)[i]? = some d := e
    unfold sgs at e'
    rw [List.getElem?_map] at e'
    cases hc : x.cps.toList[i]? with
    | none => rw [hc] at e'; cases e'
    | some c =>
      rw [hc] at e'
      cases e'
      have hi : i < x.cps.toList.length := by
        rcases Nat.lt_or_ge i x.cps.toList.length with h | h
        · exact h
        · rw [List.getElem?_eq_none h] at hc; cases hc
      refine ⟨(show i < x.cps.size by simpa using hi), fun v H' ⟨e1, c', e2, e3⟩ => ?_⟩
      subst e1 e3
      have : x.cps.toList[i]? = x.cps[i]? := by simp
      rw [this, e2] at hc
      cases hc
      exact ⟨.str _, s, Step.refl _ _⟩
  stop := fun m H s st _ => (by
    show x.cps.size ≤ (sgs x).length
    unfold sgs
    simp)
/-! ### text[i] -/
/-! ### sign in text -/
/-! ### x in d, x a text, a number or None -/
/-! ### text.endswith(text) -/
/-! ### d.pop(k) -/
/-! ### sorted(d), keys texts -/
end
end L2.Lh

/-! a statement that walks a dict which is written again later: it is locked while the statement runs -/
namespace L2.Lh
open PySem PySem.Spec PyProof.Rows LamX
/-- all but what is locked stays -/
def Thw (H H' : Hp) : Prop := ∀ b u, H b = some u → (∀ od kv, u ≠ .frz od (.dK kv)) → H' b = some u
mutual
theorem Rep.thw {K : PySem.W.Frag} {H H' : Hp} (t : Thw H H') : ∀ {d : D} {v : V}, Rep K H d v → Rep K H' d v
  | _, _, .non => .non
  | _, _, .bl b => .bl b
  | _, _, .int i => .int i
  | _, _, .str x => .str x
  | _, _, .ty n => .ty n
  | _, _, .ref a => .ref a
  | _, _, .tup h r => .tup (t _ _ h fun _ _ z => nomatch z) (Reps.thw t r)
  | _, _, .ftup h n r => .ftup (t _ _ h fun _ _ z => by cases z) n (Reps.thw t r)
  | _, _, .rol h r => .rol (by
      rcases h with ⟨o, h⟩ | h
      · exact .inl ⟨o, t _ _ h fun _ _ z => by cases z⟩
      · exact .inr h) (Reps.thw t r)
theorem Reps.thw {K : PySem.W.Frag} {H H' : Hp} (t : Thw H H') : ∀ {ds : List D} {vs : List V}, Reps K H ds vs → Reps K H' ds vs
  | _, _, .nil => .nil
  | _, _, .cons h r => .cons (Rep.thw t h) (Reps.thw t r)
end
section
variable {K : PySem.W.Frag} {H H' : Hp}
theorem LamAt.thw (t : Thw H H') {f : Addr} {nm : Str} {L : LamSyn} {cl : List (Str × Addr)} (h : LamAt H f nm L cl) : LamAt H' f nm L cl :=
  let ⟨pm, ctv, c', e1, e2⟩ := h; ⟨pm, ctv, c', t _ _ e1 (fun _ _ z => by cases z), t _ _ e2 (fun _ _ z => by unfold CodeO at z; cases z)⟩
theorem CelAt.thw (t : Thw H H') {c : Addr} {d : D} (h : CelAt K H c d) : CelAt K H' c d :=
  let ⟨o, u, v, e1, e2, e3, e4⟩ := h; ⟨o, u, v, t _ _ e1 (fun _ _ z => by cases z), e2, e3, e4.thw t⟩
theorem CelsAt.thw (t : Thw H H') {ds : List (Str × D)} {cl : List (Str × Addr)} (h : CelsAt K H ds cl) : CelsAt K H' ds cl := Paired.mapP h fun _ _ q => ⟨q.1, q.2.thw t⟩
theorem RepF.thw (t : Thw H H') {fs : List (Str × D)} {fv : List (Str × V)} (h : RepF K H fs fv) : RepF K H' fs fv := Paired.mapP h fun _ _ q => ⟨q.1, q.2.thw t⟩
theorem KeyRep.thw (t : Thw H H') {k : NestedKey} {a : Addr} (h : KeyRep K H k a) : KeyRep K H' k a := let ⟨d, r, e, z⟩ := h; ⟨d, r.thw t, e, z⟩
theorem RepK.thw (t : Thw H H') {fs : List (Key × D)} {fv : List (Key × V)} (h : RepK K H fs fv) : RepK K H' fs fv := Paired.mapP h fun _ _ q => ⟨q.1, q.2.thw t⟩
theorem RepN.thw (t : Thw H H') {fs : List (NestedKey × D)} {fv : List (NestedKey × Addr × Value)} (h : RepN K H fs fv) : RepN K H' fs fv :=
  Paired.mapP h fun _ _ ⟨e, k, v, r, rv⟩ => ⟨e, k.thw t, v, r.thw t, rv⟩
theorem RawN.thw (t : Thw H H') {a : Addr} {kvs : List (NestedKey × D)} {es : Array DictEntry} {ep : Nat} {xs : List (NestedKey × Addr × Value)} (h : RawN K H a kvs es ep xs) : RawN K H' a kvs es ep xs :=
  ⟨h.ent, h.nd, h.sz, h.sys, h.rel.thw t⟩
theorem RepO.thw {a : Addr} {o : MO} (t : Thw H H') (h : ∀ u, H a = some u → H' a = some u) (r : RepO K H a o) : RepO K H' a o := by
  cases o with
  | lst ds => obtain ⟨vs, e, q⟩ := r; exact ⟨vs, h _ e, q.thw t⟩
  | ins C fs => obtain ⟨dx, fv, e, q⟩ := r; exact ⟨dx, fv, h _ e, q.thw t⟩
  | exc cls => exact h _ r
  | xd fs => obtain ⟨fv, e, q⟩ := r; exact ⟨fv, h _ e, q.thw t⟩
  | dK kvs => obtain ⟨kv, e, q⟩ := r; exact ⟨kv, h _ e, q.thw t⟩
  | dN kvs => obtain ⟨es, ep, xs, e, q⟩ := r; exact ⟨es, ep, xs, h _ e, q.thw t⟩
  | dR kvs es ep ds => obtain ⟨e, xs, q, r⟩ := r; exact ⟨h _ e, xs, q.thw t, r.thw t⟩
  | tbl q =>
    obtain ⟨ps, h1, h2, h3⟩ := r
    exact ⟨ps, h _ h1, h2, fun pos cv hc => let ⟨c, e1, e2⟩ := h3 pos cv hc; ⟨c, e1, t c _ e2 (fun _ _ z => by unfold CodeO at z; cases z)⟩⟩
  | dF kvs => obtain ⟨od, kv, e, q⟩ := r; exact ⟨od, kv, h _ e, q.thw t⟩
  | lam nm L fr CL => exact ⟨LamAt.thw t r.1, r.2⟩
  | clo nm L ds => obtain ⟨cl, e, i, f, q⟩ := r; exact ⟨cl, e.thw t, i, f, q.thw t⟩
  | own C f d =>
    obtain ⟨oe, od, dx, y, e1, e2, e3⟩ := r
    exact ⟨oe, od, dx, y, t _ _ e1 (fun _ _ z => by unfold L2.exo at z; cases z), t _ _ e2 (fun _ _ z => by unfold L2.exd at z; cases z), e3.thw t⟩
theorem RelO2.thw (t : Thw H H') : ∀ {d : Option D} {v : Option V}, RelO2 K H d v → RelO2 K H' d v
  | some _, some _, h => Rep.thw t h
  | none, _, _ => trivial
  | some _, none, h => h
theorem RepEnv.thw (t : Thw H H') {ρ : DEnv} {σ : St} (h : RepEnv K H ρ σ) : RepEnv K H' ρ σ := Paired.mapP h fun _ _ q => RelO2.thw t q
end
section
variable {X : Cx} {B : Bs}
end
end L2.Lh

/-! x == [], x != [] of a list of any things -/
namespace L2.Lh
open PySem PySem.Spec PyProof.Rows LamX PySem.SeqAt
section
variable {X : Cx} {B : Bs} {pos : Pos}
end
end L2.Lh

/-! f-strings; x != y, x an instance with its own __eq__ -/
namespace L2.Lh
open PySem PySem.Spec PyProof.Rows LamX
/-! ### f-strings -/
section
variable {X : Cx} {B : Bs}
inductive DJ (B : Bs) (X : Cx) : List Expr → List DTE → Prop where
  | nil : DJ B X [] []
  | cons {e : Expr} {t : DTE} {es : List Expr} {ts : List DTE} (h : DE B X e t) (r : DJ B X es ts) : DJ B X (e :: es) (t :: ts)
end
/-! ### x != y, by the class's own __eq__ -/
section
variable {prog : Program} {w : World} {A : Around} {E : Value → Shared → Prop} {s : Shared} {K : PySem.W.Frag} {x C L f : Addr} {h₀ : Heap} {m : Str → Option Value} {ox : Obj} {od : Option Obj} {b tb : Value}
end
section
variable {prog : Program} {w : World} {A : Around} {E : Value → Shared → Prop} {s : Shared} {K : PySem.W.Frag} {x C L f : Addr} {h₀ : Heap} {m : Str → Option Value} {ox : Obj} {od : Option Obj} {b tb : Value}
end
/-- a class whose != is that of object -/
structure NeC (K : PySem.W.Frag) (C : Addr) : Prop where
  s : PySem.W.findIn K (.ref C) "__ne__" = some (some (.builtin "object.__ne__"))
  m : PySem.W.mroIn K C (.type "object") = some true
section
variable {X : Cx} {k : Nat} {C : Addr} {ps : List Str} {sp : DSp}
end
end L2.Lh

/-! {} != a text -/
namespace L2.Lh
open PySem PySem.Spec PyProof.Rows LamX PySem.W PySem.Calls PySem.SeqAt PySem.MeetsSeq
section
variable {A : Around} {s : Shared}
end
section
variable {X : Cx}
end
end L2.Lh

/-! the head of a law by one run: its facts by names -/
namespace L2.Lh
open PySem PySem.Spec PyProof.Rows LamX L2
/-- a class: of the module's names, of the language -/
inductive Tv where
  | cl (x : Str)
  | ty (n : String)
def Tv.v (K : PySem.W.Frag) : Tv → Value
  | .cl x => .ref (He.ga K x)
  | .ty n => .type n
/-- one fact of the head -/
inductive Hf where
  | glo (x : Str)
  | free (x : Str)
  | int (x : Str) (i : Int)
  | str (x z : Str)
  | cls (x : Str)
  | noat (x f : Str)
  | mk (x : Str)
  | meth (x m : Str)
  | oex (x : Str)
  | xf (x : Str)
  | ne (x : Str)
  | exc (x : Str)
  | insA (x : Str)
  | insB (x : Str)
  | kit (a b : Tv) (r : Bool)
  | exm (a b : Tv) (r : Bool)
def Hf.P (K : PySem.W.Frag) : Hf → Prop
  | .glo x => PySem.W.nsIn K mainGlobals x = some (some (.ref (He.ga K x)))
  | .free x => PySem.W.nsIn K mainGlobals x = some none
  | .int x i => ∃ t, PySem.W.nsIn K mainGlobals x = some (some (.int i t))
  | .str x z => ∃ t, PySem.W.nsIn K mainGlobals x = some (some (.str z t))
  | .cls x => Cls K (He.ga K x)
  | .noat x f => PySem.W.findIn K (.ref (He.ga K x)) f = some none
  | .mk x => PySem.W.makesIn K (He.ga K x) = true ∧ PySem.W.keepIn K (.ref (He.ga K x)) = true
  | .meth x m => PySem.W.findIn K (.ref (He.ga K x)) m = some (some (.ref (He.ma K (He.ga K x) m))) ∧ PySem.W.isFn K (.ref (He.ma K (He.ga K x) m)) = true ∧ PySem.W.keepIn K (.ref (He.ma K (He.ga K x) m)) = true
  | .oex x => OexC K (He.ga K x)
  | .xf x => XfC K (He.ga K x)
  | .ne x => NeC K (He.ga K x)
  | .exc x => PySem.W.excIn K (He.ga K x) He.veBase "ValueError.__new__" = true ∧ PySem.W.keepIn K (.ref (He.ga K x)) = true ∧ PySem.W.subIn K (.ref (He.ga K x)) (.type "BaseException") = some true ∧ PySem.W.typeIn K (.ref (He.ga K x)) = some (.type "type")
  | .insA x => PySem.W.findIn K (.ref (He.ga K x)) "__getattribute__" = some (some (.builtin "BaseException.__getattribute__")) ∧ PySem.W.findIn K (.ref (He.ga K x)) "__getattr__" = some none ∧ PySem.W.subIn K (.ref (He.ga K x)) (.type "BaseException") = some true ∧ PySem.W.hasDictIn K (He.ga K x) = true
  | .insB x => PySem.W.findIn K (.ref (He.ga K x)) "__class__" = some (some (.builtin "object.__class__")) ∧ PySem.W.specialIn K (.builtin "object.__class__") "__get__" = some (some (.builtin "getset_descriptor.__get__")) ∧ PySem.W.takesIn K (.builtin "object.__class__") = some true ∧ PySem.W.mroIn K (He.ga K x) (.type "object") = some true
  | .kit a b r => PySem.W.kitOne K (a.v K) (b.v K) = some r
  | .exm a b r => PySem.W.exmOne K (a.v K) (b.v K) = some r
def oexB (K : PySem.W.Frag) (C : Addr) : Bool := match K.lookup C with
  | some ⟨.type ct, _, .cls ⟨_, _, mro, _, _, hd, _, _, _, _, del⟩, sl⟩ => decide (ct = "type") && (match mro with
    | .ref C' :: bm => decide (C' = C) && PySem.HandSPX.refsVE bm
    | _ => false) && hd && !del && (match sl.toList with
    | [_, _, _, _, some (.builtin n), _] => decide (n = "ValueError.__new__")
    | _ => false)
  | _ => false
theorem oexB_ok {K : PySem.W.Frag} {C : Addr} (h : oexB K C = true) : ∃ nm q N bs bm sn sub ab col dd k0 k1 k2 k3 k5, K.lookup C = some (excClassObj nm q C N bs bm true sn sub ab col dd k0 k1 k2 k3 k5 "ValueError.__new__") ∧ PySem.HandSPX.refsVE bm = true := by
  unfold oexB at h
  split at h
  · rename_i ct od nm bs mro ns q hd sn sub ab col del sl e
    simp only [Bool.and_eq_true] at h
    obtain ⟨⟨⟨⟨h1, h2⟩, h3⟩, h4⟩, h5⟩ := h
    split at h2
    · rename_i C' bm
      simp only [Bool.and_eq_true] at h2
      split at h5
      · rename_i k0 k1 k2 k3 n k5 e5
        cases of_decide_eq_true h1
        cases of_decide_eq_true h2.1
        cases of_decide_eq_true h5
        cases hd with
        | false => cases h3
        | true =>
          cases del with
          | true => cases h4
          | false =>
            have es : sl = #[k0, k1, k2, k3, some (.builtin "ValueError.__new__"), k5] := by rw [← Array.toList_inj]; exact e5
            exact ⟨_, _, _, _, bm, _, _, _, _, _, k0, k1, k2, k3, k5, by rw [e, es], h2.2⟩
      · cases h5
    · cases h2
  · cases h
def Hf.ok (K : PySem.W.Frag) : Hf → Bool
  | .glo x => He.eqO (PySem.W.nsIn K mainGlobals x) (some (some (.ref (He.ga K x))))
  | .free x => He.eqO (PySem.W.nsIn K mainGlobals x) (some none)
  | .int x i => (match PySem.W.nsIn K mainGlobals x with
    | some (some (.int j _)) => decide (j = i)
    | _ => false)
  | .str x z => (match PySem.W.nsIn K mainGlobals x with
    | some (some (.str y _)) => decide (y = z)
    | _ => false)
  | .cls x => PySem.W.plainGet K (He.ga K x) Str.empty && (PySem.W.hasDictIn K (He.ga K x) && (PySem.W.plainOver K (He.ga K x) && He.eqO (PySem.W.findIn K (.ref (He.ga K x)) "__setattr__") (some (some (.builtin "object.__setattr__")))))
  | .noat x f => He.eqO (PySem.W.findIn K (.ref (He.ga K x)) f) (some none)
  | .mk x => PySem.W.makesIn K (He.ga K x) && PySem.W.keepIn K (.ref (He.ga K x))
  | .meth x m => He.eqO (PySem.W.findIn K (.ref (He.ga K x)) m) (some (some (.ref (He.ma K (He.ga K x) m)))) && (PySem.W.isFn K (.ref (He.ma K (He.ga K x) m)) && PySem.W.keepIn K (.ref (He.ma K (He.ga K x) m)))
  | .oex x => oexB K (He.ga K x) && (He.eqO (PySem.W.findIn K (.ref (He.ga K x)) "__setattr__") (some (some (.builtin "object.__setattr__"))) && (decide (PySem.W.subIn K (.ref (He.ga K x)) (.type "BaseException") = some true) && (decide (PySem.W.typeIn K (.ref (He.ga K x)) = some (.type "type")) && PySem.W.keepIn K (.ref (He.ga K x)))))
  | .xf x => He.eqO (PySem.W.findIn K (.ref (He.ga K x)) "__getattribute__") (some (some (.builtin "BaseException.__getattribute__"))) && (He.eqO (PySem.W.findIn K (.ref (He.ga K x)) "__getattr__") (some none) && (decide (PySem.W.subIn K (.ref (He.ga K x)) (.type "BaseException") = some true) && PySem.W.hasDictIn K (He.ga K x)))
  | .ne x => He.eqO (PySem.W.findIn K (.ref (He.ga K x)) "__ne__") (some (some (.builtin "object.__ne__"))) && decide (PySem.W.mroIn K (He.ga K x) (.type "object") = some true)
  | .exc x => PySem.W.excIn K (He.ga K x) He.veBase "ValueError.__new__" && (PySem.W.keepIn K (.ref (He.ga K x)) && (decide (PySem.W.subIn K (.ref (He.ga K x)) (.type "BaseException") = some true) && decide (PySem.W.typeIn K (.ref (He.ga K x)) = some (.type "type"))))
  | .insA x => He.eqO (PySem.W.findIn K (.ref (He.ga K x)) "__getattribute__") (some (some (.builtin "BaseException.__getattribute__"))) && (He.eqO (PySem.W.findIn K (.ref (He.ga K x)) "__getattr__") (some none) && (decide (PySem.W.subIn K (.ref (He.ga K x)) (.type "BaseException") = some true) && PySem.W.hasDictIn K (He.ga K x)))
  | .insB x => He.eqO (PySem.W.findIn K (.ref (He.ga K x)) "__class__") (some (some (.builtin "object.__class__"))) && (He.eqO (PySem.W.specialIn K (.builtin "object.__class__") "__get__") (some (some (.builtin "getset_descriptor.__get__"))) && (decide (PySem.W.takesIn K (.builtin "object.__class__") = some true) && decide (PySem.W.mroIn K (He.ga K x) (.type "object") = some true)))
  | .kit a b r => decide (PySem.W.kitOne K (a.v K) (b.v K) = some r)
  | .exm a b r => decide (PySem.W.exmOne K (a.v K) (b.v K) = some r)
theorem Hf.get {K : PySem.W.Frag} {f : Hf} (h : f.ok K = true) : f.P K := by
  cases f with
  | glo x => exact He.eqO_ok h
  | free x => exact He.eqO_ok h
  | int x i =>
    have h' : (match PySem.W.nsIn K mainGlobals x with
      | some (some (.int j _)) => decide (j = i)
      | _ => false) = true := h
    split at h'
    · rename_i j t e
      cases of_decide_eq_true h'
      exact ⟨t, e⟩
    · cases h'
  | str x z =>
    have h' : (match PySem.W.nsIn K mainGlobals x with
      | some (some (.str y _)) => decide (y = z)
      | _ => false) = true := h
    split at h'
    · rename_i j t e
      cases of_decide_eq_true h'
      exact ⟨t, e⟩
    · cases h'
  | cls x => exact He.cls_ok (x := x) h
  | noat x f => exact He.eqO_ok h
  | mk x => exact He.ba h
  | meth x m =>
    obtain ⟨h1, h2⟩ := He.ba h
    obtain ⟨h3, h4⟩ := He.ba h2
    exact ⟨He.eqO_ok h1, h3, h4⟩
  | oex x =>
    obtain ⟨h1, h⟩ := He.ba h
    obtain ⟨h2, h⟩ := He.ba h
    obtain ⟨h3, h⟩ := He.ba h
    obtain ⟨h4, h5⟩ := He.ba h
    obtain ⟨nm, q, N, bs, bm, sn, sub, ab, col, dd, k0, k1, k2, k3, k5, e, r⟩ := oexB_ok h1
    exact ⟨⟨_, _, _, _, _, _, _, _, _, _, _, _, _, _, _, e, r⟩, He.eqO_ok h2, of_decide_eq_true h3, of_decide_eq_true h4, h5⟩
  | xf x =>
    obtain ⟨h1, h⟩ := He.ba h
    obtain ⟨h2, h⟩ := He.ba h
    obtain ⟨h3, h4⟩ := He.ba h
    exact ⟨He.eqO_ok h1, He.eqO_ok h2, of_decide_eq_true h3, h4⟩
  | ne x =>
    obtain ⟨h1, h2⟩ := He.ba h
    exact ⟨He.eqO_ok h1, of_decide_eq_true h2⟩
  | exc x =>
    obtain ⟨h1, h⟩ := He.ba h
    obtain ⟨h2, h⟩ := He.ba h
    obtain ⟨h3, h4⟩ := He.ba h
    exact ⟨h1, h2, of_decide_eq_true h3, of_decide_eq_true h4⟩
  | insA x =>
    obtain ⟨h1, h⟩ := He.ba h
    obtain ⟨h2, h⟩ := He.ba h
    obtain ⟨h3, h4⟩ := He.ba h
    exact ⟨He.eqO_ok h1, He.eqO_ok h2, of_decide_eq_true h3, h4⟩
  | insB x =>
    obtain ⟨h1, h⟩ := He.ba h
    obtain ⟨h2, h⟩ := He.ba h
    obtain ⟨h3, h4⟩ := He.ba h
    exact ⟨He.eqO_ok h1, He.eqO_ok h2, of_decide_eq_true h3, of_decide_eq_true h4⟩
  | kit a b r => exact of_decide_eq_true (p := PySem.W.kitOne K (a.v K) (b.v K) = some r) h
  | exm a b r => exact of_decide_eq_true (p := PySem.W.exmOne K (a.v K) (b.v K) = some r) h
/-! ### the Hook -/
abbrev AlP : Type := Bool × List He.FnW
def obsP (fs : List Hf) (fn : List He.DefD) (K : PySem.W.Frag) : AlP := ((fs.all fun f => f.ok K) && fn.all fun d => d.ok K, fn.map fun d => He.fnW K d.at_)
def valP (fn : List He.DefD) : AlP := (true, fn.map He.DefD.val)
def SaysP (fs : List Hf) (fn : List He.DefD) (K : PySem.W.Frag) : Prop := obsP fs fn K = valP fn
section
variable {fs : List Hf} {fn : List He.DefD} {K : PySem.W.Frag}
theorem SaysP.fact (c : SaysP fs fn K) (i : Nat) {f : Hf} (h : fs[i]? = some f := by rfl) : f.P K := by
  have c1 := (He.ba (show ((fs.all fun f => f.ok K) && fn.all fun d => d.ok K) = true from congrArg (fun z : AlP => z.1) c)).1
  exact Hf.get (List.all_eq_true.mp c1 f (List.mem_of_getElem? h))
end
/-! ### the end -/
end L2.Lh

/-! a text, or else -/
namespace L2.Lh
open PySem PySem.Spec PyProof.Rows LamX L2
section
variable {X : Cx} {B : Bs} {a b : Expr} {ta tb : DTE} {pos : Pos} {rest : List Expr}
end
end L2.Lh

/-! isinstance(e, (C, D, ..)): e an error that is kept, or nothing -/
namespace L2.Lh
open PySem PySem.Spec PyProof.Rows LamX
section
variable {X : Cx} {B : Bs}
end
end L2.Lh

/-! [told(work) for work in works]: the lambdas are of the frame that runs -/
namespace L2.Lh
open PySem PySem.Spec PyProof.Rows LamX
section
variable {X : Cx}
theorem lcL {pins : List (Addr × Obj)} {s : Shared} {σ : L2.St} {H : Hp} {Q : VK} {elt tg iter : Expr} {ifs : List Expr} {scope : Scope} {own : List (Str × Nat)} {pos pos' : Pos} {wi : TI} {g : TG} {tt : TT} {te : TE} {use : Option (Value → Sem Unit)} {Qf : Value → Shared → Prop}
    (hc : X.calm = true) (hN : X.N.Nodup) (I : Inv X pins σ H s) (hi : PI X tg iter wi) (ok : BlkOk X.N X.env.scope scope own)
    (hg : ∀ (s : Shared) (H : Hp) (C : Addr) (cl : List (Str × Addr)) (fp : List Addr), PG (X.blk s H scope (compEnvC scope cl C X.env) fp) tg g) (ht : ∀ (s : Shared) (H : Hp) (C : Addr) (cl : List (Str × Addr)) (fp : List Addr), PTs (X.blk s H scope (compEnvC scope cl C X.env) fp) ifs tt)
    (he : ∀ (s : Shared) (H : Hp) (C : Addr) (cl : List (Str × Addr)) (fp : List Addr) (pins : List (Addr × Obj)) (σ : L2.St), Inv X pins σ H s → (∀ b ∈ fp, FpOk X pins H b) → PE (X.blk s H scope (compEnvC scope cl C X.env) fp) elt (fun σ8 G Q => L2.wipe σ8 (own.map (·.2)) = L2.wipe σ (own.map (·.2)) ∧ te σ8 G Q)) (hs : ∀ x, foldedSetIterable iter X.env x = pure x)
    (h : tLc wi g tt te (own.map (·.2)) σ H Q)
    (hRR : ∀ D C s' m H', Inv X pins σ H' s' → Q (.ref D) H' → s'.heap.Ns C m → FpOk X pins H' C → compPost (model X.prog X.w) X.A X.xe use Qf (.ref D) C (.ok .next) s') :
    wpAny (model X.prog X.w) X.A (comprehension (.ListComp elt [⟨tg, iter, ifs, 0⟩] scope pos) scope X.env pos' (newList []) false (eval iter X.env) use) Qf X.xe s := by
  have hfree : ∀ y ∈ scope.names, y.2 = .free → ∃ c, X.env.cells.lookup y.1 = some c := fun y hy e => by
    rcases ok.free y hy e with k | k
    · exact I.ok.has _ (.inl k)
    · exact I.ok.has _ (.inr k)
  refine wpAny_comprehension_free (use := use) rfl hs (closure_ok hfree) ok.kind (fun y hy e => by rw [ok.uniq y hy, e])
    (thn (hi.run pins s σ H _ I h) fun xv s1 hx => thn hx fun itv s2 h2 => ?_)
  obtain ⟨it, fp, tn, J, H2, e, I2, T, st2, f2, q⟩ := h2
  subst e
  refine wpAny_newObj_type (newEnv_comp ?_) (by show 0 ≤ sizeLine; decide)
  generalize hD : s2.heap.objs.size = D
  have hDn : H2 D = none := I2.hok.fresh (Nat.le_of_eq hD)
  obtain ⟨W, ⟨m0, w0⟩, turn⟩ := q D hDn
  -- the new list
  generalize hs3 : ({ s2 with heap := s2.heap.push { cls := .type "list", data := .seq ([] : List Value).toArray } } : Shared) = s3
  have I3 : Inv X pins σ (upd H2 D (.lst [])) s3 := by
    rw [← hs3]
    refine I2.laid (t' := s2.toks) (fun b o e => Heap.get?_push_of_some _ e) (Nat.le_of_eq hD) ⟨Nat.zero_le _, [], 0, .nil, ?_⟩
    rw [← hD]
    exact Heap.get?_push_size _ rfl
  have h3 : s3.heap = s2.heap.push { cls := .type "list", data := .seq ([] : List Value).toArray } := by rw [← hs3]
  have sz : ∀ b ∈ fp, b < s2.heap.objs.size := fun b hb => by
    obtain ⟨o, e, _⟩ := T.obj _ _ st2 b hb
    exact Heap.lt_size e
  have f3 : ∀ b ∈ fp, FpOk X pins (upd H2 D (.lst [])) b ∧ b < s3.heap.objs.size := fun b hb => by
    have hlt := sz b hb
    refine ⟨⟨?_, (f2 b hb).2⟩, by rw [h3, Heap.size_push]; exact Nat.lt_succ_of_lt hlt⟩
    rw [upd_ne (by rw [← hD]; exact Nat.ne_of_lt hlt)]
    exact (f2 b hb).1
  have st3 : tn 0 s3.heap := T.keep _ _ _ st2 fun b _ o e => by rw [h3]; exact Heap.get?_push_of_some _ e
  have I4 := block_start I3 ok hN f3
  have pg := hg s3 (upd H2 D (.lst [])) s3.heap.objs.size (cellsFrom (s3.heap.objs.size + 1) scope.names (cloFrom X.env.cells scope.names [])) fp
  have pt := ht s3 (upd H2 D (.lst [])) s3.heap.objs.size (cellsFrom (s3.heap.objs.size + 1) scope.names (cloFrom X.env.cells scope.names [])) fp
  have pe := he s3 (upd H2 D (.lst [])) s3.heap.objs.size (cellsFrom (s3.heap.objs.size + 1) scope.names (cloFrom X.env.cells scope.names [])) fp pins σ I3 fun b hb => (f3 b hb).1
  show codeAny _ _ (.compStart (.ListComp elt [⟨tg, iter, ifs, 0⟩] scope pos) 0 (.ref it) (.ref D) (compEnvC scope (cellsFrom (s3.heap.objs.size + 1) scope.names (cloFrom X.env.cells scope.names [])) s3.heap.objs.size X.env)) (compPost (model X.prog X.w) X.A X.xe use Qf (.ref D) s3.heap.objs.size) { s3 with heap := pushCells (s3.heap.push { cls := .type "dict", data := .dict #[] }) scope.names }
  have nfp : ∀ b ∈ fp, (upd H2 D (.lst [])) b = none := fun b hb => (f3 b hb).1.1
  generalize hce : compEnvC scope (cellsFrom (s3.heap.objs.size + 1) scope.names (cloFrom X.env.cells scope.names [])) s3.heap.objs.size X.env = ce at I4 pg pt pe ⊢
  have cL : ce.locals = s3.heap.objs.size := by subst hce; rfl
  generalize hH3 : upd H2 D (.lst []) = H3 at I3 I4 pg pt pe w0 nfp f3
  generalize hs4 : ({ s3 with heap := pushCells (s3.heap.push { cls := .type "dict", data := .dict #[] }) scope.names } : Shared) = s4 at I4 ⊢
  have st4 : tn 0 s4.heap := T.keep _ _ _ st3 fun b _ o e => by rw [← hs4]; exact pushCells_keeps _ _ _ _ (Heap.get?_push_of_some _ e)
  have stat : ∀ {σ' : St} {H' : Hp} {s' : Shared}, Inv (X.blk s3 H3 scope ce fp) [] σ' H' s' → (∀ b ∈ fp, H' b = none) → ∀ b ∈ fp, FpOk (X.blk s3 H3 scope ce fp) [] H' b := fun {σ' H' s'} I' hn b hb =>
    ⟨hn b hb, (I'.ok.exf b hb).1, I'.ok.exfs b hb, .inl hb, fun x c e => (I'.ok.exf b hb).2 x c e, fun p hp => absurd (show p ∈ ([] : List (Addr × Obj)) ++ [] from hp) (by simp)⟩
  have loop : codeAny (model X.prog X.w) X.A (.compLoop (.ListComp elt [⟨tg, iter, ifs, 0⟩] scope pos) 0 (.ref it) (.ref D) ce) (compPost (model X.prog X.w) X.A X.xe use Qf (.ref D) s3.heap.objs.size) s4 := by
    refine compLoop_any (fun n s' => ∃ i H', Inv (X.blk s3 H3 scope ce fp) [] (L2.wipe σ (own.map (·.2))) H' s' ∧ tn i s'.heap ∧ (∀ b ∈ fp, H' b = none) ∧ W i n H') ?_ m0 ⟨0, H3, I4, st4, nfp, w0⟩
    rintro n s5 ⟨i, H5, I5, st5, n5, w5⟩
    rcases turn i n H5 w5 with ⟨stop, qq⟩ | ⟨go, Nx, hNx, step⟩
    · have td := T.done (X.blk s3 H3 scope ce fp) rfl rfl rfl hc i [] s5 _ H5 (fun _ _ => False) I5 (stat I5 n5) st5 stop
      refine thnF td fun r s6 ⟨hr, I6⟩ => ?_
      subst hr
      -- back in the def's context
      have I7 : Inv X pins σ H5 s6 := I3.call' (ch := fp) I6.os I6.base I6.hok I6.bare fun b hb => ⟨(f3 b hb).1.2.2.2.1, (f3 b hb).1.2.1, (f3 b hb).1.2.2.2.2.1, (f3 b hb).1.2.2.2.2.2⟩
      have nC : H5 s3.heap.objs.size = none := by
        have z : H5 ce.locals = none := I6.free
        rw [cL] at z
        exact z
      obtain ⟨m, hn, _⟩ := I6.loc
      have hn : s6.heap.Ns ce.locals m := hn
      rw [cL] at hn
      exact hRR D s3.heap.objs.size s6 m H5 I7 qq hn (I3.fpOk (Nat.le_refl _) nC)
    · have ti := T.item (X.blk s3 H3 scope ce fp) rfl rfl rfl hc i [] s5 _ H5 (fun _ _ => False) I5 (stat I5 n5) st5 go
      refine thnF ti fun r s6 ⟨u, hr, h6⟩ => ?_
      subst hr
      refine thnF h6 fun _ s7 ⟨x, H7, I7, r7, y7, st7, n7⟩ => ?_
      have I7' := I7.pinned (stat I7 n7) (T.obj _ _ st7)
      refine thnF (pg.run _ s7 _ H7 x u _ I7' r7 (step x H7 y7)) fun _ s8 ⟨σ8, H8, I8, hw8, q8⟩ => ?_
      refine thnF (pt.run _ s8 σ8 H8 _ I8 q8) fun b s9 ⟨H9, I9, q9⟩ => ?_
      -- the turn's end
      have fin : ∀ {s' : Shared} {H' : Hp}, Inv (X.blk s3 H3 scope ce fp) ([] ++ pinsAt fp s7.heap) σ8 H' s' → Nx H' → ∃ m, m < n ∧ ∃ i H', Inv (X.blk s3 H3 scope ce fp) [] (L2.wipe σ (own.map (·.2))) H' s' ∧ tn i s'.heap ∧ (∀ b ∈ fp, H' b = none) ∧ W i m H' := fun {s' H'} I' nx => by
        obtain ⟨m', hm, w'⟩ := hNx H' nx
        have pin' : ∀ b ∈ fp, ∀ o, s7.heap.get? b = some o → s'.heap.get? b = some o ∧ H' b = none := fun b hb o e =>
          let z := I'.pin (b, o) (List.mem_append_right _ (List.mem_append_right _ (mem_pinsAt hb e)))
          ⟨z.1, z.2.1⟩
        have hl : (L2.wipe σ (own.map (·.2))).length = σ8.length := by rw [← hw8, wipe_length]
        refine ⟨m', hm, i + 1, H', (I'.unpinned (pins := [])).weak hl (fun j v e => ?_), T.keep _ _ _ st7 fun b hb o e => (pin' b hb o e).1, fun b hb => ?_, w'⟩
        · rw [← hw8] at e
          exact (wipe_some e).1
        · obtain ⟨o, e, _⟩ := T.obj _ _ st7 b hb
          exact (pin' b hb o e).2
      cases b with
      | false =>
        simp only [Bool.false_eq_true, if_false] at q9 ⊢
        exact fin I9 q9
      | true =>
        simp only [if_true] at q9 ⊢
        refine thnF (pe.run _ s9 σ8 H9 _ I9 ⟨hw8, q9⟩) fun z s10 ⟨yv, H10, I10, r10, acc, hD10, hz10, nx⟩ => ?_
        exact app_ok (X := X.blk s3 H3 scope ce fp) I10 hD10 hz10 r10 fun s11 I11 => fin I11 nx
  exact codeAny_compStart_list loop (T.self X.A 0 _ _ _ st4 loop)
theorem psL_setLc {i : Nat} {y : Str} {py : Pos} {elt tg iter : Expr} {ifs : List Expr} {scope : Scope} {own : List (Str × Nat)} {pos spos : Pos} {wi : TI} {g : TG} {tt : TT} {te : TE} (hc : X.calm = true) (hN : X.N.Nodup) (hy : X.N[i]? = some y) (hyl : X.env.scope.names.lookup y = some .local)
    (hsw : swapsWith (.ListComp elt [⟨tg, iter, ifs, 0⟩] scope pos) (some (.Name y py)) spos.line X.env = pure true) (hi : PI X tg iter wi) (ok : BlkOk X.N X.env.scope scope own)
    (hg : ∀ (s : Shared) (H : Hp) (C : Addr) (cl : List (Str × Addr)) (fp : List Addr), PG (X.blk s H scope (compEnvC scope cl C X.env) fp) tg g) (ht : ∀ (s : Shared) (H : Hp) (C : Addr) (cl : List (Str × Addr)) (fp : List Addr), PTs (X.blk s H scope (compEnvC scope cl C X.env) fp) ifs tt)
    (he : ∀ (s : Shared) (H : Hp) (C : Addr) (cl : List (Str × Addr)) (fp : List Addr) (pins : List (Addr × Obj)) (σ : L2.St), Inv X pins σ H s → (∀ b ∈ fp, FpOk X pins H b) → PE (X.blk s H scope (compEnvC scope cl C X.env) fp) elt (fun σ8 G Q => L2.wipe σ8 (own.map (·.2)) = L2.wipe σ (own.map (·.2)) ∧ te σ8 G Q)) (hs : ∀ x, foldedSetIterable iter X.env x = pure x := by intro _; rfl) :
    PS X (.Assign [.Name y py] (.ListComp elt [⟨tg, iter, ifs, 0⟩] scope pos) spos) (tAsg (tLc wi g tt te (own.map (·.2))) (gName i)) := by
  refine ⟨fun pins s σ H D I h => ?_⟩
  rw [exec_Assign_Name_used _ _ _ _ hsw]
  refine wpAny_bind (wpAny_standAt (wpAny_bind ?_))
  show wpAny _ X.A (do let _ ← comprehension (.ListComp elt [⟨tg, iter, ifs, 0⟩] scope pos) scope X.env (firstIterPos [⟨tg, iter, ifs, 0⟩] pos) (newList []) false (eval iter X.env) (some (assign (.Name y py) X.env))) _ _ s
  have h : tLc wi g tt te (own.map (·.2)) σ H (fun x H1 => gName i x σ H1 D.nx) := h
  refine wpAny_bind (thn (lcL (Qf := fun _ s' => SP X pins D .next s') hc hN I hi ok hg ht he hs h fun L C s' m H' I' q hn f => ?_) fun _ s' hq => wpAny_pure (wpAny_pure hq))
  show wpAny _ _ (assign (.Name y py) X.env (.ref L)) _ _ _
  refine wpAny_assign_Name (store_ok2 (v := V.ref L) I' hN hy (.inl hyl) rfl (fun s2 I2 ⟨a, sb, ha⟩ => ?_) (.inr hyl))
  obtain ⟨f0, f1, f2, f3, f4, f5⟩ := f
  have haC : C ≠ a := by
    rcases ha with z | z
    · rw [z]; exact f1
    · exact fun e => f4 y a z e.symm
  refine ⟨m, hn.sameBut sb haC, fun h3 sb3 => ?_⟩
  exact ⟨_, H', I2.turned (t' := s2.toks) (fun b o hb e => (sb3.2 b hb).trans e) f0 f1 f3 f4 f5, q⟩

end
abbrev DEb (B : Bs) (X : Cx) (vs : List Nat) (σ0 : L2.St) (e : Expr) (t : DTE) : Prop := PE X e (fun σ8 G Q => L2.wipe σ8 vs = L2.wipe σ0 vs ∧ upE X.K B t σ8 G Q)
theorem DEb.of {B : Bs} {X : Cx} {vs : List Nat} {σ0 : L2.St} {e : Expr} {t : DTE} (h : DE B X e t) : DEb B X vs σ0 e t := pe_imp h fun _ _ _ z => z.2
theorem RepEnv.setN {K : PySem.W.Frag} {H : Hp} : ∀ {ρ : DEnv} {σ : L2.St} (i : Nat), RepEnv K H ρ (σ.set i none) → RepEnv K H (ρ.set i none) σ
  | [], [], _, _ => .nil
  | [], _ :: _, 0, h => by cases h
  | [], _ :: _, i + 1, h => by cases h
  | _ :: _, [], _, h => by cases h
  | a :: ρ, b :: σ, 0, .cons _ r => .cons trivial r
  | a :: ρ, b :: σ, i + 1, .cons q r => .cons q (RepEnv.setN i r)
theorem wipeD_set (ρ : DEnv) (v : Nat) : ∀ vs : List Nat, wipeD (ρ.set v none) vs = (wipeD ρ vs).set v none
  | [] => rfl
  | w :: vs => by
    unfold wipeD
    rw [wipeD_set ρ v vs]
    by_cases h : v = w
    · subst h; rfl
    · exact List.set_comm _ _ h
theorem wipeD_idem (ρ : DEnv) : ∀ vs : List Nat, wipeD (wipeD ρ vs) vs = wipeD ρ vs
  | [] => rfl
  | w :: vs => by
    show (wipeD ((wipeD ρ vs).set w none) vs).set w none = (wipeD ρ vs).set w none
    rw [wipeD_set, wipeD_idem ρ vs, List.set_set]
theorem RepEnv.unwipe {K : PySem.W.Frag} {H : Hp} : ∀ (vs : List Nat) {a : DEnv} {σ : L2.St}, RepEnv K H a (L2.wipe σ vs) → RepEnv K H (wipeD a vs) σ
  | [], _, _, h => h
  | v :: vs, a, σ, h => by
    have h1 : RepEnv K H (a.set v none) (L2.wipe σ vs) := RepEnv.setN v h
    have h2 := RepEnv.unwipe vs h1
    rw [wipeD_set] at h2
    exact h2
theorem RepEnv.wiped {K : PySem.W.Frag} {H : Hp} {ρ : DEnv} {σ8 σ : L2.St} {vs : List Nat} (h : RepEnv K H ρ σ8) (hw : L2.wipe σ8 vs = L2.wipe σ vs) : RepEnv K H (wipeD ρ vs) σ := by
  have h1 := h.wipe vs
  rw [hw] at h1
  have h2 := RepEnv.unwipe vs h1
  rw [wipeD_idem] at h2
  exact h2
section
variable {X : Cx} {B : Bs}
theorem ds_setLcL {i : Nat} {y : Str} {py : Pos} {elt tg iter : Expr} {ifs : List Expr} {scope : Scope} {pos spos : Pos} {wi : DTI} {g : DTG} {tt : DTT} {te : DTE} (own : List (Str × Nat)) (hc : X.calm = true) (hN : X.N.Nodup) (hy : X.N[i]? = some y) (hyl : X.env.scope.names.lookup y = some .local)
    (hsw : swapsWith (.ListComp elt [⟨tg, iter, ifs, 0⟩] scope pos) (some (.Name y py)) spos.line X.env = pure true) (hi : DI B X tg iter wi) (ok : BlkOk X.N X.env.scope scope own)
    (hg : ∀ (s : Shared) (H : Hp) (C : Addr) (cl : List (Str × Addr)) (fp : List Addr), DG B (X.blk s H scope (compEnvC scope cl C X.env) fp) (own.map (·.2)) tg g) (ht : ∀ (s : Shared) (H : Hp) (C : Addr) (cl : List (Str × Addr)) (fp : List Addr), DTs B (X.blk s H scope (compEnvC scope cl C X.env) fp) ifs tt)
    (he : ∀ (s : Shared) (H : Hp) (C : Addr) (cl : List (Str × Addr)) (fp : List Addr) (pins : List (Addr × Obj)) (σ : L2.St), Inv X pins σ H s → (∀ b ∈ fp, FpOk X pins H b) → DEb B (X.blk s H scope (compEnvC scope cl C X.env) fp) (own.map (·.2)) σ elt te) (hs : ∀ x, foldedSetIterable iter X.env x = pure x := by intro _; rfl) :
    DS B X (.Assign [.Name y py] (.ListComp elt [⟨tg, iter, ifs, 0⟩] scope pos) spos) (dAsg (fun ρ m q => dComp wi g tt te (own.map (·.2)) ρ m fun ds m' => ∀ a, m' a = none → q (.ref a) (m'.set a (.lst ds))) (gNm i)) :=
  ps_imp (psL_setLc hc hN hy hyl hsw hi ok hg ht he hs) fun F σ H ⟨ρ, m, E, p, h, o⟩ => lc_lift σ H _ ⟨ρ, m, _, p, h, fun ds m' a vs H' hq ha hr hn h0 hs st => by
    have sim' : Sim X.K H' (m'.set a (.lst ds)) := fun b ob e => by
      by_cases z : b = a
      · subst z; rw [Mem.set_same] at e; cases e; exact ⟨vs, ha, hr⟩
      · rw [Mem.set_ne z] at e; exact hs b ob e
    have st' : Step H m H' (m'.set a (.lst ds)) := ⟨st.ext, st.dom, st.keep, fun b ob n e => by rw [Mem.set_ne (fun z => by rw [z, h0] at e; cases e)]; exact st.new b ob n e⟩
    exact o.nx _ _ _ H' (hq a hn) ((p.env.mono st.ext).set (.ref a) i) sim' st'⟩

end
/-- told(work) in a comprehension's block: vs are the block's own slots -/
def dTellLB (sp : DSpL) (nm : Str) (alts : List LAlt) (CL : List (Str × Addr)) (vs : List Nat) (te : DTE) : DTE := fun ρ m q => te ρ m fun d m1 => ∃ f a fr, d = .ref f ∧ a ∈ alts ∧ m1 f = some (.lam nm a.L fr CL) ∧ sp (fun m' k ke => a.tb (fun cls _ m2 => ke cls m2) (wipeD ρ vs) m' k) m1 q
theorem de_tellLB {X : Cx} {s3 : Shared} {H3 : Hp} {blkS : Scope} {C : Addr} {cl : List (Str × Addr)} {fp : List Addr} {pins3 : List (Addr × Obj)} {σ3 : L2.St} {vs : List Nat} (I3 : Inv X pins3 σ3 H3 s3) (f3 : ∀ b ∈ fp, FpOk X pins3 H3 b) {B : Bs} {x a : Str} {g : Addr} {k : Nat} {pg : Arguments} {bg : List Stmt} {sg : Scope} {dV kV doc pm cdv ct oc : Value} {an od : Option Addr} {osl : Array (Option Value)} {Ng : List Str} {sp : DSpL}
    {alts : List LAlt} {e : Expr} {te : DTE} {p pos : Pos} (hg : Gl (X.blk s3 H3 blkS (compEnvC blkS cl C X.env) fp) x) (hm : X.mg x = some (.ref g)) (hk : PySem.W.keepIn X.K (.ref g) = true)
    (lk : X.K.lookup g = some ⟨oc, od, .func (PySem.W.fnOf x x pg bg sg dV kV doc pm an cdv ct), osl⟩) (hcg : PySem.W.codeIn X.K cdv x = true) (hb : L2.Binds X.K (PySem.W.fnOf x x pg bg sg dV kV doc pm an cdv ct) [a] []) (Sg : FnScope Ng [a] sg) (hNg : Ng[0]? = some a) (hva : Vis sg a)
    (hG : GivesD X (k + 1) Ng x sg g cdv bg a sp) (hr : Room (k + 2) X.A) (gd : X.A.guards = some []) (he : DE B (X.blk s3 H3 blkS (compEnvC blkS cl C X.env) fp) e te) (hal : ∀ a ∈ alts, LAltOk X k a) (hstar : starEach [e] (X.blk s3 H3 blkS (compEnvC blkS cl C X.env) fp).env = [(false, eval e (X.blk s3 H3 blkS (compEnvC blkS cl C X.env) fp).env)] := by rfl)
    (hdb : (x == ("__debug__" : Str)) = false := by decide) (hd : (a == ("__debug__" : Str)) = false := by decide) (hcd : (a == ("__classdict__" : Str)) = false := by decide) :
    DEb B (X.blk s3 H3 blkS (compEnvC blkS cl C X.env) fp) vs σ3 (.Call (.Name x p) [e] [] pos) (dTellLB sp (lamN X) alts X.env.cells vs te) := by
  refine ⟨fun pins s σ H Q I ⟨hw, ρ, m, q, pre, hte, post⟩ => ?_⟩
  refine wpAny_Call_Name_kw (ld_glob I hg hm ?_ hdb)
  refine PySem.W.callWith_K (h₀ := X.base) I.ok.mod.kin hk ?_ (by rw [hstar]; rfl) (by rfl)
  rw [hstar]
  show wpAny _ _ (spliced ((false, eval e (X.blk s3 H3 blkS (compEnvC blkS cl C X.env) fp).env) :: backTo pos (starEach [] (X.blk s3 H3 blkS (compEnvC blkS cl C X.env) fp).env))) _ _ s
  refine Calls.spliced_cons (wpAny_mono (he.run pins s σ H (fun v H1 => ∃ d m1, Rep X.K H1 d v ∧ Sim X.K H1 m1 ∧ Step H m H1 m1 ∧ ∃ f a fr, d = .ref f ∧ a ∈ alts ∧ m1 f = some (.lam (lamN X) a.L fr X.env.cells) ∧ sp (fun m' k ke => a.tb (fun cls _ m2 => ke cls m2) (wipeD ρ vs) m' k) m1 q) I
    ⟨ρ, m, _, pre, hte, fun d m1 v H1 h r s1 st => ⟨d, m1, r, s1, st, h⟩⟩) (fun v0 s' got => ?_) fun _ _ z => z)
  obtain ⟨v, H1, I1, rv, d, m1, rep, sim1, st1, f, al, fr, rfl, hal1, hmf, hsp⟩ := got
  have IX : Inv X pins3 σ3 H1 s' := I3.call' (ch := fp) I1.os I1.base I1.hok I1.bare fun b hb => ⟨(f3 b hb).2.2.2.1, (f3 b hb).2.1, (f3 b hb).2.2.2.2.1, (f3 b hb).2.2.2.2.2⟩
  cases rep
  cases rv
  obtain ⟨⟨params, body, scope⟩, tb⟩ := al
  obtain ⟨L, hbind, hbody⟩ := hal _ hal1
  dsimp only at L hbind hbody hmf hsp
  obtain ⟨⟨pm', ctv, c', hff, codeC⟩, _⟩ := sim1 f _ hmf
  refine Calls.spliced_nil ⟨I1.kIn, ?_⟩
  have runs : codeAny (model X.prog X.w) X.A (.call (.ref g) ⟨[.ref f], []⟩) (CR C8.CX0 X.stack X.prog X.w H1 s' Q C8.E0) s' := by
    refine run_ofS (N := Ng) (ps := [a]) (us := [.ref f]) (vs := [.ref f]) lk hcg Sg hr IX.env0 (hb s' [.ref f] IX.kIn rfl) (.cons rfl .nil) rfl fun hr' => ?_
    have act : ∀ (B' : Bs) (we : DWX) (pn : List (Addr × Obj)) (xe : Value → Shared → Prop) (p1 p2 : Pos), Step H1 m1 B'.H B'.m → Takes ((ZX X Ng x sg g cdv s' H1).tr pn xe) (upW X.K B' we) →
        DE B' ((ZX X Ng x sg g cdv s' H1).tr pn xe) (.Call (.Name a p1) [] [] p2) (dAct f (fun m' k ke => tb (fun cls _ m2 => ke cls m2) (wipeD ρ vs) m' k) we) := fun B' we pn xe p1 p2 stB tk => by
      refine ⟨fun pinsZ sZ σZ HZ QZ IZ ⟨ρZ, mZ, qZ, pZ, ⟨h0, hdl⟩, postZ⟩ => ?_⟩
      have far : Step H m HZ mZ := st1.trans (stB.trans pZ.st)
      obtain ⟨v0, e0, r0⟩ := pZ.env.get h0
      cases r0
      refine act4 (k := k) (i := 0) (E := WE (upW X.K B' we) σZ) (tb := fun σ' H' Q' => ∃ B2, upE X.K B2 (tb fun cls _ m2 => we cls ρZ m2) σ' H' Q' ∧ B2 = ⟨HZ, mZ⟩) IX L hff (hbind _ _ _ _ _) hr' (fun A outer s2 H2 room => ?_) hNg hva hd hcd IZ (passAt tk σZ) e0 ((stB.ext.trans pZ.st.ext).cod c' _ codeC) ⟨_, ⟨wipeD ρ vs, mZ, qZ, ⟨(pre.env.mono far.ext).wiped hw, pZ.sim, Step.refl _ _⟩, hdl, postZ⟩, rfl⟩
      refine ⟨fun pins2 s3 σ2 H3 Q2 I2 ⟨B2, h2, e2⟩ => ?_⟩
      subst e2
      refine (hbody A outer s2 H2 _ f c' ⟨HZ, mZ⟩ (fun cls m2 => we cls ρZ m2) room ((takes_of rfl rfl rfl rfl).imp fun cls d σ' H' ⟨c, e, ρ', m', p', w'⟩ => ?_)).run pins2 s3 σ2 H3 Q2 I2 h2
      exact ⟨c, e, ρZ, m', ⟨pZ.env.mono p'.st.ext, p'.sim, pZ.st.trans p'.st⟩, w'⟩
    obtain ⟨t, ht, hq⟩ := hG f s' H1 _ m1 q hr' gd act hsp
    refine ⟨upS X.K ⟨H1, m1⟩ t, PSs.nox ht, startD Ng [.ref f], m1, defEnds q, ⟨start_ok (.cons (.ref f) .nil), sim1, Step.refl _ _⟩, hq, ?_⟩
    have done : ∀ d m' v H', (∃ m2 : Mem, m2.le m' ∧ q d m2) → Rep X.K H' d v → Sim X.K H' m' → Step H1 m1 H' m' → Q v H' := fun d m' v H' ⟨m2, le, h2⟩ rd s2 st => post d m2 v H' h2 rd (s2.forget le) (st1.trans (st.forget le))
    exact ⟨fun ρ' m' σ' H' h2 _ s2 st => done .non m' .non H' h2 .non s2 st, fun d m' v H' h2 rd s2 st => done d m' v H' h2 rd s2 st, fun _ _ _ _ z => z.elim, fun _ _ _ _ z => z.elim⟩
  refine wpAny_call (codeAny_mono runs fun r s2 got => ?_)
  match r, got with
  | .error e, got => exact (show False from got).elim
  | .ok (.ret u), got => exact I1.after got
theorem de_tellBF {X : Cx} {s3 : Shared} {H3 : Hp} {blkS : Scope} {C : Addr} {cl : List (Str × Addr)} {fp : List Addr} {pins3 : List (Addr × Obj)} {σ3 : L2.St} {vs : List Nat} (I3 : Inv X pins3 σ3 H3 s3) (f3 : ∀ b ∈ fp, FpOk X pins3 H3 b) {B : Bs} {x a nm : Str} {g : Addr} {k : Nat} {st : Stmt} {fdg : FuncData} {Ng : List Str} {sp : DSpL} {alts : List LAlt} {e : Expr} {te : DTE} {p pos : Pos}
    (Fg : Fun X.K x x st g fdg) (hm : X.mg x = some (.ref g)) (Sg : FnScope Ng [a] (defScope st)) (hb : L2.Binds X.K fdg [a] []) (hG : ∀ cdv, GivesD X (k + 1) Ng x (defScope st) g cdv (defBody st) a sp)
    (hr : Room (k + 2) X.A) (gd : X.A.guards = some []) (he : DE B (X.blk s3 H3 blkS (compEnvC blkS cl C X.env) fp) e te) (hal : ∀ a ∈ alts, LAltOk X k a)
    (hg : Gl (X.blk s3 H3 blkS (compEnvC blkS cl C X.env) fp) x := by rfl) (hNg : Ng[0]? = some a := by rfl) (hva : Vis (defScope st) a := by first | exact .inl rfl | exact .inr (.inl rfl) | exact .inr (.inr rfl)) (hstar : starEach [e] (X.blk s3 H3 blkS (compEnvC blkS cl C X.env) fp).env = [(false, eval e (X.blk s3 H3 blkS (compEnvC blkS cl C X.env) fp).env)] := by rfl)
    (hnm : lamN X = nm := by rfl) (hdb : (x == ("__debug__" : Str)) = false := by decide) (hd : (a == ("__debug__" : Str)) = false := by decide) (hcd : (a == ("__classdict__" : Str)) = false := by decide) :
    DEb B (X.blk s3 H3 blkS (compEnvC blkS cl C X.env) fp) vs σ3 (.Call (.Name x p) [e] [] pos) (dTellLB sp nm alts X.env.cells vs te) := by
  subst hnm
  have kp := Fg.kp
  obtain ⟨oc, od, kV, doc, pm, an, cdv, ct, osl, rfl, lk, hcg⟩ := Fg.ex
  exact de_tellLB I3 f3 hg hm kp lk hcg hb Sg hNg hva (hG cdv) hr gd he hal hstar hdb hd hcd
end L2.Lh

/-! raise, in a def that runs while an exception is handled or not -/
namespace L2.Lh
open PySem PySem.Spec PyProof.Rows LamX HotX L2H
end L2.Lh

/-! o.m(k=..): a method of the text called by keywords -/
namespace L2.Lh
open PySem PySem.Spec PyProof.Rows LamX
noncomputable section
def dMethK (C : Addr) (mn : Str) (sp : DSp) (we : DWX) (n : Nat) (ix : List Nat) (to : DTE) (t : DTA) : DTE := fun ρ m q => to ρ m fun x m1 => ∃ a fs, x = .ref a ∧ m1 a = some (.ins C fs) ∧ fs.lookup mn = none ∧
  t ρ m1 fun ds m2 => ds.length = n ∧ sp (.ref a :: ix.map fun i => ds.getD i .non) m2 q fun cls m3 => we cls ρ m3
section
variable {X : Cx} {B : Bs} {o : Expr} {kws : List Keyword} {to : DTE} {t : DTA} {sp : DSp} {we : DWX} {mn : Str} {apos pos : Pos} {C : Addr} {k : Nat} {ps ks : List Str} {ix : List Nat}
theorem de_methK {pl : Sem Bool} (d : MethAt X.prog X.w X.K X.mg X.base k C mn ps sp) (hb : MkB X.K d.fd ps ks ix) (hix : ∀ i ∈ ix, i < ks.length) (c : Cls X.K C) (hr : Room k X.A) (tk : Takes X (upW X.K B we)) (he : DE B X o to) (hkw : DK B X kws t)
    (hall : (backToKw pos (keywordEach kws X.env)).all (·.1.isSome) = true := by rfl) (hks : (backToKw pos (keywordEach kws X.env)).filterMap (·.1) = ks := by rfl)
    (hpl : ((backTo pos (starEach [] X.env)).any (·.1) || (backToKw pos (keywordEach kws X.env)).any (·.1.isNone)) = false := by rfl)
    (ht : eval (.Call (.Attribute o mn apos) [] kws pos) X.env = (do
      let ov ← eval o X.env
      standAt apos.atName
      let (f, first) ← holding [ov] (getMethod ov mn pl)
      callWith pos f first (backTo pos (starEach [] X.env)) (backToKw pos (keywordEach kws X.env))) := by rfl) :
    DE B X (.Call (.Attribute o mn apos) [] kws pos) (dMethK C mn sp we ks.length ix to t) := by
  refine ⟨fun pins s σ H Q I ⟨ρ, m, q, p, h, post⟩ => ?_⟩
  refine PySem.W.methodCall_KW (pl := pl) (thn (he.run pins s σ H (fun v H1 => ∃ a m1 dx fv fs, v = .ref a ∧ H1 a = some (.ins C dx fv) ∧ fv.lookup mn = none ∧ m1 a = some (.ins C fs) ∧ Sim X.K H1 m1 ∧ Step H m H1 m1 ∧ t ρ m1 fun ds m2 => ds.length = ks.length ∧ sp (.ref a :: ix.map fun i => ds.getD i .non) m2 q fun cls m3 => we cls ρ m3) I ⟨ρ, m, _, p, h, fun x m1 v H1 ⟨a, fs, ex, ea, el, h1⟩ r1 s1 t1 => by
    subst ex
    cases r1
    obtain ⟨dx, fv, e1, rf⟩ := s1 a _ ea
    exact ⟨a, m1, dx, fv, fs, rfl, e1, rf.lookN el, ea, s1, t1, h1⟩⟩) fun v s1 ⟨vx, H1, I1, rv, a, m1, dx, fv, fs, ev, e1, ln, ea, sm1, t1, h1⟩ => ?_) ht
  subst ev
  cases (show v = Value.ref a from rv)
  refine getmeth_ok I1 e1 c d.me ln ?_
  refine PySem.W.callWith_KW0 (first := [.ref a]) (h₀ := X.base) I.ok.mod.kin d.me.kp hall ?_ hpl
  refine thn (hkw.run pos pins s1 σ H1 (fun vs H2 => vs.length = ks.length ∧ upSp X.K sp (.ref a :: ix.map fun i => vs.getD i .non) H2 Q (WE (upW X.K B we) σ)) I1 ⟨ρ, m1, _, p.next sm1 t1, h1, fun ds m2 vs H2 h2 r2 s2 t2 => ?_⟩) fun ws s2 ⟨zs, H2, I2, rz, hl, q2⟩ => ⟨I2.kIn, ?_⟩
  · obtain ⟨hl, h2⟩ := h2
    exact ⟨by rw [← r2.length]; exact hl, _, m2, q, _, .cons (.ref a) (reps_perm r2 (by rw [hl]; exact hix)), s2, h2, fun d3 m3 v3 H3 h3 r3 s3 t3 => post d3 m3 v3 H3 h3 r3 s3 (t1.trans (t2.trans t3)), fun cls m3 H3 hq s3 t3 => ⟨cls, ⟨rfl, rfl⟩, ρ, m3, p.next s3 (t1.trans (t2.trans t3)), hq⟩⟩
  · rw [hks]
    exact runs_D d.ok hr _ pins σ H2 s2 Q ⟨[.ref a], ks.zip ws⟩ (.ref a :: ix.map fun i => ws.getD i .none) (.ref a :: ix.map fun i => zs.getD i .non) I2 (passAt tk σ) (hb s2 (.ref a) ws (by rw [← rz.length]; exact hl)) (.cons rfl (vals_perm rz (by rw [hl]; exact hix))) q2
end
end
end L2.Lh

/-! C(e) of an own error class, made as a value and kept -/
namespace L2
open PySem PySem.Spec PyProof.Rows LamX
section
variable {X : Cx} {e : Expr} {es : List Expr} {ta : TA} {p pos : Pos}
def tNewE (C : Addr) (sp : Sp) (ta : TA) : TE := fun σ H Q => ta σ H fun vs H1 => vs.length ≤ 1000 ∧ ∀ a, H1 a = none → sp (.ref a :: vs) (upd H1 a (exo a C none))
  (fun v H2 => v = .non ∧ ∃ dx fs, a ≠ dx ∧ H2 a = some (exo a C (some dx)) ∧ H2 dx = some (exd dx fs) ∧ ∀ oe od, Q (.ref a) (upd (upd H2 a (.frz oe (exo a C (some dx)))) dx (.frz od (exd dx fs)))) (fun _ _ _ => False)
theorem pe_newE {CX : CXT} {x : Str} {C fI : Addr} {k : Nat} {fd : FuncData} {ps : List Str} {sp : Sp} (T : OexC X.K C) (iC : PySem.W.findIn X.K (.ref C) "__init__" = some (some (.ref fI))) (tI : PySem.W.typeIn X.K (.ref fI) = some (.type "function"))
    (F1 : FnOk X.prog X.w X.K X.mg X.base CX k fI fd ps sp) (hr : Room (k + 1) X.A) (hb : Binds X.K fd ps []) (hx : Passes CX X (fun _ _ _ => False)) (hg : Gl X x) (hm : X.mg x = some (.ref C)) (ha : PA X (e :: es) ta)
    (hdb : (x == ("__debug__" : Str)) = false := by decide) (he : starEach (e :: es) X.env = (false, eval e X.env) :: starEach es X.env := by rfl) (hpl : (backTo pos (starEach es X.env)).any (·.1) = false := by rfl) :
    PE X (.Call (.Name x p) (e :: es) [] pos) (tNewE C sp ta) := by
  refine ⟨fun pins s σ H Q I h => ?_⟩
  obtain ⟨nm, q, N, bs, bm, sn, sub, ab, col, dd, k0, k1, k2, k3, k5, hC, hbm⟩ := T.cls
  refine wpAny_Call_Name_kw (ld_glob I hg hm ?_ hdb)
  refine PySem.W.callWith_K (h₀ := X.base) I.ok.mod.kin T.kC (thn (ha.run pos pins s σ H _ I h) fun us s1 ⟨vs, H1, I1, r1, hz, q1⟩ => ⟨I1.kIn, ?_⟩) he hpl
  show wpAny _ _ (call (.ref C) us) _ _ _
  obtain ⟨hp, g, dr, tk, os⟩ := s1
  have hsz : hp.objs.size ≤ hp.objs.size + 1 := Nat.le_succ _
  have hn : H1 (hp.objs.size + 1) = none := I1.hok.fresh hsz
  have hq := q1 (hp.objs.size + 1) hn
  have kk : ∀ b o, hp.get? b = some o → ((hp.push (PySem.W.kdv_tup us)).push (PySem.HandSPX.excO C hp.objs.size)).get? b = some o := fun b o e => Heap.get?_push_of_some _ (Heap.get?_push_of_some _ e)
  have hget : ((hp.push (PySem.W.kdv_tup us)).push (PySem.HandSPX.excO C hp.objs.size)).get? (hp.objs.size + 1) = some (PySem.HandSPX.excO C hp.objs.size) := by heap_get
  have I2 : Inv X pins σ (upd H1 (hp.objs.size + 1) (exo (hp.objs.size + 1) C none)) ⟨(hp.push (PySem.W.kdv_tup us)).push (PySem.HandSPX.excO C hp.objs.size), g, dr, tk, os⟩ :=
    I1.laid (t' := tk) (a := hp.objs.size + 1) (o := exo (hp.objs.size + 1) C none) (h' := (hp.push (PySem.W.kdv_tup us)).push (PySem.HandSPX.excO C hp.objs.size)) kk hsz (exo_ok hget)
  have r2 : Vals (V.ref (hp.objs.size + 1) :: vs) (Value.ref (hp.objs.size + 1) :: us) := .cons rfl r1
  have hl : (Value.ref (hp.objs.size + 1) :: us ++ []).length = ps.length := by
    have e := r2.length
    rw [F1.len _ _ _ _ hq] at e
    rw [List.append_nil]
    exact e.symm
  have hus : us.length ≤ sizeLine := by
    rw [← Paired.length r1, sizeLine_eq]
    omega
  have hb2 := hb _ (Value.ref (hp.objs.size + 1) :: us) I2.kIn hl
  rw [List.append_nil] at hb2
  refine wpAny_call (PySem.HandSPX.call_own F.excBase_ValueError (fun Y => PySem.HandSPX.refsVE_contains Y bm hbm) (I1.kIn _ _ hC) (PySem.W.looks_findIn I1.kIn iC) (fun self => PySem.W.bind_fn I1.kIn self tI) hus
    (codeAny_mono (F1.run _ X.stack _ _ ⟨Value.ref (hp.objs.size + 1) :: us, []⟩ (Value.ref (hp.objs.size + 1) :: us) _ _ (fun _ _ _ => False) (hr.make C us []) (I2.env0.make C us []) hb2 r2 hq) fun r s' hq' => ?_))
  cases r with
  | error er => exact hx pins σ _ _ er s' I2 hq'
  | ok fl =>
    cases fl with
    | ret u =>
      obtain ⟨v, H2, J, rv, ev, dx, fs, hne, ea, ed, hQ⟩ := I2.after hq'
      subst ev
      obtain ⟨oe, J1⟩ := J.lock ea (by unfold exo; trivial)
      obtain ⟨od, J2⟩ := J1.lock (d := dx) (by rw [upd_ne hne.symm]; exact ed) (by unfold exd; trivial)
      exact ⟨rv, .ref (hp.objs.size + 1), _, J2, rfl, hQ oe od⟩
    | next => exact False.elim hq'
    | brk => exact False.elim hq'
    | cont => exact False.elim hq'
end
end L2
namespace L2.Lh
open PySem PySem.Spec PyProof.Rows LamX HotX L2H
noncomputable section
/-- C(e), kept -/
def dNewO (C : Addr) (f : Str) (t : DTA) : DTE := fun ρ m q => t ρ m fun ds m1 => ∃ d, ds = [d] ∧ ∀ a, m1 a = none → q (.ref a) (m1.set a (.own C f d))
section
variable {X : Cx} {B : Bs} {k : Nat} {C : Addr} {p f : Str} {x : Str} {e : Expr} {es : List Expr} {t : DTA} {p1 pos : Pos}
theorem newO_lift (σ : L2.St) (H : Hp) {Q : VK} (h : upE X.K B (dNewO C f t) σ H Q) : L2.tNewE C (spInit C f) (upA X.K B t) σ H Q := by
  obtain ⟨ρ, m, q, pr, h, post⟩ := h
  refine ⟨ρ, m, _, pr, h, fun ds m1 vs H1 h1 r1 s1 t1 => ?_⟩
  obtain ⟨d, rfl, hw⟩ := h1
  cases r1 with
  | @cons _ y _ _ ry rr =>
    cases rr
    refine ⟨by simp, fun a ha => ⟨a, y, rfl, upd_same, fun dx h1 h2 => ⟨rfl, dx, [(f, y)], h2.symm, upd_same, ?_, fun oe od => ?_⟩⟩⟩
    · rw [upd_ne h2, upd_same]
    · rw [upd_ne h2] at h1
      have eH : upd (upd (upd (upd (upd H1 a (exo a C none)) dx (exd dx [(f, y)])) a (exo a C (some dx))) a (.frz oe (exo a C (some dx)))) dx (.frz od (exd dx [(f, y)])) = upd (upd H1 dx (.frz od (exd dx [(f, y)]))) a (.frz oe (exo a C (some dx))) := by
        funext b
        by_cases e1 : b = dx
        · subst e1; rw [upd_same, upd_ne h2, upd_same]
        · rw [upd_ne e1]
          by_cases e2 : b = a
          · subst e2; rw [upd_same, upd_same]
          · rw [upd_ne e2, upd_ne e2, upd_ne e1, upd_ne e2, upd_ne e2, upd_ne e1]
      rw [eH]
      have ha2 : (upd H1 dx (.frz od (exd dx [(f, y)]))) a = none := by rw [upd_ne h2.symm]; exact ha
      have s2 := s1.alloc (o := .frz od (exd dx [(f, y)])) h1
      have r3 : RepO X.K (upd (upd H1 dx (.frz od (exd dx [(f, y)]))) a (.frz oe (exo a C (some dx)))) a (.own C f d) := ⟨oe, od, dx, y, upd_same, by rw [upd_ne h2, upd_same], ry.mono ((upd_new h1).trans (upd_new ha2))⟩
      exact post (.ref a) (m1.set a (.own C f d)) (.ref a) _ (hw a (s1.free ha)) (.ref a) (s2.allocM ha2 r3) (t1.trans ((Step.alloc h1).trans (Step.allocM ha2)))
theorem de_newO (d : InitAt X.prog X.w X.K X.mg X.base k C p f) (hr : Room (k + 1) X.A) (hg : Gl X x) (hm : X.mg x = some (.ref C)) (ha : DA B X (e :: es) t)
    (hdb : (x == ("__debug__" : Str)) = false := by decide) (he : starEach (e :: es) X.env = (false, eval e X.env) :: starEach es X.env := by rfl) (hpl : (backTo pos (starEach es X.env)).any (·.1) = false := by rfl) :
    DE B X (.Call (.Name x p1) (e :: es) [] pos) (dNewO C f t) :=
  pe_imp (L2.pe_newE d.ox d.fi d.ty d.cold hr d.b (fun pins σ H s e s' I c => by obtain ⟨_, _, _, _, _, _, _, _, _, _, _, _, z⟩ := c; exact z.elim) hg hm ha hdb he hpl) fun σ H Q h => newO_lift σ H h
end
end
end L2.Lh

/-! an own error that is kept: its field is read -/
namespace L2.Lh
open PySem PySem.Spec PyProof.Rows LamX HotX L2H
noncomputable section
theorem OwnErr.at_ {X : Cx} {pins : List (Addr × Obj)} {σ : L2.St} {H : Hp} {s : Shared} {a C : Addr} {f : Str} {d : D} (I : Inv X pins σ H s) (h : OwnErr X.K H a C f d) :
    ∃ (oe od : Obj) (dx : Addr) (y : V) (mA : Str → Option Value), s.heap.get? a = some oe ∧ oe.cls = .ref C ∧ oe.dict = some dx ∧ (∃ vs, oe.data = .fields vs) ∧ s.heap.get? dx = some od ∧ s.heap.Ns1 dx mA ∧ (∀ g, RelO (([(f, y)] : List (Str × V)).lookup g) (mA g)) ∧ Rep X.K H d y := by
  obtain ⟨oe, od, dx, y, e1, e2, ry⟩ := h
  obtain ⟨g1, x1⟩ := I.hok a _ e1
  obtain ⟨g2, x2⟩ := I.hok dx _ e2
  unfold L2.exo at x1
  unfold L2.exd at x2
  obtain ⟨⟨t1, h1⟩, _⟩ := x1
  obtain ⟨⟨mA, h2, h3⟩, _⟩ := x2
  rw [g1] at h1
  cases h1
  exact ⟨_, od, dx, y, mA, g1, rfl, rfl, ⟨_, rfl⟩, g2, h2, h3, ry⟩
/-- e.f of a kept own error -/
def dXfO (C : Addr) (f : Str) (te : DTE) : DTE := fun ρ m q => te ρ m fun x m1 => ∃ a d, x = .ref a ∧ m1 a = some (.own C f d) ∧ q d m1
theorem de_xfO {X : Cx} {B : Bs} {C : Addr} {e : Expr} {te : DTE} {pos : Pos} {n : Str} (T : L2.XfC X.K C) (hno : PySem.W.findIn X.K (.ref C) n = some none) (he : DE B X e te) (hb : attributeBase e n X.env (eval e X.env) = eval e X.env := by rfl) :
    DE B X (.Attribute e n pos) (dXfO C n te) := by
  refine ⟨fun pins s σ H Q I ⟨ρ, m, q, p, h, post⟩ => ?_⟩
  refine attr_of hb (thn (he.run pins s σ H (fun v H1 => ∃ a m1 d, v = .ref a ∧ Sim X.K H1 m1 ∧ Step H m H1 m1 ∧ m1 a = some (.own C n d) ∧ q d m1) I ⟨ρ, m, _, p, h, fun x m1 v H1 ⟨a, d, ex, ea, h1⟩ r1 s1 t1 => by
    subst ex
    cases r1
    exact ⟨a, m1, d, rfl, s1, t1, ea, h1⟩⟩) fun u s1 ⟨vx, H1, I1, rv, a, m1, d, ev, sm, t1, ea, hq⟩ => ?_)
  subst ev
  obtain rfl : u = Value.ref a := rv
  obtain ⟨oe, od, dx, y, mA, g1, c1, c2, ⟨vs, hd⟩, g2, hns, hr, ry⟩ := OwnErr.at_ I1 (sm a _ ea)
  obtain ⟨od', ho, hl⟩ := lookIn_ns hns
  obtain ⟨w, hu, ru⟩ := RelO.some_of (v := y) (o := mA n) (by
    have := hr n
    rw [show ([(n, y)] : List (Str × V)).lookup n = some y by simp [List.lookup]] at this
    exact this)
  have J : PySem.W.InstAt s1.heap a oe C (some od') := ⟨g1, c1, by unfold PySem.W.notCls; rw [hd] <;> rfl, by rw [c2]; exact ho⟩
  exact HandSPX.exc_get I1.kIn J T.ga T.gg T.exC (PySem.W.findObj_own T.hdC hno rfl (by rw [hl, hu])) (handed_of ru) ⟨y, H1, I1.tok _, ru, post d m1 y H1 hq ry sm t1⟩
end
end L2.Lh

/-! isinstance of an own error that is kept -/
namespace L2.Lh
open PySem PySem.Spec PyProof.Rows LamX HotX L2H
noncomputable section
def isiW (tb : CT) : DRC
  | [.ref a, c], m, q => match m a with
    | some (.own C _ _) => match clsA c with
      | some u => ∃ b, (.ref C, u, b) ∈ tb ∧ q (.bl b) m
      | none => False
    | _ => isiE tb [.ref a, c] m q
  | ds, m, q => isiE tb ds m q
section
variable {X : Cx}
theorem c_isiW {tb : CT} (ok : CtOk X.K tb) : CallD X (.builtin "isinstance") (isiW tb) := by
  intro pins s σ H xs us Q I r ⟨ds, m, q, rs, sim, h, post⟩
  unfold isiW at h
  split at h
  · rename_i a c
    split at h
    · rename_i C f d0 ea
      split at h
      · rename_i u hu
        obtain ⟨b, hm, h⟩ := h
        obtain ⟨v, w, rfl, rv, rw'⟩ := reps2 rs
        have k := ok.kit hm
        have kc := clsA_ok rw' hu
        cases rv
        obtain ⟨oe, od, dx, y, mA, g1, c1, c2, ⟨vs, hd⟩, g2, _, _, _⟩ := OwnErr.at_ I (sim a _ ea)
        cases r with
        | cons rx rr =>
          cases rr with
          | cons rt rr =>
            cases rr
            cases rx
            have ec := kc.eq rt
            subst ec
            obtain ⟨oc, odi, oda, osl⟩ := oe
            dsimp only at c1 c2 hd
            subst c1 c2 hd
            have E := ok.exc hm
            have J : PySem.W.InstAt s.heap a ⟨.ref C, some dx, .fields vs, osl⟩ C (some od) := ⟨g1, rfl, rfl, g2⟩
            exact PySem.W.kia_one (PySem.W.kitx_exc (by have z := E.hd; obtain ⟨cd, hc, _⟩ := PySem.W.any_some z; rw [hc]; rfl) E.hg E.hk E.hs E.ha E.hn E.ht E.hm) I.kIn J k (fun z => nomatch z) fun tk => ⟨.bl b, H, I.kept (t' := tk) fun _ _ z => z, rfl, post.here h (.bl b) sim⟩
      · exact h.elim
    · exact c_isiE ok pins s σ H xs us Q I r ⟨_, m, q, rs, sim, h, post⟩
  · exact c_isiE ok pins s σ H xs us Q I r ⟨_, m, q, rs, sim, h, post⟩
end
end
end L2.Lh

/-! parts of a tuple and sums of tuples, each a known object where it is new -/
namespace L2.Lh
open PySem PySem.Spec PyProof.Rows LamX
def slN (d : D) (lo hi : Option Int) (m : Mem) (q : DQ) : Prop := match d with
  | .ftup xs => ¬ (HT.sIx xs.length 0 lo = 0 ∧ HT.sIx xs.length xs.length hi = xs.length) ∧ q (.ftup (cutL xs lo hi)) m
  | _ => slD d lo hi m q
def dSlN (te : DTE) (tl th : DTO) : DTE := fun ρ m q => te ρ m fun x m1 => tl ρ m1 fun l m2 => th ρ m2 fun u m3 => slN x l u m3 q
theorem slN_f {xs : List D} {lo hi : Option Int} {m : Mem} {q : DQ} : slN (.ftup xs) lo hi m q = (¬ (HT.sIx xs.length 0 lo = 0 ∧ HT.sIx xs.length xs.length hi = xs.length) ∧ q (.ftup (cutL xs lo hi)) m) := rfl
def addF6 : DR2 := fun x y m q => ∃ xs ys, itemsTp x = some xs ∧ itemsTp y = some ys ∧ xs.length + ys.length ≤ sizeLine ∧ (xs = [] → q y m) ∧ (xs ≠ [] → ys = [] → q x m) ∧ (xs ≠ [] → ys ≠ [] → q (.ftup (xs ++ ys)) m)
section
variable {X : Cx} {B : Bs} {e : Expr} {te : DTE} {tl th : DTO} {lo hi : Option Expr} {pos p2 : Pos}
theorem d_slN : SlR X (fun x lo hi H Q => ∃ d m q, Rep X.K H d x ∧ Sim X.K H m ∧ slN d lo hi m q ∧ PostE X.K H m q Q) := by
  intro pins s σ H x v vl vu lo hi sl Q I rx hs pl pu ⟨d, m, q, r, sim, h, post⟩
  cases d with
  | ftup xs =>
    obtain ⟨hw, hp⟩ := h
    cases r with
    | ftup h1 hn q1 =>
      rename_i a ob vs
      have hx : SqT X.K H a vs := .inl (.inr ⟨_, h1⟩)
      cases rx
      obtain ⟨its, r, ht, hz⟩ := I.tuple hx
      have hlen : its.toArray.size = vs.length := by rw [List.size_toArray]; exact r.length.symm
      have hxs : xs.length = vs.length := q1.length
      refine ⟨"tuple", _, PyProof.Rows.slot_tuple_getitem.lookup, ht.typeIs, ?_⟩
      refine HT.getItem_tuple_cut ht hs pl pu (by rw [hlen, ← hxs]; exact hw) ?_ (by rw [hlen]; exact hz)
      rw [hlen]
      have nw : H s.heap.objs.size = none := I.hok.fresh (Nat.le_refl _)
      refine ⟨.ref s.heap.objs.size, _, I.laid (t' := s.toks) (o := .frz _ (.tup (cutV vs lo hi))) (fun b ob q => Heap.get?_push_of_some _ q) (Nat.le_refl _) ⟨Heap.get?_push_size _ rfl, Nat.le_trans (cutV_length vs lo hi) hz, _, (r.drop (HT.sIx vs.length 0 lo)).take (HT.sIx vs.length vs.length hi - HT.sIx vs.length 0 lo), IsTup.new _ _⟩, rfl, ?_⟩
      exact post (.ftup (cutL xs lo hi)) m _ _ hp (.ftup upd_same rfl ((q1.cut lo hi).mono (upd_new nw))) (sim.alloc nw) (Step.alloc nw)
  | _ => exact d_sl pins s σ H x v vl vu lo hi sl Q I rx hs pl pu ⟨_, m, q, r, sim, h, post⟩
theorem de_sliceN (he : DE B X e te) (hl : DO B X lo tl) (hu : DO B X hi th) : DE B X (.Subscript e (.Slice lo hi none p2) pos) (dSlN te tl th) :=
  pe_imp (pe_slice d_slN he hl hu) fun σ H Q ⟨ρ, m, q, p, h, post⟩ => ⟨ρ, m, _, p, h, fun d m1 v H1 h1 r1 s1 t1 => ⟨ρ, m1, _, p.next s1 t1, h1, fun l m2 H2 h2 s2 t2 =>
    ⟨ρ, m2, _, (p.next s1 t1).next s2 t2, h2, fun u m3 H3 h3 s3 t3 => ⟨d, m3, q, (r1.mono t2.ext).mono t3.ext, s3, h3, fun d4 m4 v4 H4 h4 r4 s4 t4 => post d4 m4 v4 H4 h4 r4 s4 (t1.trans (t2.trans (t3.trans t4)))⟩⟩⟩⟩
theorem d_addF6 : OpD X (binaryOp .Add) addF6 := by
  intro pins s σ H x y v u Q I rx ry ⟨dx, dy, m, q, r1, r2, sim, h, post⟩
  obtain ⟨xs, ys, ex, ey, hz, h0, h0', h1'⟩ := h
  obtain ⟨a, vs, rfl, h1, q1⟩ := itemsTp_sq r1 ex
  obtain ⟨b, ws, rfl, h2, q2⟩ := itemsTp_sq r2 ey
  cases rx
  cases ry
  obtain ⟨its, e1, p1, _⟩ := I.tuple h1
  obtain ⟨its2, e2, p2, _⟩ := I.tuple h2
  have l1 := e1.length
  have l2 := e2.length
  have l3 := q1.length
  have l4 := q2.length
  by_cases hx : xs = []
  · have n1 : its = [] := by
      subst hx; cases q1; cases e1; rfl
    subst n1
    exact L2.cat_tup0 p1 p2 ⟨.ref b, H, I, rfl, post.here (h0 hx) r2 sim⟩
  have n1 : its ≠ [] := fun z => by
    subst z; cases e1; cases q1; exact hx rfl
  by_cases hy : ys = []
  · have n2 : its2 = [] := by
      subst hy; cases q2; cases e2; rfl
    refine HT.cat_tup p1 p2 n1 (fun _ => ?_) (fun z => absurd n2 z) (by omega)
    exact ⟨.ref a, H, I, rfl, post.here (h0' hx hy) r1 sim⟩
  · have n2 : its2 ≠ [] := fun z => by
      subst z; cases e2; cases q2; exact hy rfl
    refine HT.cat_tup p1 p2 n1 (fun z => absurd z n2) (fun _ => ?_) (by omega)
    have nw : H s.heap.objs.size = none := I.hok.fresh (Nat.le_refl _)
    have I2 : Inv X pins σ (upd H s.heap.objs.size (.frz { cls := .type "tuple", data := .seq (its ++ its2).toArray } (.tup (vs ++ ws)))) { s with heap := s.heap.push { cls := .type "tuple", data := .seq (its ++ its2).toArray } } :=
      I.laid (t' := s.toks) (fun b o e => Heap.get?_push_of_some _ e) (Nat.le_refl _) (show ObjOk X.prog X.w _ _ _ (.frz _ (.tup (vs ++ ws))) from ⟨Heap.get?_push_size _ rfl, by rw [List.length_append]; omega, its ++ its2, e1.append e2, IsTup.new _ _⟩)
    exact ⟨.ref _, _, I2, rfl, post (.ftup (xs ++ ys)) m _ _ (h1' hx hy) (.ftup upd_same rfl ((q1.append q2).mono (upd_new nw))) (sim.alloc nw) (Step.alloc nw)⟩
end
end L2.Lh

namespace L2.Lh
open PySem PySem.Spec PyProof.Rows LamX
noncomputable section
local macro_rules | `(tactic| walk_at "rd") => `(tactic| try simp only [dSeq, dNext, dRet, dIfS, dAsg, gNm, dDrop, dVar, dC, dOp, dUn, dCB, dCN, dCL, dCNL, dCons, dNil, dTup, dLst, dNew, dAnd, dOr, dNot, dAndV, dOrV, dNotV, dIf, dTest, dTruth, dChain, dCall, dFor, dComp, dYes, iSeq, iNew, itOf, iRange1, iEnumL, gTp, gCn, gNl, dListRg, dTupRg, dRg1, dSl, dPart, dNoPart, slD, dEqNN, dBM, dAugIx, dSetIx, setD, wipeD, listD, sortD, tupleD, lenD, absD, max2D, min2D, isiD, tyS, isaB, truD, itemsOf, itemsL, reprD, minD, ixD, addD, ii0, iiD, subD, fdivD, modD, powD, ltD, leD, gtD, geD, dNil?, negD, mulD, eqD, neD, allN, anyN, List.getElem?_cons_zero, List.getElem?_cons_succ, List.set_cons_zero, List.set_cons_succ, if_true, if_false, Bool.false_eq_true, Bool.not_true, Bool.not_false, reduceIte, Option.map_some, beq_self_eq_true, List.length_cons, List.length_nil, Nat.zero_add, Nat.reduceAdd, true_and])

local macro_rules | `(tactic| walk_at "re") => `(tactic| try simp only [dSeq, dNext, dRet, dRetN, dIfS, dAsg, gNm, dDrop, dVar, dC, dOp, dUn, dCB, dCN, dCL, dCNL, dCons, dNil, dTup, dLst, dNew, dAnd, dOr, dNot, dAndV, dOrV, dNotV, dIf, dTest, dTruth, dChain, dCall, dCallK, dFor, dComp, dYes, iSeq, iNew, iRange1, iRange2, iEnumL, gTp_t, gCn_c, gNl_n, dListRg, dTupRg, dTupRgF, ftupleD_f, dRg1, dSl, dPart, dNoPart, dEqNN, dBM, dAugIx, dSetIx, dAug, wipeD, allN, anyN, dNil?, subD, fdivD, modD, powD, ltD, leD, gtD, geD,
  addD_ii, addD_ss, addD_tt, addD_rr, iiD_ii, ii0_ii, mulD_ii, mulD_ri, mulD_ti, negD_i, absD_i, max2D_ii, min2D_ii, eqD_ii, neD_ii, eqD_ss, neD_ss, reprD_i, reprD_t, reprD_r, reprD_o, itemsOf_t, itemsOf_o, itemsOf_f, lenD_f, tupleD_f, listD_f, itOf_f, isi_ftup_tuple, reprD_f, sortD_f, itemsL_o, lenD_t, lenD_o, lenD_s, tupleD_t, tupleD_o, listD_t, listD_o, minD_t, slD_t, slD_o, itOf_t, itOf_o, sortD_t, isi_int_int, isi_int_bool, isi_int_tuple, isi_tup_tuple, isi_tup_list, isi_tup_int, truD_b, truD_t, intsOf_map,
  List.getElem?_cons_zero, List.getElem?_cons_succ, List.set_cons_zero, List.set_cons_succ, List.map_cons, List.map_nil, List.getD_cons_zero, List.getD_cons_succ, if_true, if_false, Bool.false_eq_true, Bool.not_true, Bool.not_false, reduceIte, Option.map_some, beq_self_eq_true, List.length_cons, List.length_nil, List.length_map, Nat.zero_add, Nat.reduceAdd, true_and, Mem.set_same, decide_true, Int.toNat_natCast])

local macro_rules | `(tactic| walk_at "rf") => `(tactic| try simp only [dSeq, dNext, dRet, dRetN, dIfS, dAsg, gNm, dDrop, dVar, dC, dOp, dUn, dCB, dCN, dCL, dCNL, dCons, dNil, dTup, dLst, dNew, dAnd, dOr, dNot, dAndV, dOrV, dNotV, dIf, dTest, dTruth, dChain, dCall, dCallK, dFor, dComp, dYes, iSeq, iNew, iRange1, iRange2, iEnumL, iEnum, dSetG, dDisp1N, dDisp1K, dGet1, dGet2, dSetdef, lenG_t, ltG_ii, lenG_f, lenG_o, gTp_t, gCn_c, gNl_n, dListRg, dTupRg, dTupRgF, ftupleD_f, dRg1, dSl, dPart, dNoPart, dEqNN, dBM, dAugIx, dSetIx, dAug, wipeD, allN, anyN, dNil?, subD, fdivD, modD, powD, ltD, leD, gtD, geD,
  addD_ii, addD_ss, addD_tt, addD_rr, iiD_ii, ii0_ii, mulD_ii, mulD_ri, mulD_ti, negD_i, absD_i, max2D_ii, min2D_ii, eqD_ii, neD_ii, eqD_ss, neD_ss, reprD_i, reprD_t, reprD_r, reprD_o, itemsOf_t, itemsOf_o, itemsOf_f, lenD_f, tupleD_f, listD_f, itOf_f, isi_ftup_tuple, reprD_f, sortD_f, itemsL_o, lenD_t, lenD_o, lenD_s, tupleD_t, tupleD_o, listD_t, listD_o, minD_t, slD_t, slD_o, itOf_t, itOf_o, sortD_t, isi_int_int, isi_int_bool, isi_int_tuple, isi_tup_tuple, isi_tup_list, isi_tup_int, truD_b, truD_t, intsOf_map,
  List.getElem?_cons_zero, List.getElem?_cons_succ, List.set_cons_zero, List.set_cons_succ, List.map_cons, List.map_nil, List.getD_cons_zero, List.getD_cons_succ, if_true, if_false, Bool.false_eq_true, Bool.not_true, Bool.not_false, reduceIte, Option.map_some, beq_self_eq_true, List.length_map, Nat.reduceAdd, true_and, Mem.set_same, decide_true, Int.toNat_natCast])
local macro_rules | `(tactic| walk_at "mem") => `(tactic| grind [Mem.set, Mem.le])
local macro_rules | `(tactic| walk_at "sz") => `(tactic| first | exact sized (by decide) | exact sized' (by decide) | exact sized (by omega) | exact sized' (by omega) | (refine sized ?_; simp; done) | (refine sized' ?_; simp; done) | (refine sized ?_; simp; omega) | (refine sized' ?_; simp; omega))

/-! ### draws: any number -/
def sp_law_state : DSp := sp2 fun d k m q _ => ∃ (ns : List Int) (i : Nat), d = .rol (ns.map D.int) ∧ k = .int (i : Nat) ∧ ∀ (n : Int) (a : Addr), m a = none → q (.ref a) (m.set a (.lst [.int n]))
def sp_law_next : DSp := sp2 fun d k m q _ => ∃ (a : Addr) (n : Int) (i : Int), d = .ref a ∧ m a = some (.lst [.int n]) ∧ k = .int i ∧ 0 < i ∧ i < 1073741824 ∧ ∀ r n' : Int, 0 ≤ r → r < i → q (.int r) (m.set a (.lst [.int n']))
def sp_law_turn : DSp := sp2 fun d k m q _ => ∃ (a : Addr) (n : Int) (i : Nat), d = .ref a ∧ m a = some (.lst [.int n]) ∧ k = .int (i : Nat) ∧ i ≤ 4 ∧ ∀ (ns : List Int) (n' : Int), ns.Perm (rngI i) → q (.ftup (ns.map D.int)) (m.set a (.lst [.int n']))
/-! ### books -/
abbrev Prs := List (List Int × List Int)
def pairD (p : List Int × List Int) : D := .tup [.ftup (p.1.map D.int), .tup (p.2.map D.int)]
structure IsPair (many hands : Nat) (p : List Int × List Int) : Prop where
  turn : isTurnL p.1 = true
  len1 : p.1.length = many
  len2 : p.2.length = many
  on : ∀ s ∈ p.2, -(hands : Int) ≤ s ∧ s ≤ hands
structure IsBook (many : Nat) (P : Prs) : Prop where
  two : 2 ≤ many
  four : many ≤ 4
  most : P.length ≤ 6
  pair : ∀ p ∈ P, IsPair many P.length p
def bookF (many : Nat) (b : Addr) : List (Str × D) := [("many", .int (many : Nat)), ("pairs", .ref b)]
def BookAt (C : Addr) (m : Mem) (d : D) (many : Nat) (P : Prs) : Prop := ∃ a b, d = .ref a ∧ m a = some (.ins C (bookF many b)) ∧ m b = some (.lst (P.map pairD))
def IsStep (P : Prs) (s : Int) : Prop := s ≠ 0 ∧ -(P.length : Int) ≤ s ∧ s ≤ P.length
def pairOf (P : Prs) (s : Int) : List Int × List Int := P.getD (s.natAbs - 1) ([], [])
def undoneL (t : List Int) : List Int := (rngI t.length).map fun k => ((t.idxOf k : Nat) : Int)
def stepTurn (P : Prs) (s : Int) : List Int := if 0 < s then (pairOf P s).1 else undoneL (pairOf P s).1
def stepTurnD (P : Prs) (s : Int) : D := if 0 < s then .ftup ((pairOf P s).1.map D.int) else .tup ((undoneL (pairOf P s).1).map D.int)
def stepT (P : Prs) (s x : Int) : Int := (stepTurn P s).getD x.toNat 0
def stepO (P : Prs) (s x : Int) : Int := if 0 < s then (pairOf P s).2.getD x.toNat 0 else -((pairOf P s).2.getD ((pairOf P s).1.idxOf x) 0)
def isStepB (h : Nat) (s : Int) : Bool := (decide (-(h : Int) ≤ s) && decide (s ≤ h)) && !(s == 0)
def IsLet (many : Nat) (x : Int) : Prop := 0 ≤ x ∧ x < many
structure IsWord (P : Prs) (w : List Int) : Prop where
  len : w.length ≤ 100
  at_ : ∀ s ∈ w, IsStep P s
structure IsRow (many : Nat) (r : List Int) : Prop where
  len : r.length ≤ 100
  at_ : ∀ x ∈ r, IsLet many x
def sp_undone : DSp := sp1 fun d m q _ => ∃ t, d = .ftup (t.map D.int) ∧ isTurnL t = true ∧ q (.tup ((undoneL t).map D.int)) m
def sp_is_hand : DSp := sp3 fun d a b m q _ => ∃ many hands p, d = pairD p ∧ a = .int (many : Nat) ∧ b = .int (hands : Nat) ∧ IsPair many hands p ∧ q (.bl true) m
def HandsD (m : Mem) (d : D) (P : Prs) : Prop := (∃ h, d = .ref h ∧ m h = some (.lst (P.map pairD))) ∨ d = .tup (P.map pairD)
def sp_are_hands : DSp := sp2 fun d a m q _ => ∃ many P, HandsD m d P ∧ a = .int (many : Nat) ∧ IsBook many P ∧ q (.bl true) m
def sp_Book___init__ (C : Addr) : DSp := sp3 fun d e f m q _ => ∃ many P a, d = .ref a ∧ m a = some (.ins C []) ∧ e = .int (many : Nat) ∧ HandsD m f P ∧ IsBook many P ∧ ∀ b, m b = none → q .non ((m.set b (.lst (P.map pairD))).set a (.ins C (bookF many b)))

/-! ### the law's own books and words -/
def sp_law_pairs : DSp := sp1 fun d m q _ => ∃ (a : Addr) (n : Int), d = .ref a ∧ m a = some (.lst [.int n]) ∧ ∀ (many : Nat) (P : Prs) (n' : Int) (p : Addr), IsBook many P → m p = none → q (.tup [.int (many : Nat), .ref p]) ((m.set a (.lst [.int n'])).set p (.lst (P.map pairD)))
def sp_law_goes : DSp := sp3 fun d e f m q _ => ∃ (many : Nat) (P : Prs) (p : Addr) (s x : Int), d = .ref p ∧ m p = some (.lst (P.map pairD)) ∧ IsBook many P ∧ e = .int s ∧ IsStep P s ∧ f = .int x ∧ IsLet many x ∧ q (.tup [.int (stepT P s x), .int (stepO P s x)]) m
/-! ### any thing in the place of a word or a row -/
def stepD (h : Nat) (d : D) : Bool := match d with
  | .int s => isStepB h s
  | _ => false
def letD (many : Nat) (d : D) : Bool := betw d 0 ((many : Int) - 1)
def sp_Book_has_step (C : Addr) : DSp := sp2 fun d e m q _ => ∃ many P, BookAt C m d many P ∧ kn m e ∧ q (.bl (stepD P.length e)) m
def sp_Book_has_letter (C : Addr) : DSp := sp2 fun d e m q _ => ∃ many P, BookAt C m d many P ∧ kn m e ∧ q (.bl (letD many e)) m
/-! ### k06: turns, or what is nearly one -/
def OddD (m : Mem) (d : D) : Prop := (∃ b, d = .bl b) ∨ d = .non ∨ d = .str "1" ∨ d = .str "" ∨ d = .tup [.int 1] ∨ (∃ a, d = .ref a ∧ m a = some (.lst [.int 0])) ∨ (∃ a, d = .ref a ∧ m a = some (.dK [])) ∨ ∃ i : Int, d = .int i ∧ -1000 ≤ i ∧ i ≤ 2000000000000
structure KpS (m M : Mem) (a : Addr) : Prop where
  cell : ∃ n, M a = some (.lst [.int n])
  keep : ∀ b o, b ≠ a → m b = some o → M b = some o
def ThingT (m : Mem) (d : D) : Prop := (∃ xs, d = .ftup xs ∧ xs.length ≤ 6 ∧ ∀ x ∈ xs, OddD m x) ∨ d = .tup [.int 1] ∨ (kn m d ∧ isA d m "tuple" = some false)
/-- no part of it is the drawn cell -/
def NoA (a : Addr) (T : D) : Prop := T ≠ .ref a ∧ ∀ xs, T = .ftup xs → ∀ x ∈ xs, x ≠ .ref a
def kept07 : List Str := ["", "a", "ab", "abc", "abcx", "abcxy", "abcxyz"]
def afterL (s t : List Int) : List Int := s.map fun x => t.getD x.toNat 0
/-! rings -/
def lastI (l : List Int) : Int := l.getLastD 0
def nxt (ns : List Int) (l : Int) : Int := ns.getD l.toNat 0
def ringIn (ns : List Int) : Nat → List Int → List Int → Option (List Int × List Int)
  | 0, _, _ => none
  | k + 1, ring, left => if nxt ns (lastI ring) = ring.headD 0 then some (ring, left)
    else if nxt ns (lastI ring) ∈ left then ringIn ns k (ring ++ [nxt ns (lastI ring)]) (left.erase (nxt ns (lastI ring))) else none
def ringsGo (ns : List Int) : Nat → List Int → List (List Int) → Option (List (List Int))
  | 0, _, _ => none
  | _ + 1, [], R => some R
  | k + 1, x :: left, R => match ringIn ns 5 [x] left with
    | some (ring, left') => ringsGo ns k left' (R ++ [ring])
    | none => none
def ringsL (ns : List Int) : Option (List (List Int)) := ringsGo ns 5 (rngI ns.length) []
def tupI (r : List Int) : D := .tup (r.map D.int)
def sp_need_turn (C : Addr) : DSp := sp1 fun d m q qe => knT m d ∧ (isTurnD d = true → q .non m) ∧ (isTurnD d = false → qe (.ref C) m)
def sp_turn_back (C : Addr) : DSp := sp1 fun d m q qe => knT m d ∧ (isTurnD d = true → ∃ t, d = .ftup (t.map D.int) ∧ isTurnL t = true ∧ q (.tup ((undoneL t).map D.int)) m) ∧ (isTurnD d = false → qe (.ref C) m)
def sp_turn_after (C : Addr) : DSp := sp2 fun d e m q qe => knT m d ∧ knT m e ∧ (isTurnD d = true → isTurnD e = true → ∃ s t, d = .ftup (s.map D.int) ∧ e = .ftup (t.map D.int) ∧ isTurnL s = true ∧ isTurnL t = true ∧ (s.length = t.length → q (.tup ((afterL s t).map D.int)) m) ∧ (s.length ≠ t.length → qe (.ref C) m)) ∧ ((isTurnD d && isTurnD e) = false → qe (.ref C) m)
def sp_turn_rings (C : Addr) : DSp := sp1 fun d m q qe => knT m d ∧ (isTurnD d = true → ∃ t, d = .ftup (t.map D.int) ∧ isTurnL t = true ∧ ∀ (R : List (List Int)) a, m a = none → q (.ref a) (m.set a (.lst (R.map tupI)))) ∧ (isTurnD d = false → qe (.ref C) m)
def sp_Book_turn (C CW : Addr) : DSp := sp2 fun d e m q qe => ∃ many P, BookAt C m d many P ∧ IsBook many P ∧ kn m e ∧ (∀ s, e = .int s → IsStep P s → q (stepTurnD P s) m) ∧ (stepD P.length e = false → qe (.ref CW) m)
def sp_Book_onward (C CR CW : Addr) : DSp := sp3 fun d e f m q qe => ∃ many P, BookAt C m d many P ∧ IsBook many P ∧ kn m e ∧ kn m f ∧ (∀ s x, e = .int s → IsStep P s → f = .int x → IsLet many x → q (.int (stepO P s x)) m) ∧ (stepD P.length e = false → qe (.ref CW) m) ∧ (stepD P.length e = true → letD many f = false → qe (.ref CR) m)
def sp_law_odd : DSp := sp1 fun d m q _ => ∃ (a : Addr) (n : Int), d = .ref a ∧ m a = some (.lst [.int n]) ∧ ∀ (T : D) (M : Mem), KpS m M a → OddD M T → T ≠ .ref a → q T M
def sp_law_thing : DSp := sp1 fun d m q _ => ∃ (a : Addr) (n : Int), d = .ref a ∧ m a = some (.lst [.int n]) ∧ ∀ (T : D) (M : Mem), KpS m M a → ThingT M T → NoA a T → q T M
def sp_law_is_turn : DSp := sp1 fun d m q _ => ThingT m d ∧ q (.bl (isTurnD d)) m
def sp_law_whole : DSp := sp3 fun d e f m q _ => ∃ i j : Int, kn m d ∧ e = .int i ∧ f = .int j ∧ q (.bl (betw d i j)) m
def sp_law_turns_refused (C P : Addr) : DSp := sp2 fun d e m q _ => m P = some (.tbl (lamQ "_law_turns_refused")) ∧ ThingT m d ∧ (∃ t, e = .ftup (t.map D.int) ∧ isTurnL t = true) ∧ q (.bl true) m
def sp_law_steps_refused (C CR CW P : Addr) : DSp := sp4 fun d e f g m q _ => m P = some (.tbl (lamQ "_law_steps_refused")) ∧ ∃ (many : Nat) (Ps : Prs) (p : Addr), d = .int (many : Nat) ∧ e = .ref p ∧ m p = some (.lst (Ps.map pairD)) ∧ IsBook many Ps ∧ OddD m f ∧ OddD m g ∧ q (.bl true) m
def sp_law_kept : DSp := sp2 fun d e m q _ => ∃ (i : Int) (s : Str), d = .int i ∧ 0 ≤ i ∧ i < 1000 ∧ e = .str s ∧ s ∈ kept07 ∧ q (.bl true) m
/-- told, or the refusal that is taken -/
def sp_law_told (C_NoRow C_NoTurn C_NoWord : Addr) : DSpL := fun dl m q => ∀ (k : DQ) (ke : Value → Mem → Prop), (∀ d m', q (.tup [.str "told", d]) m' → k d m') → (∀ (c : Addr) (nm : Str) m', (c, nm) ∈ [(C_NoRow, ("NoRow" : Str)), (C_NoTurn, ("NoTurn" : Str)), (C_NoWord, ("NoWord" : Str))] → q (.tup [.str "refused", .str nm]) m' → ke (.ref c) m') → dl m k ke

def N_is_whole : List Str := ["thing"]
def rd_is_whole (we : DWX) : DTS :=
  (dRet (dAndV (dCB isiD (dCons (dVar 0) (dCons (dC (.ty "int")) dNil))) (dNotV (dCB isiD (dCons (dVar 0) (dCons (dC (.ty "bool")) dNil))))))
def N_is_between : List Str := ["thing", "least", "most"]
def rd_is_between (we : DWX) : DTS :=
  (dRet (dAndV (dCall sp_is_whole we (dCons (dVar 0) dNil)) (dChain leD leD (dVar 1) (dVar 0) (dVar 2))))
def N_is_turn : List Str := ["thing", "letter"]
def rd_is_turn (we : DWX) : DTS :=
  (dSeq (dIfS (dOr (dNot (dTruth (dCB isiD (dCons (dVar 0) (dCons (dC (.ty "tuple")) dNil))))) (dNot (dTest (dChain leD leD (dC (.int 2)) (dCB lenD (dCons (dVar 0) dNil)) (dC (.int 4)))))) (dRet (dC (.bl false))) dNext)
  (dSeq (dIfS (dNot (dTruth (dCN allN (dComp (iSeq (dVar 0)) (gNm 1) dYes (dCall sp_is_between we0 (dCons (dVar 1) (dCons (dC (.int 0)) (dCons (dOp subD (dCB lenD (dCons (dVar 0) dNil)) (dC (.int 1))) dNil)))) [1])))) (dRet (dC (.bl false))) dNext)
  (dRet (dEqNN false (dCL sortD (dVar 0)) (dListRg (dCB lenD (dCons (dVar 0) dNil)))))))
def N_need_turn : List Str := ["thing"]
def rd_need_turn (C_NoTurn : Addr) (we : DWX) : DTS :=
  (dIfS (dNot (dTruth (dCall sp_is_turn we (dCons (dVar 0) dNil)))) (dRaise we C_NoTurn) dNext)
def N_undone : List Str := ["turn", "letter"]
def rd_undone (we : DWX) : DTS :=
  (dRet (dCN (fun ds m q => q (.tup ds) m) (dComp (iRange1 (dCB lenD (dCons (dVar 0) dNil))) (gNm 1) dYes (dTix (dVar 0) (dVar 1)) [1])))
def N_turn_back : List Str := ["turn"]
def rd_turn_back (C_NoTurn : Addr) (we : DWX) : DTS :=
  (dSeq (dDrop (dCall (sp_need_turn C_NoTurn) we (dCons (dVar 0) dNil)))
  (dRet (dCall sp_undone we (dCons (dVar 0) dNil))))
def N_turn_after : List Str := ["one", "other", "letter"]
def rd_turn_after (C_NoTurn : Addr) (we : DWX) : DTS :=
  (dSeq (dDrop (dCall (sp_need_turn C_NoTurn) we (dCons (dVar 0) dNil)))
  (dSeq (dDrop (dCall (sp_need_turn C_NoTurn) we (dCons (dVar 1) dNil)))
  (dSeq (dIfS (dTest (dOp neD (dCB lenD (dCons (dVar 0) dNil)) (dCB lenD (dCons (dVar 1) dNil)))) (dRaise we C_NoTurn) dNext)
  (dRet (dCN (fun ds m q => q (.tup ds) m) (dComp (iSeq (dVar 0)) (gNm 2) dYes (dOp ixD (dVar 1) (dVar 2)) [2]))))))
def N_turn_rings : List Str := ["turn", "rings", "left", "ring"]
def rd_turn_rings (C_NoTurn : Addr) (we : DWX) : DTS :=
  (dSeq (dDrop (dCall (sp_need_turn C_NoTurn) we (dCons (dVar 0) dNil)))
  (dSeq (dAsg (dNew (dLst dNil)) (gNm 1))
  (dSeq (dAsg (dNew (dListRg (dCB lenD (dCons (dVar 0) dNil)))) (gNm 2))
  (dSeq (dWhile (dTest (dNil? true (dVar 2))) (dSeq (dAsg (dNew (dLst (dCons (dBM popAtD (dVar 2) (dCons (dC (.int 0)) dNil)) dNil))) (gNm 3))
  (dSeq (dWhile (dTest (dOp neD (dOp ixD (dVar 0) (dOp ixD (dVar 3) (dUn negD (dC (.int 1))))) (dOp ixD (dVar 3) (dC (.int 0))))) (dSeq (dDrop (dBM appendD (dVar 3) (dCons (dOp ixD (dVar 0) (dOp ixD (dVar 3) (dUn negD (dC (.int 1))))) dNil)))
  (dDrop (dBM removeD (dVar 2) (dCons (dOp ixD (dVar 3) (dUn negD (dC (.int 1)))) dNil)))))
  (dDrop (dBM appendD (dVar 1) (dCons (dCB tupleD (dCons (dVar 3) dNil)) dNil))))))
  (dRet (dVar 1))))))
def N_is_hand : List Str := ["thing", "many", "hands", "step"]
def rd_is_hand (we : DWX) : DTS :=
  (dSeq (dIfS (dOr (dNot (dTruth (dCB isiD (dCons (dVar 0) (dCons (dC (.ty "tuple")) dNil))))) (dOr (dTest (dOp neD (dCB lenD (dCons (dVar 0) dNil)) (dC (.int 2)))) (dOr (dNot (dTruth (dCall sp_is_turn we (dCons (dOp ixD (dVar 0) (dC (.int 0))) dNil)))) (dTest (dOp neD (dCB lenD (dCons (dOp ixD (dVar 0) (dC (.int 0))) dNil)) (dVar 1)))))) (dRet (dC (.bl false))) dNext)
  (dSeq (dIfS (dOr (dNot (dTruth (dCB isiD (dCons (dOp ixD (dVar 0) (dC (.int 1))) (dCons (dC (.ty "tuple")) dNil))))) (dTest (dOp neD (dCB lenD (dCons (dOp ixD (dVar 0) (dC (.int 1))) dNil)) (dVar 1)))) (dRet (dC (.bl false))) dNext)
  (dRet (dCN allN (dComp (iSeq (dOp ixD (dVar 0) (dC (.int 1)))) (gNm 3) dYes (dCall sp_is_between we0 (dCons (dVar 3) (dCons (dUn negD (dVar 2)) (dCons (dVar 2) dNil)))) [3])))))
def N_are_hands : List Str := ["thing", "many", "one"]
def rd_are_hands (we : DWX) : DTS :=
  (dSeq (dIfS (dOr (dNot (dTruth (dCB isiD (dCons (dVar 0) (dCons (dTup (dCons (dC (.ty "list")) (dCons (dC (.ty "tuple")) dNil))) dNil))))) (dTest (dOp gtD (dCB lenD (dCons (dVar 0) dNil)) (dC (.int 6))))) (dRet (dC (.bl false))) dNext)
  (dRet (dCN allN (dComp (iSeq (dVar 0)) (gNm 2) dYes (dCall sp_is_hand we0 (dCons (dVar 2) (dCons (dVar 1) (dCons (dCB lenD (dCons (dVar 0) dNil)) dNil)))) [2]))))
def N_Book___init__ : List Str := ["self", "many", "hands"]
def rd_Book___init__ (C_Book : Addr) (we : DWX) : DTS :=
  (dSeq (dIfS (dOr (dNot (dTruth (dCall sp_is_between we (dCons (dVar 1) (dCons (dC (.int 2)) (dCons (dC (.int 4)) dNil)))))) (dNot (dTruth (dCall sp_are_hands we (dCons (dVar 2) (dCons (dVar 1) dNil)))))) dNever dNext)
  (dSeq (dSetF C_Book "many" (dVar 1) (dVar 0))
  (dSetF C_Book "pairs" (dNew (dCL listD (dVar 2))) (dVar 0))))
def N_Book_has_step : List Str := ["self", "thing"]
def rd_Book_has_step (C_Book : Addr) (we : DWX) : DTS :=
  (dRet (dAndV (dCall sp_is_between we (dCons (dVar 1) (dCons (dUn negD (dCB lenD (dCons (dFld C_Book "pairs" (dVar 0)) dNil))) (dCons (dCB lenD (dCons (dFld C_Book "pairs" (dVar 0)) dNil)) dNil)))) (dOp neD (dVar 1) (dC (.int 0)))))
def N_Book_has_letter : List Str := ["self", "thing"]
def rd_Book_has_letter (C_Book : Addr) (we : DWX) : DTS :=
  (dRet (dCall sp_is_between we (dCons (dVar 1) (dCons (dC (.int 0)) (dCons (dOp subD (dFld C_Book "many" (dVar 0)) (dC (.int 1))) dNil)))))
def N_Book_turn : List Str := ["self", "step", "turn"]
def rd_Book_turn (C_Book : Addr) (C_NoWord : Addr) (we : DWX) : DTS :=
  (dSeq (dIfS (dNot (dTruth (dMeth C_Book "has_step" (sp_Book_has_step C_Book) we (dVar 0) (dCons (dVar 1) dNil)))) (dRaise we C_NoWord) dNext)
  (dSeq (dAsg (dOp ixD (dOp ixD (dFld C_Book "pairs" (dVar 0)) (dOp subD (dCB absD (dCons (dVar 1) dNil)) (dC (.int 1)))) (dC (.int 0))) (gNm 2))
  (dRet (dIf (dTest (dOp gtD (dVar 1) (dC (.int 0)))) (dVar 2) (dCall sp_undone we (dCons (dVar 2) dNil))))))
def N_Book_onward : List Str := ["self", "step", "letter", "turn", "onward"]
def rd_Book_onward (C_Book : Addr) (C_NoRow : Addr) (C_NoWord : Addr) (we : DWX) : DTS :=
  (dSeq (dIfS (dNot (dTruth (dMeth C_Book "has_step" (sp_Book_has_step C_Book) we (dVar 0) (dCons (dVar 1) dNil)))) (dRaise we C_NoWord) dNext)
  (dSeq (dIfS (dNot (dTruth (dMeth C_Book "has_letter" (sp_Book_has_letter C_Book) we (dVar 0) (dCons (dVar 2) dNil)))) (dRaise we C_NoRow) dNext)
  (dSeq (dAsg (dOp ixD (dFld C_Book "pairs" (dVar 0)) (dOp subD (dCB absD (dCons (dVar 1) dNil)) (dC (.int 1)))) (gTp 2 (gCn (gNm 3) (gCn (gNm 4) gNl))))
  (dRet (dIf (dTest (dOp gtD (dVar 1) (dC (.int 0)))) (dOp ixD (dVar 4) (dVar 2)) (dUn negD (dOp ixD (dVar 4) (dTix (dVar 3) (dVar 2)))))))))
def N_law_state : List Str := ["_law_script", "_law_k", "_law_cell", "_law_primes", "_law_found", "_law_j", "_law_prime", "_law_one"]
def rd_law_state_2 (we : DWX) : DTS :=
  (dSeq (dAsg (dNew (dLst (dCons (dC (.int 2147483629)) (dCons (dC (.int 2147483587)) (dCons (dC (.int 2147483579)) (dCons (dC (.int 2147483563)) (dCons (dC (.int 2147483549)) (dCons (dC (.int 2147483543)) (dCons (dC (.int 2147483497)) (dCons (dC (.int 2147483489)) dNil)))))))))) (gNm 3))
  (dSeq (dAsg (dOp addD (dVar 3) (dNew (dLst (dCons (dC (.int 2147483477)) (dCons (dC (.int 2147483423)) (dCons (dC (.int 2147483399)) (dCons (dC (.int 2147483353)) (dCons (dC (.int 2147483323)) (dCons (dC (.int 2147483269)) (dCons (dC (.int 2147483249)) dNil)))))))))) (gNm 3))
  (dSeq (dAsg (dC (.int 0)) (gNm 4))
  (dSeq (dFor (iEnumL (dVar 3)) (gTp 2 (gCn (gNm 5) (gCn (gNm 6) gNl))) (dSeq (dAsg (dOp modD (dOp addD (dOp addD (dOp addD (dVar 2) (dOp mulD (dC (.int 104729)) (dVar 1))) (dOp mulD (dC (.int 1299709)) (dVar 5))) (dC (.int 17))) (dVar 6)) (gNm 7))
  (dAsg (dOp addD (dOp mulD (dVar 4) (dC (.int 2147483647))) (dOp modD (dOp mulD (dVar 7) (dOp addD (dOp addD (dOp mulD (dVar 7) (dVar 7)) (dOp mulD (dC (.int 2)) (dVar 5))) (dC (.int 3)))) (dVar 6))) (gNm 4))))
  (dRet (dNew (dLst (dCons (dVar 4) dNil))))))))
def rd_law_state_1 (we : DWX) : DTS :=
  (dSeq (dIfS (dAnd (dTest (dOp geD (dVar 2) (dOp powD (dC (.int 10)) (dC (.int 18))))) (dTest (dOp ltD (dVar 1) (dCB lenD (dCons (dVar 0) dNil))))) (dRet (dNew (dLst (dCons (dOp subD (dVar 2) (dOp powD (dC (.int 10)) (dC (.int 18)))) dNil)))) dNext)
  (rd_law_state_2 we))
def rd_law_state (we : DWX) : DTS :=
  (dSeq (dAsg (dIf (dTest (dNil? true (dVar 0))) (dCB absD (dCons (dOp ixD (dVar 0) (dOp modD (dVar 1) (dCB lenD (dCons (dVar 0) dNil)))) dNil)) (dC (.int 0))) (gNm 2))
  (rd_law_state_1 we))
def N_law_next : List Str := ["_law_state_here", "_law_many", "_law_found"]
def rd_law_next (we : DWX) : DTS :=
  (dSeq (dAsg (dOp modD (dOp ixD (dVar 0) (dC (.int 0))) (dVar 1)) (gNm 2))
  (dSeq (dSetIx (dOp fdivD (dOp ixD (dVar 0) (dC (.int 0))) (dVar 1)) (dVar 0) (dC (.int 0)))
  (dRet (dVar 2))))
def N_law_turn : List Str := ["_law_state_here", "_law_many", "_law_left", "_law_k"]
def rd_law_turn (we : DWX) : DTS :=
  (dSeq (dAsg (dNew (dListRg (dVar 1))) (gNm 2))
  (dRet (dCN (fun ds m q => q (.ftup ds) m) (dComp (iRange1 (dVar 1)) (gNm 3) dYes (dBM popAtD (dVar 2) (dCons (dOp modD (dOp addD (dCall sp_law_next we0 (dCons (dVar 0) (dCons (dCB lenD (dCons (dVar 2) dNil)) dNil))) (dC (.int 1))) (dCB lenD (dCons (dVar 2) dNil))) dNil)) [3]))))
def N_law_pairs : List Str := ["_law_state_here", "_law_many", "_law_hands", "_law_pairs_here", "_law_k", "_law_turn_here", "_law_j", "_law_onward"]
def rd_law_pairs (we : DWX) : DTS :=
  (dSeq (dAsg (dOp ixD (dNew (dLst (dCons (dC (.int 2)) (dCons (dC (.int 2)) (dCons (dC (.int 3)) (dCons (dC (.int 4)) dNil)))))) (dCall sp_law_next we (dCons (dVar 0) (dCons (dC (.int 4)) dNil)))) (gNm 1))
  (dSeq (dAsg (dOp ixD (dNew (dLst (dCons (dC (.int 1)) (dCons (dC (.int 2)) (dCons (dC (.int 3)) (dCons (dC (.int 0)) (dCons (dC (.int 4)) (dCons (dC (.int 5)) (dCons (dC (.int 6)) (dCons (dC (.int 2)) dNil)))))))))) (dCall sp_law_next we (dCons (dVar 0) (dCons (dC (.int 8)) dNil)))) (gNm 2))
  (dSeq (dAsg (dNew (dLst dNil)) (gNm 3))
  (dSeq (dFor (iRange1 (dVar 2)) (gNm 4) (dSeq (dAsg (dCall sp_law_turn we (dCons (dVar 0) (dCons (dVar 1) dNil))) (gNm 5))
  (dSeq (dAsg (dNew (dComp (iRange1 (dVar 1)) (gNm 6) dYes (dOp mulD (dCall sp_law_next we0 (dCons (dVar 0) (dCons (dC (.int 2)) dNil))) (dOp subD (dCall sp_law_next we0 (dCons (dVar 0) (dCons (dOp addD (dOp mulD (dC (.int 2)) (dVar 2)) (dC (.int 1))) dNil))) (dVar 2))) [6])) (gNm 7))
  (dDrop (dBM appendD (dVar 3) (dCons (dTup (dCons (dVar 5) (dCons (dCB tupleD (dCons (dVar 7) dNil)) dNil))) dNil))))))
  (dRet (dTup (dCons (dVar 1) (dCons (dVar 3) dNil))))))))
def N_law_goes : List Str := ["_law_pairs_here", "_law_asked", "_law_sign", "_law_turn_here", "_law_onward", "_law_k", "_law_first"]
def rd_law_goes (we : DWX) : DTS :=
  (dSeq (dAsg (dOp ixD (dVar 0) (dOp subD (dCB absD (dCons (dVar 1) dNil)) (dC (.int 1)))) (gTp 2 (gCn (gNm 3) (gCn (gNm 4) gNl))))
  (dSeq (dIfS (dTest (dOp gtD (dVar 1) (dC (.int 0)))) (dRet (dTup (dCons (dOp ixD (dVar 3) (dVar 2)) (dCons (dOp ixD (dVar 4) (dVar 2)) dNil)))) dNext)
  (dSeq (dAsg (dOp ixD (dNew (dComp (iRange1 (dCB lenD (dCons (dVar 3) dNil))) (gNm 5) (dTest (dOp eqD (dOp ixD (dVar 3) (dVar 5)) (dVar 2))) (dVar 5) [5])) (dC (.int 0))) (gNm 6))
  (dRet (dTup (dCons (dVar 6) (dCons (dUn negD (dOp ixD (dVar 4) (dVar 6))) dNil)))))))
def N_law_odd : List Str := ["_law_state_here", "_law_some"]
def rd_law_odd_1 (we : DWX) : DTS :=
  (dRet (dOp ixG (dVar 1) (dCall sp_law_next we (dCons (dVar 0) (dCons (dC (.int 10)) dNil)))))
def rd_law_odd (we : DWX) : DTS :=
  (dSeq (dAsg (dNew (dLst (dCons (dC (.bl true)) (dCons (dC (.bl false)) (dCons (dC .non) (dCons (dC (.str "1")) (dCons (dC (.str "")) (dCons (dTup (dCons (dC (.int 1)) dNil)) (dCons (dNew (dLst (dCons (dC (.int 0)) dNil))) (dCons dDict0 (dCons (dOp addD (dOp powD (dC (.int 10)) (dC (.int 12))) (dCall sp_law_next we (dCons (dVar 0) (dCons (dOp powD (dC (.int 10)) (dC (.int 9))) dNil)))) (dCons (dUn negD (dC (.int 7))) dNil)))))))))))) (gNm 1))
  (rd_law_odd_1 we))
def N_law_thing : List Str := ["_law_state_here", "_law_choice", "_law_at", "_law_odd_here", "_law_number", "_law_turn_here"]
def rd_law_thing_10 (we : DWX) : DTS :=
  (dRet (dOp addF6 (dOp addF6 (dSlN (dVar 5) dNoPart (dPart (dVar 2))) (dTup (dCons (dVar 4) dNil))) (dSlN (dVar 5) (dPart (dOp addD (dVar 2) (dC (.int 1)))) dNoPart)))
def rd_law_thing_9 (we : DWX) : DTS :=
  (dSeq (dIfS (dTest (dOp eqD (dVar 1) (dC (.int 3)))) (dRet (dOp ixD (dNew (dLst (dCons (dVar 3) (dCons (dNew (dCL listD (dVar 5))) dNil)))) (dOp modD (dVar 4) (dC (.int 2))))) dNext)
  (rd_law_thing_10 we))
def rd_law_thing_8 (we : DWX) : DTS :=
  (dSeq (dIfS (dTest (dOp eqD (dVar 1) (dC (.int 2)))) (dRet (dOp addF6 (dVar 5) (dTup (dCons (dVar 4) dNil)))) dNext)
  (rd_law_thing_9 we))
def rd_law_thing_7 (we : DWX) : DTS :=
  (dSeq (dIfS (dTest (dOp eqD (dVar 1) (dC (.int 1)))) (dRet (dOp addF6 (dSlN (dVar 5) dNoPart (dPart (dVar 2))) (dSlN (dVar 5) (dPart (dOp addD (dVar 2) (dC (.int 1)))) dNoPart))) dNext)
  (rd_law_thing_8 we))
def rd_law_thing_6 (we : DWX) : DTS :=
  (dSeq (dIfS (dTest (dOp eqD (dVar 1) (dC (.int 0)))) (dRet (dOp addF6 (dOp addF6 (dSlN (dVar 5) dNoPart (dPart (dVar 2))) (dTup (dCons (dVar 3) dNil))) (dSlN (dVar 5) (dPart (dOp addD (dVar 2) (dC (.int 1)))) dNoPart))) dNext)
  (rd_law_thing_7 we))
def rd_law_thing_5 (we : DWX) : DTS :=
  (dSeq (dAsg (dOp modD (dVar 2) (dCB lenD (dCons (dVar 5) dNil))) (gNm 2))
  (rd_law_thing_6 we))
def rd_law_thing_4 (we : DWX) : DTS :=
  (dSeq (dAsg (dCall sp_law_turn we (dCons (dVar 0) (dCons (dOp addD (dC (.int 2)) (dCall sp_law_next we (dCons (dVar 0) (dCons (dC (.int 3)) dNil)))) dNil))) (gNm 5))
  (rd_law_thing_5 we))
def rd_law_thing_3 (we : DWX) : DTS :=
  (dSeq (dAsg (dOp subD (dCall sp_law_next we (dCons (dVar 0) (dCons (dC (.int 6)) dNil))) (dC (.int 1))) (gNm 4))
  (rd_law_thing_4 we))
def rd_law_thing_2 (we : DWX) : DTS :=
  (dSeq (dAsg (dCall sp_law_odd we (dCons (dVar 0) dNil)) (gNm 3))
  (rd_law_thing_3 we))
def rd_law_thing_1 (we : DWX) : DTS :=
  (dSeq (dAsg (dCall sp_law_next we (dCons (dVar 0) (dCons (dC (.int 4)) dNil))) (gNm 2))
  (rd_law_thing_2 we))
def rd_law_thing (we : DWX) : DTS :=
  (dSeq (dAsg (dCall sp_law_next we (dCons (dVar 0) (dCons (dC (.int 6)) dNil))) (gNm 1))
  (rd_law_thing_1 we))
def N_law_is_turn : List Str := ["_law_thing_here", "_law_one", "_law_k"]
def rd_law_is_turn (we : DWX) : DTS :=
  (dSeq (dIfS (dOr (dNot (dTruth (dCB isiD (dCons (dVar 0) (dCons (dC (.ty "tuple")) dNil))))) (dTest (dOp (inG true) (dCB lenD (dCons (dVar 0) dNil)) (dTup (dCons (dC (.int 2)) (dCons (dC (.int 3)) (dCons (dC (.int 4)) dNil))))))) (dRet (dC (.bl false))) dNext)
  (dRet (dEqNN false (dCNL sortNS (dComp (iSeq (dVar 0)) (gNm 1) dYes (dCB reprX (dCons (dVar 1) dNil)) [1])) (dComp (iRange1 (dCB lenD (dCons (dVar 0) dNil))) (gNm 2) dYes (dCB strD (dCons (dVar 2) dNil)) [2]))))
def N_law_whole : List Str := ["_law_thing_here", "_law_low", "_law_most"]
def rd_law_whole (we : DWX) : DTS :=
  (dRet (dAndV (dCB isiD (dCons (dVar 0) (dCons (dC (.ty "int")) dNil))) (dAndV (dNotV (dCB isiD (dCons (dVar 0) (dCons (dC (.ty "bool")) dNil)))) (dChain leD leD (dVar 1) (dVar 0) (dVar 2)))))
def N_law_told : List Str := ["_law_work", "_law_found", "_law_error", "e", "_law_marks", "_law_name", "_law_there"]
def rd_law_told_5 (C_NoRow : Addr) (C_NoTurn : Addr) (C_NoWord : Addr) (C_HandError : Addr) (C_NoText : Addr) (C_NoDeed : Addr) (C_InUse : Addr) (C_NoName : Addr) (C_TooMany : Addr) (C_NoNumber : Addr) (C_NoMachine : Addr) (C_NoBook : Addr) (f : Addr) (dl : DLm) (we : DWX) : DTS :=
  (dRet (dTup (dCons (dC (.str "refused")) (dCons (dJoin (dC (.str " ")) (dNew (dComp (iSeq (dVar 4)) (gTp 2 (gCn (gNm 5) (gCn (gNm 6) gNl))) (dTruth (dVar 6)) (dVar 5) [5, 6]))) dNil))))
def rd_law_told_4 (C_NoRow : Addr) (C_NoTurn : Addr) (C_NoWord : Addr) (C_HandError : Addr) (C_NoText : Addr) (C_NoDeed : Addr) (C_InUse : Addr) (C_NoName : Addr) (C_TooMany : Addr) (C_NoNumber : Addr) (C_NoMachine : Addr) (C_NoBook : Addr) (f : Addr) (dl : DLm) (we : DWX) : DTS :=
  (dSeq (dAsg (dNew (dLst (dCons (dTup (dCons (dC (.str "NoTurn")) (dCons (dCB (isiE [((.type "NoneType"), (.ref C_NoTurn), false), ((.ref C_NoRow), (.ref C_NoTurn), false), ((.ref C_NoTurn), (.ref C_NoTurn), true), ((.ref C_NoWord), (.ref C_NoTurn), false)]) (dCons (dVar 2) (dCons (dC (.ref C_NoTurn)) dNil))) dNil))) (dCons (dTup (dCons (dC (.str "NoBook")) (dCons (dCB (isiE [((.type "NoneType"), (.ref C_NoBook), false), ((.ref C_NoRow), (.ref C_NoBook), false), ((.ref C_NoTurn), (.ref C_NoBook), false), ((.ref C_NoWord), (.ref C_NoBook), false)]) (dCons (dVar 2) (dCons (dC (.ref C_NoBook)) dNil))) dNil))) (dCons (dTup (dCons (dC (.str "NoWord")) (dCons (dCB (isiE [((.type "NoneType"), (.ref C_NoWord), false), ((.ref C_NoRow), (.ref C_NoWord), false), ((.ref C_NoTurn), (.ref C_NoWord), false), ((.ref C_NoWord), (.ref C_NoWord), true)]) (dCons (dVar 2) (dCons (dC (.ref C_NoWord)) dNil))) dNil))) (dCons (dTup (dCons (dC (.str "NoRow")) (dCons (dCB (isiE [((.type "NoneType"), (.ref C_NoRow), false), ((.ref C_NoRow), (.ref C_NoRow), true), ((.ref C_NoTurn), (.ref C_NoRow), false), ((.ref C_NoWord), (.ref C_NoRow), false)]) (dCons (dVar 2) (dCons (dC (.ref C_NoRow)) dNil))) dNil))) (dCons (dTup (dCons (dC (.str "NoMachine")) (dCons (dCB (isiE [((.type "NoneType"), (.ref C_NoMachine), false), ((.ref C_NoRow), (.ref C_NoMachine), false), ((.ref C_NoTurn), (.ref C_NoMachine), false), ((.ref C_NoWord), (.ref C_NoMachine), false)]) (dCons (dVar 2) (dCons (dC (.ref C_NoMachine)) dNil))) dNil))) (dCons (dTup (dCons (dC (.str "NoNumber")) (dCons (dCB (isiE [((.type "NoneType"), (.ref C_NoNumber), false), ((.ref C_NoRow), (.ref C_NoNumber), false), ((.ref C_NoTurn), (.ref C_NoNumber), false), ((.ref C_NoWord), (.ref C_NoNumber), false)]) (dCons (dVar 2) (dCons (dC (.ref C_NoNumber)) dNil))) dNil))) (dCons (dTup (dCons (dC (.str "TooMany")) (dCons (dCB (isiE [((.type "NoneType"), (.ref C_TooMany), false), ((.ref C_NoRow), (.ref C_TooMany), false), ((.ref C_NoTurn), (.ref C_TooMany), false), ((.ref C_NoWord), (.ref C_TooMany), false)]) (dCons (dVar 2) (dCons (dC (.ref C_TooMany)) dNil))) dNil))) (dCons (dTup (dCons (dC (.str "NoName")) (dCons (dCB (isiE [((.type "NoneType"), (.ref C_NoName), false), ((.ref C_NoRow), (.ref C_NoName), false), ((.ref C_NoTurn), (.ref C_NoName), false), ((.ref C_NoWord), (.ref C_NoName), false)]) (dCons (dVar 2) (dCons (dC (.ref C_NoName)) dNil))) dNil))) (dCons (dTup (dCons (dC (.str "InUse")) (dCons (dCB (isiE [((.type "NoneType"), (.ref C_InUse), false), ((.ref C_NoRow), (.ref C_InUse), false), ((.ref C_NoTurn), (.ref C_InUse), false), ((.ref C_NoWord), (.ref C_InUse), false)]) (dCons (dVar 2) (dCons (dC (.ref C_InUse)) dNil))) dNil))) (dCons (dTup (dCons (dC (.str "NoDeed")) (dCons (dCB (isiE [((.type "NoneType"), (.ref C_NoDeed), false), ((.ref C_NoRow), (.ref C_NoDeed), false), ((.ref C_NoTurn), (.ref C_NoDeed), false), ((.ref C_NoWord), (.ref C_NoDeed), false)]) (dCons (dVar 2) (dCons (dC (.ref C_NoDeed)) dNil))) dNil))) (dCons (dTup (dCons (dC (.str "NoText")) (dCons (dCB (isiE [((.type "NoneType"), (.ref C_NoText), false), ((.ref C_NoRow), (.ref C_NoText), false), ((.ref C_NoTurn), (.ref C_NoText), false), ((.ref C_NoWord), (.ref C_NoText), false)]) (dCons (dVar 2) (dCons (dC (.ref C_NoText)) dNil))) dNil))) dNil))))))))))))) (gNm 4))
  (rd_law_told_5 C_NoRow C_NoTurn C_NoWord C_HandError C_NoText C_NoDeed C_InUse C_NoName C_TooMany C_NoNumber C_NoMachine C_NoBook f dl we))
def rd_law_told_3 (C_NoRow : Addr) (C_NoTurn : Addr) (C_NoWord : Addr) (C_HandError : Addr) (C_NoText : Addr) (C_NoDeed : Addr) (C_InUse : Addr) (C_NoName : Addr) (C_TooMany : Addr) (C_NoNumber : Addr) (C_NoMachine : Addr) (C_NoBook : Addr) (f : Addr) (dl : DLm) (we : DWX) : DTS :=
  (dSeq (dIfS (dTest (dOp (isND false) (dVar 2) (dC .non))) (dRet (dTup (dCons (dC (.str "told")) (dCons (dVar 1) dNil)))) dNext)
  (rd_law_told_4 C_NoRow C_NoTurn C_NoWord C_HandError C_NoText C_NoDeed C_InUse C_NoName C_TooMany C_NoNumber C_NoMachine C_NoBook f dl we))
def rd_law_told_2 (C_NoRow : Addr) (C_NoTurn : Addr) (C_NoWord : Addr) (C_HandError : Addr) (C_NoText : Addr) (C_NoDeed : Addr) (C_InUse : Addr) (C_NoName : Addr) (C_TooMany : Addr) (C_NoNumber : Addr) (C_NoMachine : Addr) (C_NoBook : Addr) (f : Addr) (dl : DLm) (we : DWX) : DTS :=
  (dSeq (dTryK (fun we => (dAsg (dAct f dl we) (gNm 1))) [((.ref C_NoRow), (.ref C_HandError), true), ((.ref C_NoTurn), (.ref C_HandError), true), ((.ref C_NoWord), (.ref C_HandError), true)] (.ref C_HandError) 3 (dAsg (dVar 3) (gNm 2)) we)
  (rd_law_told_3 C_NoRow C_NoTurn C_NoWord C_HandError C_NoText C_NoDeed C_InUse C_NoName C_TooMany C_NoNumber C_NoMachine C_NoBook f dl we))
def rd_law_told_1 (C_NoRow : Addr) (C_NoTurn : Addr) (C_NoWord : Addr) (C_HandError : Addr) (C_NoText : Addr) (C_NoDeed : Addr) (C_InUse : Addr) (C_NoName : Addr) (C_TooMany : Addr) (C_NoNumber : Addr) (C_NoMachine : Addr) (C_NoBook : Addr) (f : Addr) (dl : DLm) (we : DWX) : DTS :=
  (dSeq (dAsg (dC .non) (gNm 2))
  (rd_law_told_2 C_NoRow C_NoTurn C_NoWord C_HandError C_NoText C_NoDeed C_InUse C_NoName C_TooMany C_NoNumber C_NoMachine C_NoBook f dl we))
def rd_law_told (C_NoRow : Addr) (C_NoTurn : Addr) (C_NoWord : Addr) (C_HandError : Addr) (C_NoText : Addr) (C_NoDeed : Addr) (C_InUse : Addr) (C_NoName : Addr) (C_TooMany : Addr) (C_NoNumber : Addr) (C_NoMachine : Addr) (C_NoBook : Addr) (f : Addr) (dl : DLm) (we : DWX) : DTS :=
  (dSeq (dAsg (dC .non) (gNm 1))
  (rd_law_told_1 C_NoRow C_NoTurn C_NoWord C_HandError C_NoText C_NoDeed C_InUse C_NoName C_TooMany C_NoNumber C_NoMachine C_NoBook f dl we))
def N_law_turns_refused : List Str := ["_law_thing_here", "_law_good", "_law_due", "_law_works", "_law_work", "_law_found", "_law_one"]
def rd_law_turns_refused_8 (C_NoTurn : Addr) (C_NoRow : Addr) (C_NoWord : Addr) (P_law_turns_refused : Addr) (CL : List (Str × Addr)) (l_law_turns_refused_0 : LamSyn) (l_law_turns_refused_1 : LamSyn) (l_law_turns_refused_2 : LamSyn) (l_law_turns_refused_3 : LamSyn) (l_law_turns_refused_4 : LamSyn) (we : DWX) : DTS :=
  (dRet (dOp eqD (dVar 5) (dOp mulD (dNew (dLst (dCons (dVar 2) dNil))) (dC (.int 5)))))
def rd_law_turns_refused_7 (C_NoTurn : Addr) (C_NoRow : Addr) (C_NoWord : Addr) (P_law_turns_refused : Addr) (CL : List (Str × Addr)) (l_law_turns_refused_0 : LamSyn) (l_law_turns_refused_1 : LamSyn) (l_law_turns_refused_2 : LamSyn) (l_law_turns_refused_3 : LamSyn) (l_law_turns_refused_4 : LamSyn) (we : DWX) : DTS :=
  (dSeq (dIfS (dTruth (dCall sp_law_is_turn we (dCons (dVar 0) dNil))) (dRet (dAndV (dEqNN false (dComp (iSeq (dSl (dVar 5) dNoPart (dPart (dC (.int 2))))) (gNm 6) dYes (dOp ixD (dVar 6) (dC (.int 0))) [6]) (dLst (dCons (dC (.str "told")) (dCons (dC (.str "told")) dNil)))) (dOp eqD (dOp ixD (dOp ixD (dVar 5) (dC (.int 4))) (dC (.int 0))) (dC (.str "told"))))) dNext)
  (rd_law_turns_refused_8 C_NoTurn C_NoRow C_NoWord P_law_turns_refused CL l_law_turns_refused_0 l_law_turns_refused_1 l_law_turns_refused_2 l_law_turns_refused_3 l_law_turns_refused_4 we))
def rd_law_turns_refused_6 (C_NoTurn : Addr) (C_NoRow : Addr) (C_NoWord : Addr) (P_law_turns_refused : Addr) (CL : List (Str × Addr)) (l_law_turns_refused_0 : LamSyn) (l_law_turns_refused_1 : LamSyn) (l_law_turns_refused_2 : LamSyn) (l_law_turns_refused_3 : LamSyn) (l_law_turns_refused_4 : LamSyn) (we : DWX) : DTS :=
  (dSeq (dAsg (dNew (dComp (iSeq (dVar 3)) (gNm 4) dYes (dTellLB (sp_law_told C_NoRow C_NoTurn C_NoWord) (lamQ "_law_turns_refused") [⟨l_law_turns_refused_0, fun we => (dCall (sp_turn_back C_NoTurn) we (dCons (dVar 0) dNil))⟩, ⟨l_law_turns_refused_1, fun we => (dCall (sp_turn_rings C_NoTurn) we (dCons (dVar 0) dNil))⟩, ⟨l_law_turns_refused_2, fun we => (dCall (sp_turn_after C_NoTurn) we (dCons (dVar 0) (dCons (dVar 1) dNil)))⟩, ⟨l_law_turns_refused_3, fun we => (dCall (sp_turn_after C_NoTurn) we (dCons (dVar 1) (dCons (dVar 0) dNil)))⟩, ⟨l_law_turns_refused_4, fun we => (dCall (sp_turn_after C_NoTurn) we (dCons (dVar 0) (dCons (dVar 0) dNil)))⟩] CL [4] (dVar 4)) [4])) (gNm 5))
  (rd_law_turns_refused_7 C_NoTurn C_NoRow C_NoWord P_law_turns_refused CL l_law_turns_refused_0 l_law_turns_refused_1 l_law_turns_refused_2 l_law_turns_refused_3 l_law_turns_refused_4 we))
def rd_law_turns_refused_5 (C_NoTurn : Addr) (C_NoRow : Addr) (C_NoWord : Addr) (P_law_turns_refused : Addr) (CL : List (Str × Addr)) (l_law_turns_refused_0 : LamSyn) (l_law_turns_refused_1 : LamSyn) (l_law_turns_refused_2 : LamSyn) (l_law_turns_refused_3 : LamSyn) (l_law_turns_refused_4 : LamSyn) (we : DWX) : DTS :=
  (dSeq (dDrop (dBM appendD (dVar 3) (dCons (dKeep P_law_turns_refused (lamQ "_law_turns_refused") l_law_turns_refused_4 ["_law_thing_here"] CL) dNil)))
  (rd_law_turns_refused_6 C_NoTurn C_NoRow C_NoWord P_law_turns_refused CL l_law_turns_refused_0 l_law_turns_refused_1 l_law_turns_refused_2 l_law_turns_refused_3 l_law_turns_refused_4 we))
def rd_law_turns_refused_4 (C_NoTurn : Addr) (C_NoRow : Addr) (C_NoWord : Addr) (P_law_turns_refused : Addr) (CL : List (Str × Addr)) (l_law_turns_refused_0 : LamSyn) (l_law_turns_refused_1 : LamSyn) (l_law_turns_refused_2 : LamSyn) (l_law_turns_refused_3 : LamSyn) (l_law_turns_refused_4 : LamSyn) (we : DWX) : DTS :=
  (dSeq (dDrop (dBM appendD (dVar 3) (dCons (dKeep P_law_turns_refused (lamQ "_law_turns_refused") l_law_turns_refused_3 ["_law_thing_here", "_law_good"] CL) dNil)))
  (rd_law_turns_refused_5 C_NoTurn C_NoRow C_NoWord P_law_turns_refused CL l_law_turns_refused_0 l_law_turns_refused_1 l_law_turns_refused_2 l_law_turns_refused_3 l_law_turns_refused_4 we))
def rd_law_turns_refused_3 (C_NoTurn : Addr) (C_NoRow : Addr) (C_NoWord : Addr) (P_law_turns_refused : Addr) (CL : List (Str × Addr)) (l_law_turns_refused_0 : LamSyn) (l_law_turns_refused_1 : LamSyn) (l_law_turns_refused_2 : LamSyn) (l_law_turns_refused_3 : LamSyn) (l_law_turns_refused_4 : LamSyn) (we : DWX) : DTS :=
  (dSeq (dDrop (dBM appendD (dVar 3) (dCons (dKeep P_law_turns_refused (lamQ "_law_turns_refused") l_law_turns_refused_2 ["_law_thing_here", "_law_good"] CL) dNil)))
  (rd_law_turns_refused_4 C_NoTurn C_NoRow C_NoWord P_law_turns_refused CL l_law_turns_refused_0 l_law_turns_refused_1 l_law_turns_refused_2 l_law_turns_refused_3 l_law_turns_refused_4 we))
def rd_law_turns_refused_2 (C_NoTurn : Addr) (C_NoRow : Addr) (C_NoWord : Addr) (P_law_turns_refused : Addr) (CL : List (Str × Addr)) (l_law_turns_refused_0 : LamSyn) (l_law_turns_refused_1 : LamSyn) (l_law_turns_refused_2 : LamSyn) (l_law_turns_refused_3 : LamSyn) (l_law_turns_refused_4 : LamSyn) (we : DWX) : DTS :=
  (dSeq (dDrop (dBM appendD (dVar 3) (dCons (dKeep P_law_turns_refused (lamQ "_law_turns_refused") l_law_turns_refused_1 ["_law_thing_here"] CL) dNil)))
  (rd_law_turns_refused_3 C_NoTurn C_NoRow C_NoWord P_law_turns_refused CL l_law_turns_refused_0 l_law_turns_refused_1 l_law_turns_refused_2 l_law_turns_refused_3 l_law_turns_refused_4 we))
def rd_law_turns_refused_1 (C_NoTurn : Addr) (C_NoRow : Addr) (C_NoWord : Addr) (P_law_turns_refused : Addr) (CL : List (Str × Addr)) (l_law_turns_refused_0 : LamSyn) (l_law_turns_refused_1 : LamSyn) (l_law_turns_refused_2 : LamSyn) (l_law_turns_refused_3 : LamSyn) (l_law_turns_refused_4 : LamSyn) (we : DWX) : DTS :=
  (dSeq (dAsg (dNew (dLst (dCons (dKeep P_law_turns_refused (lamQ "_law_turns_refused") l_law_turns_refused_0 ["_law_thing_here"] CL) dNil))) (gNm 3))
  (rd_law_turns_refused_2 C_NoTurn C_NoRow C_NoWord P_law_turns_refused CL l_law_turns_refused_0 l_law_turns_refused_1 l_law_turns_refused_2 l_law_turns_refused_3 l_law_turns_refused_4 we))
def rd_law_turns_refused (C_NoTurn : Addr) (C_NoRow : Addr) (C_NoWord : Addr) (P_law_turns_refused : Addr) (CL : List (Str × Addr)) (l_law_turns_refused_0 : LamSyn) (l_law_turns_refused_1 : LamSyn) (l_law_turns_refused_2 : LamSyn) (l_law_turns_refused_3 : LamSyn) (l_law_turns_refused_4 : LamSyn) (we : DWX) : DTS :=
  (dSeq (dAsg (dTup (dCons (dC (.str "refused")) (dCons (dC (.str "NoTurn")) dNil))) (gNm 2))
  (rd_law_turns_refused_1 C_NoTurn C_NoRow C_NoWord P_law_turns_refused CL l_law_turns_refused_0 l_law_turns_refused_1 l_law_turns_refused_2 l_law_turns_refused_3 l_law_turns_refused_4 we))
def N_law_steps_refused : List Str := ["_law_many", "_law_pairs_here", "_law_asked", "_law_sign", "_law_book", "_law_there", "_law_due", "_law_one", "_law_made", "_law_found"]
def rd_law_steps_refused_3t2 (C_Book : Addr) (C_NoRow : Addr) (C_NoWord : Addr) (C_NoTurn : Addr) (P_law_steps_refused : Addr) (we : DWX) : DTS :=
  (dIfS (dTruth (dCall sp_law_whole we (dCons (dVar 3) (dCons (dC (.int 0)) (dCons (dOp subD (dVar 0) (dC (.int 1))) dNil))))) (dSetIx (dTup (dCons (dC (.str "told")) (dCons (dOp ixD (dOp ixD (dVar 8) (dVar 3)) (dC (.int 1))) dNil))) (dVar 6) (dC (.int 1))) dNext)
def rd_law_steps_refused_3t1 (C_Book : Addr) (C_NoRow : Addr) (C_NoWord : Addr) (C_NoTurn : Addr) (P_law_steps_refused : Addr) (we : DWX) : DTS :=
  (dSeq (dAsg (dNew (dLst (dCons (dTup (dCons (dC (.str "told")) (dCons (dCN (fun ds m q => q (.tup ds) m) (dComp (iSeq (dVar 8)) (gNm 7) dYes (dOp ixD (dVar 7) (dC (.int 0))) [7])) dNil))) (dCons (dTup (dCons (dC (.str "refused")) (dCons (dC (.str "NoRow")) dNil))) dNil)))) (gNm 6))
  (rd_law_steps_refused_3t2 C_Book C_NoRow C_NoWord C_NoTurn P_law_steps_refused we))
def rd_law_steps_refused_3t (C_Book : Addr) (C_NoRow : Addr) (C_NoWord : Addr) (C_NoTurn : Addr) (P_law_steps_refused : Addr) (we : DWX) : DTS :=
  (dSeq (dAsg (dNew (dComp (iRange1 (dVar 0)) (gNm 7) dYes (dCall sp_law_goes we0 (dCons (dVar 1) (dCons (dVar 2) (dCons (dVar 7) dNil)))) [7])) (gNm 8))
  (rd_law_steps_refused_3t1 C_Book C_NoRow C_NoWord C_NoTurn P_law_steps_refused we))
def rd_law_steps_refused_6 (C_Book : Addr) (C_NoRow : Addr) (C_NoWord : Addr) (C_NoTurn : Addr) (P_law_steps_refused : Addr) (we : DWX) : DTS :=
  (dRet (dOp eqD (dCB reprX (dCons (dVar 9) dNil)) (dCB reprX (dCons (dVar 6) dNil))))
def rd_law_steps_refused_5 (C_Book : Addr) (C_NoRow : Addr) (C_NoWord : Addr) (C_NoTurn : Addr) (P_law_steps_refused : Addr) (we : DWX) : DTS :=
  (dSeq (dDrop (dBM appendD (dVar 9) (dCons (dLam (sp_law_told C_NoRow C_NoTurn C_NoWord) P_law_steps_refused (lamQ "_law_steps_refused") (fun we => (dMethK C_Book "onward" (sp_Book_onward C_Book C_NoRow C_NoWord) we 2 [1, 0] (dVar 4) (dCons (dVar 3) (dCons (dVar 2) dNil))))) dNil)))
  (rd_law_steps_refused_6 C_Book C_NoRow C_NoWord C_NoTurn P_law_steps_refused we))
def rd_law_steps_refused_4 (C_Book : Addr) (C_NoRow : Addr) (C_NoWord : Addr) (C_NoTurn : Addr) (P_law_steps_refused : Addr) (we : DWX) : DTS :=
  (dSeq (dAsg (dNew (dLst (dCons (dLam (sp_law_told C_NoRow C_NoTurn C_NoWord) P_law_steps_refused (lamQ "_law_steps_refused") (fun we => (dMethK C_Book "turn" (sp_Book_turn C_Book C_NoWord) we 1 [0] (dVar 4) (dCons (dVar 2) dNil)))) dNil))) (gNm 9))
  (rd_law_steps_refused_5 C_Book C_NoRow C_NoWord C_NoTurn P_law_steps_refused we))
def rd_law_steps_refused_3 (C_Book : Addr) (C_NoRow : Addr) (C_NoWord : Addr) (C_NoTurn : Addr) (P_law_steps_refused : Addr) (we : DWX) : DTS :=
  (dSeq (dIfS (dTruth (dVar 5)) (rd_law_steps_refused_3t C_Book C_NoRow C_NoWord C_NoTurn P_law_steps_refused we) dNext)
  (rd_law_steps_refused_4 C_Book C_NoRow C_NoWord C_NoTurn P_law_steps_refused we))
def rd_law_steps_refused_2 (C_Book : Addr) (C_NoRow : Addr) (C_NoWord : Addr) (C_NoTurn : Addr) (P_law_steps_refused : Addr) (we : DWX) : DTS :=
  (dSeq (dAsg (dNew (dLst (dCons (dTup (dCons (dC (.str "refused")) (dCons (dC (.str "NoWord")) dNil))) (dCons (dTup (dCons (dC (.str "refused")) (dCons (dC (.str "NoWord")) dNil))) dNil)))) (gNm 6))
  (rd_law_steps_refused_3 C_Book C_NoRow C_NoWord C_NoTurn P_law_steps_refused we))
def rd_law_steps_refused_1 (C_Book : Addr) (C_NoRow : Addr) (C_NoWord : Addr) (C_NoTurn : Addr) (P_law_steps_refused : Addr) (we : DWX) : DTS :=
  (dSeq (dAsg (dAndV (dCall sp_law_whole we (dCons (dVar 2) (dCons (dUn negD (dCB lenD (dCons (dVar 1) dNil))) (dCons (dCB lenD (dCons (dVar 1) dNil)) dNil)))) (dOp neD (dVar 2) (dC (.int 0)))) (gNm 5))
  (rd_law_steps_refused_2 C_Book C_NoRow C_NoWord C_NoTurn P_law_steps_refused we))
def rd_law_steps_refused (C_Book : Addr) (C_NoRow : Addr) (C_NoWord : Addr) (C_NoTurn : Addr) (P_law_steps_refused : Addr) (we : DWX) : DTS :=
  (dSeq (dAsg (dMake C_Book (sp_Book___init__ C_Book) we (dCons (dVar 0) (dCons (dNew (dCL listD (dVar 1))) dNil))) (gNm 4))
  (rd_law_steps_refused_1 C_Book C_NoRow C_NoWord C_NoTurn P_law_steps_refused we))
def N_law_kept : List Str := ["_law_number", "_law_name", "_law_some", "_law_k", "_law_one", "_law_marks"]
def rd_law_kept_2f2 (C_InUse : Addr) (C_NoName : Addr) (C_NoText : Addr) (C_NoBook : Addr) (C_HandError : Addr) (we : DWX) : DTS :=
  (dIfS (dOr (dNot (dTruth (dCB (isiW [((.ref C_NoText), (.ref C_HandError), true), ((.ref C_NoName), (.ref C_HandError), true), ((.ref C_InUse), (.ref C_HandError), true)]) (dCons (dVar 4) (dCons (dC (.ref C_HandError)) dNil))))) (dNot (dTruth (dCB (isiW [((.ref C_NoText), (.type "ValueError"), true), ((.ref C_NoName), (.type "ValueError"), true), ((.ref C_InUse), (.type "ValueError"), true)]) (dCons (dVar 4) (dCons (dC (.ty "ValueError")) dNil)))))) (dRet (dC (.bl false))) dNext)
def rd_law_kept_2f1 (C_InUse : Addr) (C_NoName : Addr) (C_NoText : Addr) (C_NoBook : Addr) (C_HandError : Addr) (we : DWX) : DTS :=
  (dSeq (dIfS (dTest (dOp neD (dVar 5) (dNew (dLst (dCons (dOp eqD (dVar 3) (dC (.int 0))) (dCons (dOp eqD (dVar 3) (dC (.int 1))) (dCons (dOp eqD (dVar 3) (dC (.int 2))) (dCons (dC (.bl false)) dNil)))))))) (dRet (dC (.bl false))) dNext)
  (rd_law_kept_2f2 C_InUse C_NoName C_NoText C_NoBook C_HandError we))
def rd_law_kept_2f (C_InUse : Addr) (C_NoName : Addr) (C_NoText : Addr) (C_NoBook : Addr) (C_HandError : Addr) (we : DWX) : DTS :=
  (dSeq (dAsg (dNew (dLst (dCons (dCB (isiW [((.ref C_NoText), (.ref C_NoText), true), ((.ref C_NoName), (.ref C_NoText), false), ((.ref C_InUse), (.ref C_NoText), false)]) (dCons (dVar 4) (dCons (dC (.ref C_NoText)) dNil))) (dCons (dCB (isiW [((.ref C_NoText), (.ref C_NoName), false), ((.ref C_NoName), (.ref C_NoName), true), ((.ref C_InUse), (.ref C_NoName), false)]) (dCons (dVar 4) (dCons (dC (.ref C_NoName)) dNil))) (dCons (dCB (isiW [((.ref C_NoText), (.ref C_InUse), false), ((.ref C_NoName), (.ref C_InUse), false), ((.ref C_InUse), (.ref C_InUse), true)]) (dCons (dVar 4) (dCons (dC (.ref C_InUse)) dNil))) (dCons (dCB (isiW [((.ref C_NoText), (.ref C_NoBook), false), ((.ref C_NoName), (.ref C_NoBook), false), ((.ref C_InUse), (.ref C_NoBook), false)]) (dCons (dVar 4) (dCons (dC (.ref C_NoBook)) dNil))) dNil)))))) (gNm 5))
  (rd_law_kept_2f1 C_InUse C_NoName C_NoText C_NoBook C_HandError we))
def rd_law_kept_3 (C_InUse : Addr) (C_NoName : Addr) (C_NoText : Addr) (C_NoBook : Addr) (C_HandError : Addr) (we : DWX) : DTS :=
  (dRet (dC (.bl true)))
def rd_law_kept_2 (C_InUse : Addr) (C_NoName : Addr) (C_NoText : Addr) (C_NoBook : Addr) (C_HandError : Addr) (we : DWX) : DTS :=
  (dSeq (dFor (iEnum (dVar 2)) (gTp 2 (gCn (gNm 3) (gCn (gNm 4) gNl))) (rd_law_kept_2f C_InUse C_NoName C_NoText C_NoBook C_HandError we))
  (rd_law_kept_3 C_InUse C_NoName C_NoText C_NoBook C_HandError we))
def rd_law_kept_1 (C_InUse : Addr) (C_NoName : Addr) (C_NoText : Addr) (C_NoBook : Addr) (C_HandError : Addr) (we : DWX) : DTS :=
  (dSeq (dIfS (dTest (dOp neD (dCN reprN (dLst (dCons (dXfO C_NoText "at" (dOp ixD (dVar 2) (dC (.int 0)))) (dCons (dXfO C_NoName "name" (dOp ixD (dVar 2) (dC (.int 1)))) (dCons (dXfO C_InUse "name" (dOp ixD (dVar 2) (dC (.int 2)))) dNil))))) (dCN reprN (dLst (dCons (dVar 0) (dCons (dVar 1) (dCons (dVar 1) dNil))))))) (dRet (dC (.bl false))) dNext)
  (rd_law_kept_2 C_InUse C_NoName C_NoText C_NoBook C_HandError we))
def rd_law_kept (C_InUse : Addr) (C_NoName : Addr) (C_NoText : Addr) (C_NoBook : Addr) (C_HandError : Addr) (we : DWX) : DTS :=
  (dSeq (dAsg (dNew (dLst (dCons (dNewO C_NoText "at" (dCons (dVar 0) dNil)) (dCons (dNewO C_NoName "name" (dCons (dVar 1) dNil)) (dCons (dNewO C_InUse "name" (dCons (dVar 1) dNil)) dNil))))) (gNm 2))
  (rd_law_kept_1 C_InUse C_NoName C_NoText C_NoBook C_HandError we))
def N_law : List Str := ["_law_script", "_law_k", "_law_state_here", "_law_asked", "_law_sign", "_law_thing_here", "_law_good", "_law_number", "_law_many", "_law_pairs_here"]
def rd_law_0f9 (C_Book : Addr) (C_NoTurn : Addr) (C_NoRow : Addr) (C_NoWord : Addr) (P_law_steps_refused : Addr) (P_law_turns_refused : Addr) (we : DWX) : DTS :=
  (dIfS (dNot (dTruth (dCall (sp_law_steps_refused C_Book C_NoRow C_NoWord P_law_steps_refused) we (dCons (dVar 8) (dCons (dVar 9) (dCons (dVar 3) (dCons (dVar 4) dNil))))))) (dRet (dC (.bl false))) dNext)
def rd_law_0f8 (C_Book : Addr) (C_NoTurn : Addr) (C_NoRow : Addr) (C_NoWord : Addr) (P_law_steps_refused : Addr) (P_law_turns_refused : Addr) (we : DWX) : DTS :=
  (dSeq (dAsg (dCall sp_law_pairs we (dCons (dVar 2) dNil)) (gTp 2 (gCn (gNm 8) (gCn (gNm 9) gNl))))
  (rd_law_0f9 C_Book C_NoTurn C_NoRow C_NoWord P_law_steps_refused P_law_turns_refused we))
def rd_law_0f7 (C_Book : Addr) (C_NoTurn : Addr) (C_NoRow : Addr) (C_NoWord : Addr) (P_law_steps_refused : Addr) (P_law_turns_refused : Addr) (we : DWX) : DTS :=
  (dSeq (dIfS (dNot (dTruth (dCall sp_law_kept we (dCons (dVar 7) (dCons (dSlX (dC (.str "abcxyz")) dNoPart (dPart (dCall sp_law_next we (dCons (dVar 2) (dCons (dC (.int 7)) dNil))))) dNil))))) (dRet (dC (.bl false))) dNext)
  (rd_law_0f8 C_Book C_NoTurn C_NoRow C_NoWord P_law_steps_refused P_law_turns_refused we))
def rd_law_0f6 (C_Book : Addr) (C_NoTurn : Addr) (C_NoRow : Addr) (C_NoWord : Addr) (P_law_steps_refused : Addr) (P_law_turns_refused : Addr) (we : DWX) : DTS :=
  (dSeq (dAsg (dCall sp_law_next we (dCons (dVar 2) (dCons (dC (.int 1000)) dNil))) (gNm 7))
  (rd_law_0f7 C_Book C_NoTurn C_NoRow C_NoWord P_law_steps_refused P_law_turns_refused we))
def rd_law_0f5 (C_Book : Addr) (C_NoTurn : Addr) (C_NoRow : Addr) (C_NoWord : Addr) (P_law_steps_refused : Addr) (P_law_turns_refused : Addr) (we : DWX) : DTS :=
  (dSeq (dIfS (dNot (dTruth (dCall (sp_law_turns_refused C_NoTurn P_law_turns_refused) we (dCons (dVar 5) (dCons (dVar 6) dNil))))) (dRet (dC (.bl false))) dNext)
  (rd_law_0f6 C_Book C_NoTurn C_NoRow C_NoWord P_law_steps_refused P_law_turns_refused we))
def rd_law_0f4 (C_Book : Addr) (C_NoTurn : Addr) (C_NoRow : Addr) (C_NoWord : Addr) (P_law_steps_refused : Addr) (P_law_turns_refused : Addr) (we : DWX) : DTS :=
  (dSeq (dAsg (dCall sp_law_turn we (dCons (dVar 2) (dCons (dOp addD (dC (.int 2)) (dCall sp_law_next we (dCons (dVar 2) (dCons (dC (.int 3)) dNil)))) dNil))) (gNm 6))
  (rd_law_0f5 C_Book C_NoTurn C_NoRow C_NoWord P_law_steps_refused P_law_turns_refused we))
def rd_law_0f3 (C_Book : Addr) (C_NoTurn : Addr) (C_NoRow : Addr) (C_NoWord : Addr) (P_law_steps_refused : Addr) (P_law_turns_refused : Addr) (we : DWX) : DTS :=
  (dSeq (dAsg (dCall sp_law_thing we (dCons (dVar 2) dNil)) (gNm 5))
  (rd_law_0f4 C_Book C_NoTurn C_NoRow C_NoWord P_law_steps_refused P_law_turns_refused we))
def rd_law_0f2 (C_Book : Addr) (C_NoTurn : Addr) (C_NoRow : Addr) (C_NoWord : Addr) (P_law_steps_refused : Addr) (P_law_turns_refused : Addr) (we : DWX) : DTS :=
  (dSeq (dAsg (dOp ixD (dNew (dLst (dCons (dOp subD (dCall sp_law_next we (dCons (dVar 2) (dCons (dC (.int 8)) dNil))) (dC (.int 2))) (dCons (dCall sp_law_odd we (dCons (dVar 2) dNil)) dNil)))) (dOp fdivD (dCall sp_law_next we (dCons (dVar 2) (dCons (dC (.int 4)) dNil))) (dC (.int 3)))) (gNm 4))
  (rd_law_0f3 C_Book C_NoTurn C_NoRow C_NoWord P_law_steps_refused P_law_turns_refused we))
def rd_law_0f1 (C_Book : Addr) (C_NoTurn : Addr) (C_NoRow : Addr) (C_NoWord : Addr) (P_law_steps_refused : Addr) (P_law_turns_refused : Addr) (we : DWX) : DTS :=
  (dSeq (dAsg (dOp ixD (dNew (dLst (dCons (dOp subD (dCall sp_law_next we (dCons (dVar 2) (dCons (dC (.int 15)) dNil))) (dC (.int 7))) (dCons (dCall sp_law_odd we (dCons (dVar 2) dNil)) dNil)))) (dOp fdivD (dCall sp_law_next we (dCons (dVar 2) (dCons (dC (.int 4)) dNil))) (dC (.int 3)))) (gNm 3))
  (rd_law_0f2 C_Book C_NoTurn C_NoRow C_NoWord P_law_steps_refused P_law_turns_refused we))
def rd_law_0f (C_Book : Addr) (C_NoTurn : Addr) (C_NoRow : Addr) (C_NoWord : Addr) (P_law_steps_refused : Addr) (P_law_turns_refused : Addr) (we : DWX) : DTS :=
  (dSeq (dAsg (dCall sp_law_state we (dCons (dVar 0) (dCons (dVar 1) dNil))) (gNm 2))
  (rd_law_0f1 C_Book C_NoTurn C_NoRow C_NoWord P_law_steps_refused P_law_turns_refused we))
def rd_law_1 (C_Book : Addr) (C_NoTurn : Addr) (C_NoRow : Addr) (C_NoWord : Addr) (P_law_steps_refused : Addr) (P_law_turns_refused : Addr) (we : DWX) : DTS :=
  (dRet (dC (.bl true)))
def rd_law (C_Book : Addr) (C_NoTurn : Addr) (C_NoRow : Addr) (C_NoWord : Addr) (P_law_steps_refused : Addr) (P_law_turns_refused : Addr) (we : DWX) : DTS :=
  (dSeq (dFor (iRange1 (dCB max2D (dCons (dC (.int 1)) (dCons (dCB lenD (dCons (dVar 0) dNil)) dNil)))) (gNm 1) (rd_law_0f C_Book C_NoTurn C_NoRow C_NoWord P_law_steps_refused P_law_turns_refused we))
  (rd_law_1 C_Book C_NoTurn C_NoRow C_NoWord P_law_steps_refused P_law_turns_refused we))

theorem rdok_is_whole {ds m q qe} (h : sp_is_whole ds m q qe) : rd_is_whole (fun cls _ m => qe cls m) (defEnds q) (startD N_is_whole ds) m := by
  obtain ⟨d, e0, h1, hq⟩ := sp1_at h
  clear h
  subst e0
  show rd_is_whole _ (defEnds q) [some d] m
  unfold kn at h1
  cases d with
  | ref a =>
    cases e : m a with
    | none => simp [tyS, e] at h1
    | some o =>
      cases o with
      | lst xs => unfold rd_is_whole; walk_at "rd"; simp only [e]; exact defEnds_here hq
      | dK kvs => unfold rd_is_whole; walk_at "rd"; simp only [e]; exact defEnds_here hq
      | dF kvs => unfold rd_is_whole; walk_at "rd"; simp only [e]; exact defEnds_here hq
      | _ => simp [tyS, e] at h1
  | ty n => simp [tyS] at h1
  | _ => unfold rd_is_whole; walk_at "rd"; exact defEnds_here hq
theorem rdok_is_between {ds m q qe} (h : sp_is_between ds m q qe) : rd_is_between (fun cls _ m => qe cls m) (defEnds q) (startD N_is_between ds) m := by
  obtain ⟨d, l, u, e0, h1, i, j, e1, e2, hq⟩ := sp3_at h
  clear h
  subst e0 e1 e2
  show rd_is_between _ (defEnds q) [some d, some (.int i), some (.int j)] m
  unfold rd_is_between
  walk_at "rd"
  refine ⟨h1, ?_⟩
  cases d with
  | int k =>
    simp only [isWhole, if_true]
    walk_at "rd"
    by_cases e : i ≤ k
    · simp only [e, decide_true, if_true]
      refine defEnds_here ?_
      simpa [betw, e] using hq
    · simp only [e, decide_false, Bool.false_eq_true, if_false]
      refine defEnds_here ?_
      simpa [betw, e] using hq
  | _ => exact defEnds_here hq
theorem isTurnD_tup {xs : List D} (h : ¬ (2 ≤ xs.length ∧ xs.length ≤ 4)) : isTurnD (.tup xs) = false := by
  cases e : intsOf xs with
  | none => simp only [isTurnD, e]
  | some ns =>
    have := intsOf_ok e
    rw [this, List.length_map] at h
    simp only [isTurnD, e, isTurnL]
    by_cases h1 : 2 ≤ ns.length
    · have h2 : ¬ ns.length ≤ 4 := fun z => h ⟨h1, z⟩
      simp [h2]
    · simp [h1]
theorem isTurnD_ftup {xs : List D} (h : ¬ (2 ≤ xs.length ∧ xs.length ≤ 4)) : isTurnD (.ftup xs) = false := by
  cases e : intsOf xs with
  | none => simp only [isTurnD, e]
  | some ns =>
    have := intsOf_ok e
    rw [this, List.length_map] at h
    simp only [isTurnD, e, isTurnL]
    by_cases h1 : 2 ≤ ns.length
    · have h2 : ¬ ns.length ≤ 4 := fun z => h ⟨h1, z⟩
      simp [h2]
    · simp [h1]
theorem rdok_is_turn {ds m q qe} (h : sp_is_turn ds m q qe) : rd_is_turn (fun cls _ m => qe cls m) (defEnds q) (startD N_is_turn ds) m := by
  obtain ⟨d, e0, h1, hq⟩ := sp1_at h
  clear h
  subst e0
  show rd_is_turn _ (defEnds q) [some d, none] m
  unfold rd_is_turn
  unfold knT at h1
  cases d with
  | ref a =>
    unfold kn at h1
    cases e : m a with
    | none => simp [tyS, e] at h1
    | some o =>
      cases o with
      | lst xs => walk_at "rd"; simp only [e, Bool.not_false, if_true]; exact defEnds_here hq
      | dK kvs => walk_at "rd"; simp only [e, Bool.not_false, if_true]; exact defEnds_here hq
      | dF kvs => walk_at "rd"; simp only [e, Bool.not_false, if_true]; exact defEnds_here hq
      | _ => simp [tyS, e] at h1
  | ty n => simp [kn, tyS] at h1
  | tup xs =>
    have h1 : ∀ e ∈ xs, kn m e := h1
    walk_at "rd"
    by_cases l1 : (2 : Int) ≤ xs.length
    · by_cases l2 : (xs.length : Int) ≤ 4
      · simp only [l1, l2, decide_true, if_true, Bool.not_true, Bool.false_eq_true, if_false]
        refine comp_map (fun d => .bl (betw d 0 (xs.length - 1))) trivial xs [] (fun d hd K hK => ?_) (by rw [List.length_nil]; exact sized (by omega)) ?_
        · walk_at "rd"
          exact ⟨h1 d hd, _, _, rfl, rfl, hK⟩
        · rw [List.nil_append, show (xs.map fun d => D.bl (betw d 0 (xs.length - 1))) = (xs.map fun d => betw d 0 (xs.length - 1)).map D.bl by rw [List.map_map]; rfl, boolsOf_map]
          simp only [List.all_map, Function.comp_def, id]
          by_cases ha : xs.all (fun d => betw d 0 (xs.length - 1)) = true
          · simp only [ha, Bool.not_true, Bool.false_eq_true, if_false]
            obtain ⟨ns, e, hn⟩ := intsOf_all ha
            have ex := intsOf_ok e
            subst ex
            rw [intsOf_map]
            rw [List.length_map] at *
            refine ⟨by omega, fun ns' hp hs => ⟨?_, ?_⟩⟩
            · exact RgOk.of_le (by omega) (by omega) (by omega) (by omega)
            · rw [Int.toNat_natCast, rngD0]
              refine eqLs_ints ?_
              refine defEnds_here ?_
              have hq : q (.bl (isTurnL ns)) m := by
                have := hq
                simp only [isTurnD, intsOf_map] at this
                exact this
              have e2 : isTurnL ns = decide (ns' = rngI ns.length) := by
                have l1' : 2 ≤ ns.length := by omega
                have l2' : ns.length ≤ 4 := by omega
                simp only [isTurnL, l1', l2', decide_true, Bool.true_and]
                by_cases hq : ns.Perm (rngI ns.length)
                · rw [decide_eq_true hq, decide_eq_true (sorted_one (hp.trans hq) hs (rngI_sorted _))]
                · rw [decide_eq_false hq, decide_eq_false (fun z => hq (by rw [z] at hp; exact hp.symm))]
              rw [e2] at hq
              simpa using hq
          · have ha' : xs.all (fun d => betw d 0 (xs.length - 1)) = false := by simpa using ha
            simp only [ha', Bool.not_false, if_true]
            refine defEnds_here ?_
            have e2 : isTurnD (.tup xs) = false := by
              cases e : intsOf xs with
              | none => simp only [isTurnD, e]
              | some ns =>
                have ex := intsOf_ok e
                subst ex
                simp only [isTurnD, e]
                cases ht : isTurnL ns with
                | false => rfl
                | true =>
                  have hb := turn_bounds ht
                  have := all_of_ints (i := 0) (j := ns.length - 1) (fun n hn => by have := hb n hn; omega)
                  rw [List.length_map] at ha'
                  rw [this] at ha'
                  cases ha'
            rw [e2] at hq
            exact hq
      · have e2 := isTurnD_tup (xs := xs) (by omega)
        rw [e2] at hq
        simp only [l1, l2, decide_true, decide_false, if_true, Bool.not_false]
        exact defEnds_here hq
    · have e2 := isTurnD_tup (xs := xs) (by omega)
      rw [e2] at hq
      simp only [l1, decide_false, Bool.false_eq_true, if_false, Bool.not_false, if_true]
      exact defEnds_here hq
  | ftup xs =>
    have h1 : ∀ e ∈ xs, kn m e := h1
    walk_at "rd"
    by_cases l1 : (2 : Int) ≤ xs.length
    · by_cases l2 : (xs.length : Int) ≤ 4
      · simp only [l1, l2, decide_true, if_true, Bool.not_true, Bool.false_eq_true, if_false]
        refine comp_map (fun d => .bl (betw d 0 (xs.length - 1))) trivial xs [] (fun d hd K hK => ?_) (by rw [List.length_nil]; exact sized (by omega)) ?_
        · walk_at "rd"
          exact ⟨h1 d hd, _, _, rfl, rfl, hK⟩
        · rw [List.nil_append, show (xs.map fun d => D.bl (betw d 0 (xs.length - 1))) = (xs.map fun d => betw d 0 (xs.length - 1)).map D.bl by rw [List.map_map]; rfl, boolsOf_map]
          simp only [List.all_map, Function.comp_def, id]
          by_cases ha : xs.all (fun d => betw d 0 (xs.length - 1)) = true
          · simp only [ha, Bool.not_true, Bool.false_eq_true, if_false]
            obtain ⟨ns, e, hn⟩ := intsOf_all ha
            have ex := intsOf_ok e
            subst ex
            rw [intsOf_map]
            rw [List.length_map] at *
            refine ⟨by omega, fun ns' hp hs => ⟨?_, ?_⟩⟩
            · exact RgOk.of_le (by omega) (by omega) (by omega) (by omega)
            · rw [Int.toNat_natCast, rngD0]
              refine eqLs_ints ?_
              refine defEnds_here ?_
              have hq : q (.bl (isTurnL ns)) m := by
                have := hq
                simp only [isTurnD, intsOf_map] at this
                exact this
              have e2 : isTurnL ns = decide (ns' = rngI ns.length) := by
                have l1' : 2 ≤ ns.length := by omega
                have l2' : ns.length ≤ 4 := by omega
                simp only [isTurnL, l1', l2', decide_true, Bool.true_and]
                by_cases hq : ns.Perm (rngI ns.length)
                · rw [decide_eq_true hq, decide_eq_true (sorted_one (hp.trans hq) hs (rngI_sorted _))]
                · rw [decide_eq_false hq, decide_eq_false (fun z => hq (by rw [z] at hp; exact hp.symm))]
              rw [e2] at hq
              simpa using hq
          · have ha' : xs.all (fun d => betw d 0 (xs.length - 1)) = false := by simpa using ha
            simp only [ha', Bool.not_false, if_true]
            refine defEnds_here ?_
            have e2 : isTurnD (.ftup xs) = false := by
              cases e : intsOf xs with
              | none => simp only [isTurnD, e]
              | some ns =>
                have ex := intsOf_ok e
                subst ex
                simp only [isTurnD, e]
                cases ht : isTurnL ns with
                | false => rfl
                | true =>
                  have hb := turn_bounds ht
                  have := all_of_ints (i := 0) (j := ns.length - 1) (fun n hn => by have := hb n hn; omega)
                  rw [List.length_map] at ha'
                  rw [this] at ha'
                  cases ha'
            rw [e2] at hq
            exact hq
      · have e2 := isTurnD_ftup (xs := xs) (by omega)
        rw [e2] at hq
        simp only [l1, l2, decide_true, decide_false, if_true, Bool.not_false]
        exact defEnds_here hq
    · have e2 := isTurnD_ftup (xs := xs) (by omega)
      rw [e2] at hq
      simp only [l1, decide_false, Bool.false_eq_true, if_false, Bool.not_false, if_true]
      exact defEnds_here hq
  | _ => walk_at "rd"; exact defEnds_here hq

theorem at10 (a : D) : atI [a] 0 = some a := atI_nat (j := 0) rfl
theorem at20 (a b : D) : atI [a, b] 0 = some a := atI_nat (j := 0) rfl
theorem at21 (a b : D) : atI [a, b] 1 = some b := atI_nat (j := 1) rfl
theorem ix10 : ixN 1 0 = some 0 := rfl
theorem itemsD (xs : List Int) (i : Nat) (h : i < xs.length) : atI (xs.map D.int) (i : Int) = some (.int (xs.getD i 0)) := by
  refine atI_nat ?_
  rw [List.getElem?_map, List.getElem?_eq_getElem h, List.getD_eq_getElem?_getD, List.getElem?_eq_getElem h]
  rfl
theorem itemsI (xs : List Int) (i : Int) (h0 : 0 ≤ i) (h : i < xs.length) : atI (xs.map D.int) i = some (.int (xs.getD i.toNat 0)) := by
  have := itemsD xs i.toNat (by omega)
  rwa [Int.toNat_of_nonneg h0] at this
theorem map_eraseIdx (l : List Int) (k : Nat) : (l.map D.int).eraseIdx k = (l.eraseIdx k).map D.int := by
  induction l generalizing k with
  | nil => rfl
  | cons x l ih => cases k with
    | zero => rfl
    | succ k => simp only [List.map_cons, List.eraseIdx_cons_succ, ih]
theorem isTurn_of_perm {many : Nat} (h2 : 2 ≤ many) (h4 : many ≤ 4) {ns : List Int} (h : ns.Perm (rngI many)) : isTurnL ns = true ∧ ns.length = many := by
  have hl : ns.length = many := by have := h.length_eq; rwa [rngI_length] at this
  refine ⟨?_, hl⟩
  unfold isTurnL
  rw [hl]
  simp [h2, h4, h]
theorem rdok_law_next {ds m q qe} (h : sp_law_next ds m q qe) : rd_law_next (fun cls _ m => qe cls m) (defEnds q) (startD N_law_next ds) m := by
  obtain ⟨d, k, e0, a, n, i, e1, ha, e2, i0, i1, hq⟩ := sp2_at h
  clear h
  subst e0 e1 e2
  show rd_law_next _ (defEnds q) [some (.ref a), some (.int i), none] m
  unfold rd_law_next
  walk_at "rd"
  simp only [ha, at10, List.length_cons, List.length_nil, Nat.zero_add, ix10]
  exact ⟨i0, ⟨i0, i1⟩, defEnds_here (hq _ _ (Int.emod_nonneg _ (by omega)) (Int.emod_lt_of_pos _ i0))⟩
theorem rdok_law_turn {ds m q qe} (h : sp_law_turn ds m q qe) : rd_law_turn (fun cls _ m => qe cls m) (defEnds q) (startD N_law_turn ds) m := by
  obtain ⟨d, k, e0, a, n, i, e1, ha, e2, i4, hq⟩ := sp2_at h
  clear h
  subst e0 e1 e2
  show rd_law_turn _ (defEnds q) [some (.ref a), some (.int i), none, none] m
  unfold rd_law_turn
  walk_at "rd"
  refine ⟨RgOk.of_le (by omega) (by omega) (by omega) (by omega), fun a1 h1 => ⟨by omega, by omega, ?_⟩⟩
  have na1 : a ≠ a1 := Mem.live_ne ha h1
  have g1 : ∀ x y, ((m.set a x).set a1 y) a = some x := fun x y => by rw [Mem.set_ne na1, Mem.set_same]
  have w1 : ∀ x y x', ((m.set a x).set a1 y).set a x' = (m.set a x').set a1 y := fun x y x' => by rw [Mem.set_comm na1.symm, Mem.set_set]
  refine comp_inv (fun items acc m' => ∃ (left done : List Int) (n' : Int), acc = done.map D.int ∧ left.length = items.length ∧ (left ++ done).Perm (rngI i) ∧ m' = (m.set a (.lst [.int n'])).set a1 (.lst (left.map D.int))) (fun _ _ _ _ => trivial) (fun acc m' hP => ?_) (fun d r acc m' hP N hN => ?_) _ _ _ ?_
  · obtain ⟨left, done, n', rfl, hl, hp, rfl⟩ := hP
    have e : left = [] := List.length_eq_zero_iff.mp hl
    subst e
    rw [List.nil_append] at hp
    exact defEnds_le (Mem.le_set (by rw [Mem.set_ne na1.symm]; exact h1)) (hq done n' hp)
  · obtain ⟨left, done, n', rfl, hl, hp, rfl⟩ := hP
    have hlen : left.length + done.length = i := by have := hp.length_eq; rwa [List.length_append, rngI_length] at this
    rw [List.length_cons] at hl
    walk_at "rd"
    simp only [Mem.set_same]
    refine ⟨⟨a1, _, rfl, Mem.set_same⟩, a, n', _, rfl, g1 _ _, rfl, by rw [List.length_map]; omega, by rw [List.length_map]; omega, fun r n'' r0 rl => ?_⟩
    rw [w1]
    simp only [Mem.set_same, List.length_map]
    have hpos : (0 : Int) < ((left.length : Nat) : Int) := by omega
    refine ⟨hpos, ?_⟩
    have k0 := Int.emod_nonneg (r + 1) (show ((left.length : Nat) : Int) ≠ 0 by omega)
    have k1 := Int.emod_lt_of_pos (r + 1) hpos
    generalize (r + 1) % ((left.length : Nat) : Int) = k at k0 k1
    have hk : k.toNat < left.length := by omega
    unfold popAtD
    refine ⟨_, k.toNat, .int left[k.toNat], Mem.set_same, by omega, by omega, seqIx k0 (by rw [List.length_map]; exact k1), ?_, ?_⟩
    · rw [List.getElem?_map, List.getElem?_eq_getElem hk]; rfl
    · rw [Mem.set_set, map_eraseIdx]
      refine ⟨by exact sized' (by omega), hN _ _ ⟨left.eraseIdx k.toNat, done ++ [left[k.toNat]], n'', by rw [List.map_append]; rfl, ?_, pop_perm hp (List.getElem?_eq_getElem hk), rfl⟩⟩
      rw [List.length_eraseIdx_of_lt hk]
      omega
  · exact ⟨rngI i, [], n, rfl, by rw [rngD_length, Int.toNat_natCast, rngI_length], by simp, by rw [Mem.set_id ha, Int.toNat_natCast, rngD0]⟩
theorem state_go {m : Mem} {q : DQ} {qe : Value → Mem → Prop} {ns : List Int} {i : Nat} (hq : ∀ (n : Int) (a : Addr), m a = none → q (.ref a) (m.set a (.lst [.int n]))) (c : Int) :
    rd_law_state_2 (fun cls _ m => qe cls m) (defEnds q) [some (.rol (ns.map D.int)), some (.int i), some (.int c), none, none, none, none, none] m := by
  unfold rd_law_state_2
  walk_at "rd"
  refine ⟨by exact sized (by decide), fun a1 h1 => ⟨by exact sized (by decide), fun a2 h2 => ?_⟩⟩
  have n12 : a1 ≠ a2 := fun e => by subst e; rw [Mem.set_same] at h2; cases h2
  have e1 : ∀ (M : Mem) (o u : MO), ((M.set a1 o).set a2 u) a1 = some o := fun M o u => by rw [Mem.set_ne n12, Mem.set_same]
  refine ⟨_, _, e1 _ _ _, Mem.set_same, by exact sized (by decide), fun p hp => ?_⟩
  simp only [Mem.set_same]
  generalize hK : ((m.set a1 _).set a2 _).set p _ = K
  have l1 : m.le K := by rw [← hK]; exact Mem.le_trans (Mem.le_trans (Mem.le_set h1) (Mem.le_set h2)) (Mem.le_set hp)
  have kp : K p = some (.lst ([.int 2147483629, .int 2147483587, .int 2147483579, .int 2147483563, .int 2147483549, .int 2147483543, .int 2147483497, .int 2147483489] ++ [.int 2147483477, .int 2147483423, .int 2147483399, .int 2147483353, .int 2147483323, .int 2147483269, .int 2147483249])) := by rw [← hK]; exact Mem.set_same
  refine for_inv (fun items ρ m' => ∃ (j : Nat) (ps : List Int) (number : Int) (x5 x6 x7 : Option D), items = enumFrom j (ps.map D.int) ∧ (∀ x ∈ ps, (0 : Int) < x ∧ x < 2147483648) ∧ j + ps.length ≤ 15 ∧ m' = K ∧
    ρ = [some (.rol (ns.map D.int)), some (.int i), some (.int c), some (.ref p), some (.int number), x5, x6, x7]) (fun _ _ m' hP => ?_) (fun ρ m' hP => ?_) (fun d r ρ m' hP N hN => ?_) _ _ _ ?_
  · obtain ⟨j, ps, number, x5, x6, x7, ei, hps, hj, rfl, rfl⟩ := hP
    exact kp
  · obtain ⟨j, ps, number, x5, x6, x7, ei, hps, hj, rfl, rfl⟩ := hP
    walk_at "rd"
    exact ⟨by exact sized (by decide), fun a ha => defEnds_le (Mem.set_le l1) (hq _ a (Mem.le_none l1 ha))⟩
  · obtain ⟨j, ps, number, x5, x6, x7, ei, hps, hj, rfl, rfl⟩ := hP
    cases ps with
    | nil => cases ei
    | cons p0 ps =>
      rw [List.map_cons, enumFrom] at ei
      cases ei
      have hp0 := hps p0 List.mem_cons_self
      rw [List.length_cons] at hj
      walk_at "rd"
      have m1 := Int.emod_nonneg (c + 104729 * (i : Int) + 1299709 * (j : Int) + 17) (show p0 ≠ 0 by omega)
      have m2 := Int.emod_lt_of_pos (c + 104729 * (i : Int) + 1299709 * (j : Int) + 17) hp0.1
      generalize (c + 104729 * (i : Int) + 1299709 * (j : Int) + 17) % p0 = z at m1 m2
      exact ⟨cmulL _ (by omega), cmulL _ (by omega), hp0.1, cmulR _ (by omega), cmulL _ (by omega), cmulL _ (by omega), cmulL _ (by omega), hp0.1, dn_here (hN _ _ ⟨j + 1, ps, _, _, _, _, rfl, fun x hx => hps x (List.mem_cons_of_mem _ hx), by omega, rfl, rfl⟩)⟩
  · refine ⟨0, [2147483629, 2147483587, 2147483579, 2147483563, 2147483549, 2147483543, 2147483497, 2147483489, 2147483477, 2147483423, 2147483399, 2147483353, 2147483323, 2147483269, 2147483249], 0, none, none, none, rfl, ?_, by decide, rfl, rfl⟩
    decide
theorem state_main {m : Mem} {q : DQ} {qe : Value → Mem → Prop} {ns : List Int} {i : Nat} (hq : ∀ (n : Int) (a : Addr), m a = none → q (.ref a) (m.set a (.lst [.int n]))) (c : Int) :
    rd_law_state_1 (fun cls _ m => qe cls m) (defEnds q) [some (.rol (ns.map D.int)), some (.int i), some (.int c), none, none, none, none, none] m := by
  unfold rd_law_state_1
  walk_at "rd"
  refine ⟨cpow18, ?_⟩
  have go := state_go (qe := qe) (ns := ns) (i := i) hq c
  by_cases h1 : (10 : Int) ^ (18 : Int).toNat ≤ c
  · rw [decide_eq_true h1]
    by_cases h2 : (i : Int) < (((ns.map D.int).length : Nat) : Int)
    · rw [decide_eq_true h2]
      simp only [if_true]
      exact ⟨cpow18, by exact sized (by decide), fun a ha => defEnds_here (hq _ a ha)⟩
    · rw [decide_eq_false h2]
      simp only [if_true, Bool.false_eq_true, if_false]
      exact go
  · rw [decide_eq_false h1]
    simp only [Bool.false_eq_true, if_false]
    exact go
theorem rdok_law_state {ds m q qe} (h : sp_law_state ds m q qe) : rd_law_state (fun cls _ m => qe cls m) (defEnds q) (startD N_law_state ds) m := by
  obtain ⟨d, k, e0, ns, i, e1, e2, hq⟩ := sp2_at h
  clear h
  subst e0 e1 e2
  show rd_law_state _ (defEnds q) [some (.rol (ns.map D.int)), some (.int i), none, none, none, none, none, none] m
  unfold rd_law_state
  walk_at "rd"
  refine ⟨nilOk_ints ns, ?_⟩
  cases ns with
  | nil => exact state_main (qe := qe) (ns := []) hq 0
  | cons n ns =>
    simp only [List.map_cons, List.isEmpty_cons, Bool.not_false, if_true]
    have hpos : (0 : Int) < (((D.int n :: ns.map D.int).length : Nat) : Int) := by rw [List.length_cons]; omega
    refine ⟨by simpa using hpos, ?_⟩
    have e := itemsI (n :: ns) ((i : Int) % ((D.int n :: ns.map D.int).length : Nat)) (Int.emod_nonneg _ (by omega)) (by have := Int.emod_lt_of_pos (i : Int) hpos; simpa using this)
    rw [List.map_cons] at e
    simp only [List.length_cons, List.length_map] at e ⊢
    rw [e]
    exact state_main (qe := qe) (ns := n :: ns) hq (if ((n :: ns).getD (↑i % ((ns.length + 1 : Nat) : Int)).toNat 0) < 0 then -((n :: ns).getD (↑i % ((ns.length + 1 : Nat) : Int)).toNat 0) else ((n :: ns).getD (↑i % ((ns.length + 1 : Nat) : Int)).toNat 0))

theorem turn_len {ns : List Int} (ok : isTurnL ns = true) : 2 ≤ ns.length ∧ ns.length ≤ 4 := by
  simp only [isTurnL, Bool.and_eq_true, decide_eq_true_eq] at ok
  exact ok.1
theorem turn_mem {t : List Int} (ok : isTurnL t = true) {k : Int} (h0 : 0 ≤ k) (h1 : k < t.length) : k ∈ t := by
  simp only [isTurnL, Bool.and_eq_true, decide_eq_true_eq] at ok
  exact ok.2.mem_iff.mpr (mem_rngI.mpr ⟨h0, h1⟩)
theorem pair_at {P : Prs} {s : Int} (h : IsStep P s) : atI (P.map pairD) ((if s < 0 then -s else s) - 1) = some (pairD (pairOf P s)) ∧ pairOf P s ∈ P := by
  obtain ⟨h0, h1, h2⟩ := h
  have hk : s.natAbs - 1 < P.length := by omega
  have e : ((if s < 0 then -s else s) - 1 : Int) = ((s.natAbs - 1 : Nat) : Int) := by split <;> omega
  have eg : P[s.natAbs - 1]? = some (pairOf P s) := by
    unfold pairOf
    rw [List.getD_eq_getElem?_getD, List.getElem?_eq_getElem hk]
    rfl
  refine ⟨?_, List.mem_of_getElem? eg⟩
  rw [e]
  exact atI_nat (by rw [List.getElem?_map, eg]; rfl)
theorem look_many (many : Nat) (b : Addr) : (bookF many b).lookup ("many" : Str) = some (D.int (many : Nat)) := by
  unfold bookF
  rw [List.lookup_cons, show (("many" : Str) == ("many" : Str)) = true by decide +kernel]
theorem look_pairs (many : Nat) (b : Addr) : (bookF many b).lookup ("pairs" : Str) = some (D.ref b) := by
  unfold bookF
  rw [List.lookup_cons, show (("pairs" : Str) == ("many" : Str)) = false by decide +kernel, List.lookup_cons, show (("pairs" : Str) == ("pairs" : Str)) = true by decide +kernel]
theorem look_m {many : Nat} {b : Addr} {x : Str} (h1 : (x == ("many" : Str)) = false) (h2 : (x == ("pairs" : Str)) = false) : (bookF many b).lookup x = none := by
  unfold bookF
  rw [List.lookup_cons, h1, List.lookup_cons, h2]
  rfl
theorem rdok_undone {ds m q qe} (h : sp_undone ds m q qe) : rd_undone (fun cls _ m => qe cls m) (defEnds q) (startD N_undone ds) m := by
  obtain ⟨d, e0, t, e1, ok, hq⟩ := sp1_at h
  clear h
  subst e0 e1
  have len := turn_len ok
  show rd_undone _ (defEnds q) [some (.ftup (t.map D.int)), none] m
  unfold rd_undone
  walk_at "re"
  refine ⟨by omega, by omega, ?_⟩
  rw [rngD0]
  refine comp_map (fun d => match d with | .int k => .int (t.idxOf k : Nat) | d => d) trivial _ [] (fun d hd K hK => ?_) (by rw [List.length_nil, List.length_map, rngI_length]; exact sized (by omega)) ?_
  · obtain ⟨k, hk, rfl⟩ := List.mem_map.mp hd
    obtain ⟨k0, k1⟩ := mem_rngI.mp hk
    unfold dTix
    walk_at "re"
    refine ⟨trivial, ?_⟩
    rw [tixD_t]
    exact ⟨turn_mem ok k0 k1, hK⟩
  · rw [List.nil_append, List.map_map]
    refine defEnds_here ?_
    have e : (rngI t.length).map ((fun d => match d with | .int k => D.int (t.idxOf k : Nat) | d => d) ∘ D.int) = (undoneL t).map D.int := by
      unfold undoneL
      rw [List.map_map]
      rfl
    rw [e]
    exact hq
theorem stepD_betw {h : Nat} {d : D} : stepD h d = true → betw d (-(h : Int)) h = true := by
  intro z
  cases d with
  | int s =>
    unfold stepD isStepB at z
    rw [Bool.and_eq_true] at z
    exact z.1
  | _ => cases z
theorem stepD_nb {h : Nat} {d : D} (z : betw d (-(h : Int)) h = false) : stepD h d = false := by
  cases e : stepD h d with
  | false => rfl
  | true => rw [stepD_betw e] at z; cases z
theorem rdok_Book_has_step (C : Addr) {ds m q qe} (h : sp_Book_has_step C ds m q qe) : rd_Book_has_step C (fun cls _ m => qe cls m) (defEnds q) (startD N_Book_has_step ds) m := by
  obtain ⟨d, e, e0, many, P, ⟨a, b, e1, ha, hb⟩, ho, hq⟩ := sp2_at h
  clear h
  subst e0 e1
  show rd_Book_has_step C _ (defEnds q) [some (.ref a), some e] m
  unfold rd_Book_has_step
  unfold dFld
  walk_at "re"
  refine ⟨a, _, _, rfl, ha, look_pairs many b, ?_⟩
  rw [lenD_r hb]
  walk_at "re"
  refine ⟨a, _, _, rfl, ha, look_pairs many b, ?_⟩
  rw [lenD_r hb]
  walk_at "re"
  refine ⟨ho, _, _, rfl, rfl, ?_⟩
  cases hb' : betw e (-(P.length : Int)) P.length with
  | false =>
    walk_at "re"
    rw [stepD_nb hb'] at hq
    exact defEnds_here hq
  | true =>
    walk_at "re"
    cases e with
    | int s =>
      walk_at "re"
      have e : stepD P.length (.int s) = !(s == 0) := by
        unfold betw at hb'
        unfold stepD isStepB
        dsimp only at hb' ⊢
        rw [hb', Bool.true_and]
      rw [e] at hq
      exact defEnds_here hq
    | _ => cases hb'
theorem rdok_Book_has_letter (C : Addr) {ds m q qe} (h : sp_Book_has_letter C ds m q qe) : rd_Book_has_letter C (fun cls _ m => qe cls m) (defEnds q) (startD N_Book_has_letter ds) m := by
  obtain ⟨d, e, e0, many, P, ⟨a, b, e1, ha, hb⟩, ho, hq⟩ := sp2_at h
  clear h
  subst e0 e1
  show rd_Book_has_letter C _ (defEnds q) [some (.ref a), some e] m
  unfold rd_Book_has_letter
  unfold dFld
  walk_at "re"
  refine ⟨a, _, _, rfl, ha, look_many many b, ?_⟩
  walk_at "re"
  exact ⟨ho, _, _, rfl, rfl, defEnds_here hq⟩
theorem isStepB_of {P : Prs} {s : Int} (h : IsStep P s) : isStepB P.length s = true := by
  obtain ⟨h0, h1, h2⟩ := h
  unfold isStepB
  simp [h0, h1, h2]


theorem all_const {α : Type} {f : α → D} {xs : List α} : (xs.map f).map (fun _ => D.bl true) = (xs.map fun _ => true).map D.bl := by
  rw [List.map_map, List.map_map]
  rfl
theorem all_trues {α : Type} (xs : List α) : (xs.map fun _ => true).all _root_.id = true := by simp
theorem knT_f (m : Mem) (ns : List Int) : knT m (.ftup (ns.map D.int)) := by
  show ∀ e ∈ ns.map D.int, kn m e
  intro e he
  obtain ⟨n, _, rfl⟩ := List.mem_map.mp he
  rfl
theorem isTurnD_f (ns : List Int) : isTurnD (.ftup (ns.map D.int)) = isTurnL ns := by simp only [isTurnD, intsOf_map]
theorem rdok_is_hand {ds m q qe} (h : sp_is_hand ds m q qe) : rd_is_hand (fun cls _ m => qe cls m) (defEnds q) (startD N_is_hand ds) m := by
  obtain ⟨d, a, b, e0, many, hands, p, e1, e2, e3, ok, hq⟩ := sp3_at h
  clear h
  subst e0 e1 e2 e3
  have len := turn_len ok.turn
  rw [ok.len1] at len
  show rd_is_hand _ (defEnds q) [some (pairD p), some (.int many), some (.int hands), none] m
  unfold rd_is_hand pairD
  walk_at "re"
  simp only [show ((((2 : Nat) : Int) == 2)) = true from rfl, Bool.not_true, Bool.false_eq_true, if_false, ixD_t (at20 _ _), ixD_t (at21 _ _)]
  refine ⟨knT_f m _, ?_⟩
  rw [isTurnD_f, ok.turn]
  walk_at "re"
  simp only [ok.len1, ok.len2, beq_self_eq_true, Bool.not_true, Bool.false_eq_true, if_false]
  refine comp_map (fun _ => .bl true) trivial _ [] (fun d' hd K hK => ?_) (by rw [List.length_nil, List.length_map, ok.len2]; exact sized (by omega)) ?_
  · obtain ⟨s, hs, rfl⟩ := List.mem_map.mp hd
    walk_at "re"
    refine ⟨rfl, _, _, rfl, rfl, ?_⟩
    have := ok.on s hs
    have e : betw (.int s) (-(hands : Int)) hands = true := by simp [betw, this]
    rw [e]
    exact hK
  · rw [List.nil_append, all_const, boolsOf_map]
    dsimp only
    rw [all_trues]
    exact defEnds_here hq
theorem isi_ref_lt {a : Addr} {m : Mem} {xs : List D} {q : DQ} (h : m a = some (.lst xs)) : isiD [.ref a, .tup [.ty "list", .ty "tuple"]] m q = q (.bl true) m := by
  have e : tyS m (.ref a) = some "list" := by unfold tyS; dsimp only; rw [h]
  show (match tyS m (.ref a) with
    | some a => match isAnyB a [.ty "list", .ty "tuple"] with
      | some b => q (.bl b) m
      | none => False
    | none => False) = _
  rw [e]
  rfl
theorem hands_isi {m : Mem} {d : D} {P : Prs} {q : DQ} (h : HandsD m d P) : isiD [d, .tup [.ty "list", .ty "tuple"]] m q = q (.bl true) m := by
  rcases h with ⟨a, rfl, ha⟩ | rfl
  · exact isi_ref_lt ha
  · rfl
theorem hands_len {m : Mem} {d : D} {P : Prs} {q : DQ} (h : HandsD m d P) : lenD [d] m q = q (.int P.length) m := by
  rcases h with ⟨a, rfl, ha⟩ | rfl
  · rw [lenD_r ha, List.length_map]
  · rw [lenD_t, List.length_map]
theorem hands_it {m : Mem} {d : D} {P : Prs} {k : Itd → Prop} (h : HandsD m d P) (hk : ∀ chk : Mem → Prop, chk m → k ⟨P.map pairD, chk⟩) : itOf m d k := by
  rcases h with ⟨a, rfl, ha⟩ | rfl
  · rw [itOf_r ha]; exact hk _ ha
  · rw [itOf_t]; exact hk _ trivial
theorem hands_list {m : Mem} {d : D} {P : Prs} {k : List D → Mem → Prop} (h : HandsD m d P) : listD d m k = k (P.map pairD) m := by
  rcases h with ⟨a, rfl, ha⟩ | rfl
  · exact listD_r ha
  · rfl
theorem rdok_are_hands {ds m q qe} (h : sp_are_hands ds m q qe) : rd_are_hands (fun cls _ m => qe cls m) (defEnds q) (startD N_are_hands ds) m := by
  obtain ⟨d, a, e0, many, P, hh, e2, ok, hq⟩ := sp2_at h
  clear h
  subst e0 e2
  show rd_are_hands _ (defEnds q) [some d, some (.int many), none] m
  unfold rd_are_hands
  walk_at "re"
  refine ⟨by exact sized (by decide), ?_⟩
  rw [hands_isi hh]
  walk_at "re"
  rw [hands_len hh]
  walk_at "re"
  have l : ¬ ((6 : Int) < (P.length : Nat)) := by have := ok.most; omega
  simp only [l, decide_false, Bool.false_eq_true, if_false]
  refine hands_it hh fun chk hchk => ?_
  dsimp only
  refine comp_map (fun _ => .bl true) hchk _ [] (fun d' hd K hK => ?_) (by rw [List.length_nil, List.length_map]; have := ok.most; exact sized (by omega)) ?_
  · obtain ⟨p, hp, rfl⟩ := List.mem_map.mp hd
    walk_at "re"
    rw [hands_len hh]
    exact ⟨many, P.length, p, rfl, rfl, rfl, ok.pair p hp, hK⟩
  · rw [List.nil_append, all_const, boolsOf_map]
    dsimp only
    rw [all_trues]
    exact defEnds_here hq
theorem rdok_Book___init__ (C : Addr) {ds m q qe} (h : sp_Book___init__ C ds m q qe) : rd_Book___init__ C (fun cls _ m => qe cls m) (defEnds q) (startD N_Book___init__ ds) m := by
  obtain ⟨d, e, f, e0, many, P, a, e1, ha, e2, hh, ok, hq⟩ := sp3_at h
  clear h
  subst e0 e1 e2
  show rd_Book___init__ C _ (defEnds q) [some (.ref a), some (.int many), some f] m
  unfold rd_Book___init__ dSetF
  walk_at "re"
  refine ⟨rfl, _, _, rfl, rfl, ?_⟩
  have e : betw (.int (many : Nat)) 2 4 = true := by have := ok.two; have := ok.four; simp [betw]; omega
  rw [e]
  walk_at "re"
  refine ⟨many, P, hh, rfl, ok, ?_⟩
  walk_at "re"
  refine ⟨a, [], rfl, ha, by decide, ?_⟩
  have hh2 : HandsD (m.set a (.ins C (putFD "many" (.int (many : Nat)) []))) f P := by
    rcases hh with ⟨g, rfl, hg⟩ | rfl
    · exact .inl ⟨g, rfl, by rw [Mem.set_ne (fun z => by subst z; rw [ha] at hg; cases hg)]; exact hg⟩
    · exact .inr rfl
  rw [hands_list hh2]
  refine fun b hb => ?_
  obtain ⟨hb, nb⟩ := Mem.set_none hb
  refine ⟨a, _, rfl, by rw [Mem.set_ne nb.symm, Mem.set_same], by show (1 : Nat) < 1000; decide, ?_⟩
  refine ⟨_, ?_, hq b hb⟩
  rw [Mem.set_comm nb.symm, Mem.set_set]
  have e4 : putFD "pairs" (.ref b) (putFD "many" (.int (many : Nat)) []) = bookF many b := by
    show putFD "pairs" (.ref b) [("many", .int (many : Nat))] = _
    unfold putFD
    rw [if_neg (by decide +kernel)]
    rfl
  rw [e4]
  exact Mem.le_refl _
theorem letD_ok {many : Nat} {x : Int} (h : IsLet many x) : letD many (.int x) = true := by
  have := h.1; have := h.2
  show (decide (0 ≤ x) && decide (x ≤ (many : Int) - 1)) = true
  simp; omega
/-! ### all turns -/
theorem fin_of {n : Nat} {x : Int} (h0 : 0 ≤ x) (h1 : x < n) : ∃ i : Fin n, x = ((i.1 : Nat) : Int) := ⟨⟨x.toNat, by omega⟩, by simp; omega⟩
theorem turn_cases {p : List Int → Bool} (h2 : ∀ a b : Fin 2, isTurnL [((a.1 : Nat) : Int), ((b.1 : Nat) : Int)] = true → p [((a.1 : Nat) : Int), ((b.1 : Nat) : Int)] = true)
    (h3 : ∀ a b c : Fin 3, isTurnL [((a.1 : Nat) : Int), ((b.1 : Nat) : Int), ((c.1 : Nat) : Int)] = true → p [((a.1 : Nat) : Int), ((b.1 : Nat) : Int), ((c.1 : Nat) : Int)] = true)
    (h4 : ∀ a b c d : Fin 4, isTurnL [((a.1 : Nat) : Int), ((b.1 : Nat) : Int), ((c.1 : Nat) : Int), ((d.1 : Nat) : Int)] = true → p [((a.1 : Nat) : Int), ((b.1 : Nat) : Int), ((c.1 : Nat) : Int), ((d.1 : Nat) : Int)] = true)
    {ns : List Int} (ok : isTurnL ns = true) : p ns = true := by
  have hb := turn_bounds ok
  have hl : 2 ≤ ns.length ∧ ns.length ≤ 4 := by
    simp only [isTurnL, Bool.and_eq_true, decide_eq_true_eq] at ok
    exact ok.1
  match ns, hl, hb, ok with
  | [x, y], _, hb, ok =>
    obtain ⟨a, rfl⟩ := fin_of (n := 2) (hb x (by simp)).1 (hb x (by simp)).2
    obtain ⟨b, rfl⟩ := fin_of (n := 2) (hb y (by simp)).1 (hb y (by simp)).2
    exact h2 a b ok
  | [x, y, z], _, hb, ok =>
    obtain ⟨a, rfl⟩ := fin_of (n := 3) (hb x (by simp)).1 (hb x (by simp)).2
    obtain ⟨b, rfl⟩ := fin_of (n := 3) (hb y (by simp)).1 (hb y (by simp)).2
    obtain ⟨c, rfl⟩ := fin_of (n := 3) (hb z (by simp)).1 (hb z (by simp)).2
    exact h3 a b c ok
  | [x, y, z, u], _, hb, ok =>
    obtain ⟨a, rfl⟩ := fin_of (n := 4) (hb x (by simp)).1 (hb x (by simp)).2
    obtain ⟨b, rfl⟩ := fin_of (n := 4) (hb y (by simp)).1 (hb y (by simp)).2
    obtain ⟨c, rfl⟩ := fin_of (n := 4) (hb z (by simp)).1 (hb z (by simp)).2
    obtain ⟨d, rfl⟩ := fin_of (n := 4) (hb u (by simp)).1 (hb u (by simp)).2
    exact h4 a b c d ok
  | [], hl, _, _ => exact absurd hl.1 (by decide)
  | [_], hl, _, _ => exact absurd hl.1 (by simp)
  | _ :: _ :: _ :: _ :: _ :: _, hl, _, _ => exact absurd hl.2 (by simp only [List.length_cons]; omega)

/-! ### reprs of equal things -/
theorem ne_str {s : Str} {m : Mem} {q : DQ} (h : q (.bl false) m) : neD (.str s) (.str s) m q := by
  show q (.bl (!decide (s = s))) m
  rw [decide_eq_true rfl]
  exact h
def okRepr (p : PyData) : Bool := p.showable && !p.hasDict && decide (p.depth ≤ 50) && p.leavesShort 8 && decide (p.weight ≤ 100000)
theorem reprOf_ok {d : D} {m : Mem} {q : DQ} {p : PyData} (e : pyD m d = some p) (ok : okRepr p = true) (h : q (.str p.shown) m) : reprOf d m q := by
  unfold reprOf
  simp only [okRepr, Bool.and_eq_true, decide_eq_true_eq, Bool.not_eq_true'] at ok
  rw [e]
  exact ⟨ok.1.1.1.1, ok.1.1.1.2, ok.1.1.2, PyData.shown_fits (by decide) (by decide) ok.1.2 (Nat.le_trans ok.2 (by decide)), h⟩
def pyT (r : List Int) : PyData := .tuple (r.map PyData.int)
theorem step_shown {i : Int} (h0 : -6 ≤ i) (h1 : i ≤ 6) : (PyData.shown (.int i)).length ≤ 8 ∧ i.natAbs.log2 < 1920 ∧ PyData.weight (.int i) ≤ 3 := by
  have : i = -6 ∨ i = -5 ∨ i = -4 ∨ i = -3 ∨ i = -2 ∨ i = -1 ∨ i = 0 ∨ i = 1 ∨ i = 2 ∨ i = 3 ∨ i = 4 ∨ i = 5 ∨ i = 6 := by omega
  rcases this with rfl | rfl | rfl | rfl | rfl | rfl | rfl | rfl | rfl | rfl | rfl | rfl | rfl <;> decide +kernel
theorem okInts : ∀ ns : List Int, (∀ x ∈ ns, -6 ≤ x ∧ x ≤ 6) → PyData.showableAll (ns.map PyData.int) = true ∧ PyData.hasDictAll (ns.map PyData.int) = false ∧ PyData.leavesShortAll 8 (ns.map PyData.int) = true ∧ PyData.weightAll (ns.map PyData.int) ≤ 5 * ns.length := by
  intro ns
  induction ns with
  | nil => intro _; simp [PyData.showableAll, PyData.hasDictAll, PyData.leavesShortAll, PyData.weightAll]
  | cons n ns ih =>
    intro h
    obtain ⟨i1, i2, i3, i4⟩ := ih fun x hx => h x (List.mem_cons_of_mem _ hx)
    have hn := h n List.mem_cons_self
    obtain ⟨s1, s2, s3⟩ := step_shown hn.1 hn.2
    simp only [List.map_cons, PyData.showableAll, PyData.hasDictAll, PyData.leavesShortAll, PyData.weightAll, PyData.showable, PyData.hasDict, PyData.leavesShort, i1, i2, i3, s1, s2, decide_true, Bool.and_self, Bool.or_self, List.length_cons]
    refine ⟨trivial, trivial, trivial, by omega⟩
def OkW (r : List Int) : Prop := r.length ≤ 100 ∧ ∀ x ∈ r, -6 ≤ x ∧ x ≤ 6
/-! ### things that repr tells, put together -/
structure OkP (p : PyData) (w d : Nat) : Prop where
  sh : p.showable = true
  nd : p.hasDict = false
  ls : p.leavesShort 8 = true
  wt : p.weight ≤ w
  dp : p.depth ≤ d
structure OkPs (ps : List PyData) (w d : Nat) : Prop where
  sh : PyData.showableAll ps = true
  nd : PyData.hasDictAll ps = false
  ls : PyData.leavesShortAll 8 ps = true
  wt : PyData.weightAll ps ≤ w
  dp : PyData.depthAll ps ≤ d
theorem OkP.ok {p : PyData} {w d : Nat} (h : OkP p w d) (hw : w ≤ 100000) (hd : d ≤ 50) : okRepr p = true := by
  simp only [okRepr, h.sh, h.nd, h.ls, Bool.not_false, Bool.and_self, Bool.true_and, Bool.and_true]
  rw [decide_eq_true (Nat.le_trans h.dp hd), decide_eq_true (Nat.le_trans h.wt hw)]; rfl
theorem OkP.mono {p : PyData} {w d w' d' : Nat} (h : OkP p w d) (hw : w ≤ w') (hd : d ≤ d') : OkP p w' d' := ⟨h.sh, h.nd, h.ls, Nat.le_trans h.wt hw, Nat.le_trans h.dp hd⟩
theorem OkPs.nil {w d : Nat} : OkPs [] w d := ⟨rfl, rfl, rfl, Nat.zero_le _, Nat.zero_le _⟩
theorem OkPs.cons {p : PyData} {ps : List PyData} {w w' v d : Nat} (h : OkP p w d) (hs : OkPs ps w' d) (hv : w + 1 + w' ≤ v) : OkPs (p :: ps) v d := by
  refine ⟨?_, ?_, ?_, ?_, ?_⟩
  · rw [PyData.showableAll, h.sh, hs.sh]; rfl
  · rw [PyData.hasDictAll, h.nd, hs.nd]; rfl
  · rw [PyData.leavesShortAll, h.ls, hs.ls]; rfl
  · have := h.wt; have := hs.wt; rw [PyData.weightAll]; omega
  · have := h.dp; have := hs.dp; rw [PyData.depthAll]; omega
theorem OkPs.tup {ps : List PyData} {w d e : Nat} (h : OkPs ps w d) (he : d + 1 ≤ e) : OkP (.tuple ps) w e := ⟨by rw [PyData.showable]; exact h.sh, by rw [PyData.hasDict]; exact h.nd, by rw [PyData.leavesShort]; exact h.ls, by rw [PyData.weight]; exact h.wt, by have := h.dp; rw [PyData.depth]; omega⟩
theorem OkPs.lst {ps : List PyData} {w d e : Nat} (h : OkPs ps w d) (he : d + 1 ≤ e) : OkP (.list ps) w e := ⟨by rw [PyData.showable]; exact h.sh, by rw [PyData.hasDict]; exact h.nd, by rw [PyData.leavesShort]; exact h.ls, by rw [PyData.weight]; exact h.wt, by have := h.dp; rw [PyData.depth]; omega⟩
theorem okP_row {r : List Int} (h : OkW r) : OkP (pyT r) 500 1 := by
  obtain ⟨g1, g2, g3, g4⟩ := okInts r h.2
  have := h.1
  refine OkPs.tup (d := 0) ⟨g1, g2, g3, by omega, ?_⟩ (Nat.le_refl _)
  rw [depth_ints]; exact Nat.le_refl _
theorem okP_int {i : Int} (h0 : -6 ≤ i) (h1 : i ≤ 6) : OkP (.int i) 3 0 := by
  obtain ⟨s1, s2, s3⟩ := step_shown h0 h1
  exact ⟨by rw [PyData.showable, decide_eq_true s2], rfl, by rw [PyData.leavesShort, decide_eq_true s1], s3, Nat.le_refl _⟩
/-! ### shapes of data that == looks at -/
structure ShP (p : PyData) (d : Nat) : Prop where
  lay : p.canLay0 = true
  dp : p.depth ≤ d
structure ShPs (ps : List PyData) (d : Nat) : Prop where
  lay : PyData.canLayAll0 ps = true
  dp : PyData.depthAll ps ≤ d
theorem ShP.ok {p : PyData} {d : Nat} (h : ShP p d) (hd : d ≤ 64) : SeqAt.shaped p = true := by
  unfold SeqAt.shaped
  rw [h.lay, decide_eq_true (Nat.le_trans h.dp hd)]; rfl
theorem ShP.mono {p : PyData} {d e : Nat} (h : ShP p d) (hd : d ≤ e) : ShP p e := ⟨h.lay, Nat.le_trans h.dp hd⟩
theorem ShPs.nil {d : Nat} : ShPs [] d := ⟨rfl, Nat.zero_le _⟩
theorem ShPs.cons {p : PyData} {ps : List PyData} {d : Nat} (h : ShP p d) (hs : ShPs ps d) : ShPs (p :: ps) d := by
  refine ⟨?_, ?_⟩
  · rw [PyData.canLayAll0, h.lay, hs.lay]; rfl
  · have := h.dp; have := hs.dp; rw [PyData.depthAll]; omega
theorem ShPs.all {ps : List PyData} {d : Nat} (h : ∀ p ∈ ps, ShP p d) : ShPs ps d := by
  induction ps with
  | nil => exact .nil
  | cons p ps ih => exact .cons (h p List.mem_cons_self) (ih fun x hx => h x (List.mem_cons_of_mem _ hx))
theorem ShPs.tup {ps : List PyData} {d e : Nat} (h : ShPs ps d) (he : d + 1 ≤ e) : ShP (.tuple ps) e := ⟨by rw [PyData.canLay0]; exact h.lay, by have := h.dp; rw [PyData.depth]; omega⟩
theorem ShPs.lst {ps : List PyData} {d e : Nat} (h : ShPs ps d) (he : d + 1 ≤ e) : ShP (.list ps) e := ⟨by rw [PyData.canLay0]; exact h.lay, by have := h.dp; rw [PyData.depth]; omega⟩
theorem ShP.int {i : Int} {d : Nat} : ShP (.int i) d := ⟨rfl, Nat.zero_le _⟩
theorem ShP.non {d : Nat} : ShP .none d := ⟨rfl, Nat.zero_le _⟩
theorem ShP.bool {b : Bool} {d : Nat} : ShP (.bool b) d := ⟨rfl, Nat.zero_le _⟩
theorem ShP.ints (ns : List Int) : ShP (.tuple (ns.map PyData.int)) 1 := (ShPs.all (d := 0) fun p hp => by
  obtain ⟨n, _, rfl⟩ := List.mem_map.mp hp
  exact .int).tup (Nat.le_refl _)
theorem OddD.le {m M : Mem} {d : D} (h : OddD m d) (l : m.le M) : OddD M d := by
  rcases h with h | h | h | h | h | ⟨a, e, g⟩ | ⟨a, e, g⟩ | h
  · exact .inl h
  · exact .inr (.inl h)
  · exact .inr (.inr (.inl h))
  · exact .inr (.inr (.inr (.inl h)))
  · exact .inr (.inr (.inr (.inr (.inl h))))
  · exact .inr (.inr (.inr (.inr (.inr (.inl ⟨a, e, l _ _ g⟩)))))
  · exact .inr (.inr (.inr (.inr (.inr (.inr (.inl ⟨a, e, l _ _ g⟩))))))
  · exact .inr (.inr (.inr (.inr (.inr (.inr (.inr h))))))
theorem OddD.int {m : Mem} {i : Int} (h0 : -1000 ≤ i) (h1 : i ≤ 2000000000000) : OddD m (.int i) := .inr (.inr (.inr (.inr (.inr (.inr (.inr ⟨i, rfl, h0, h1⟩))))))
def NoTup (m : Mem) (d : D) : Prop := Lh.kn m d ∧ isA d m "tuple" = some false
theorem NoTup.shape {m : Mem} {d : D} (h : NoTup m d) : (∀ xs, d ≠ .tup xs) ∧ ∀ xs, d ≠ .ftup xs := by
  refine ⟨fun xs e => ?_, fun xs e => ?_⟩ <;> subst e <;> exact nomatch h.2
theorem NoTup.turn {m : Mem} {d : D} (h : NoTup m d) : isTurnD d = false := by
  obtain ⟨h1, h2⟩ := h.shape
  cases d with
  | tup xs => exact absurd rfl (h1 xs)
  | ftup xs => exact absurd rfl (h2 xs)
  | _ => rfl
theorem NoTup.knT {m : Mem} {d : D} (h : NoTup m d) : knT m d := by
  obtain ⟨h1, h2⟩ := h.shape
  cases d with
  | tup xs => exact absurd rfl (h1 xs)
  | ftup xs => exact absurd rfl (h2 xs)
  | _ => exact h.1
theorem isA_le {m M : Mem} {d : D} {T : String} {b : Bool} (h : isA d m T = some b) (l : m.le M) : isA d M T = some b := by
  cases d with
  | ref a =>
    unfold isA at h ⊢
    have e : tyS m (.ref a) = tyS M (.ref a) := by
      show (match m a with | some (.lst _) => some "list" | some (.dK _) => some "dict" | some (.dF _) => some "dict" | _ => none) = (match M a with | some (.lst _) => some "list" | some (.dK _) => some "dict" | some (.dF _) => some "dict" | _ => none)
      cases g : m a with
      | some o => rw [l _ _ g]
      | none =>
        exfalso
        have : tyS m (.ref a) = none := by
          show (match m a with | some (.lst _) => some "list" | some (.dK _) => some "dict" | some (.dF _) => some "dict" | _ => none) = none
          rw [g]
        rw [this] at h
        cases h
    rw [← e]; exact h
  | _ => exact h
theorem kn_le {m M : Mem} {d : D} (h : Lh.kn m d) (l : m.le M) : Lh.kn M d := by
  cases d with
  | ref a =>
    unfold Lh.kn at h ⊢
    have : ∀ M : Mem, tyS M (.ref a) = (match M a with | some (.lst _) => some "list" | some (.dK _) => some "dict" | some (.dF _) => some "dict" | _ => none) := fun _ => rfl
    rw [this] at h ⊢
    cases g : m a with
    | some o => rw [g] at h; rw [l _ _ g]; exact h
    | none => rw [g] at h; cases h
  | _ => exact h
theorem ixG_L {a : Addr} {i : Int} {m : Mem} {q : DQ} {xs : List D} {d : D} (h : m a = some (.lst xs)) (e : atI xs i = some d) : ixG (.ref a) (.int i) m q = q d m := by
  unfold ixG; rw [getO_L h]; exact ixD_r h e
theorem odd_int {m : Mem} {i : Int} (h0 : -1000 ≤ i) (h1 : i ≤ 2000000000000) : OddD m (.int i) := OddD.int h0 h1
theorem cut_drop {α : Type} (xs : List α) {i : Int} (h0 : 0 ≤ i) : cutL xs (some i) none = xs.drop i.toNat := by
  unfold cutL
  show (xs.drop (if i < 0 then (i + (xs.length : Int)).toNat else min i.toNat xs.length)).take (xs.length - (if i < 0 then (i + (xs.length : Int)).toNat else min i.toNat xs.length)) = _
  rw [if_neg (by omega)]
  rcases Nat.le_total i.toNat xs.length with h | h
  · rw [Nat.min_eq_left h, List.take_of_length_le (by rw [List.length_drop]; omega)]
  · rw [Nat.min_eq_right h, List.drop_length, List.drop_of_length_le h, List.take_nil]
theorem ofString_inj {s t : String} (h : PySem.Str.ofString s = PySem.Str.ofString t) : s = t := by
  rw [PySem.Str.ofString_eq_toList, PySem.Str.ofString_eq_toList] at h
  have h1 : (s.toList.map Char.toNat).toArray = (t.toList.map Char.toNat).toArray := congrArg PySem.Str.cps h
  have h2 : s.toList.map Char.toNat = t.toList.map Char.toNat := by simpa using h1
  have h3 : s.toList = t.toList := by
    refine (List.map_inj_right fun a b hab => ?_).mp h2
    exact Char.ext (UInt32.toNat_inj.mp hab)
  exact String.toList_inj.mp h3
theorem num_inj {i j : Int} (h : (PySem.Str.ofString (toString i)) = PySem.Str.ofString (toString j)) : i = j := Int.repr_inj.mp (ofString_inj h)
def oddTxts : List Str := ["True", "False", "None", reprText "1", reprText "", (PyData.tuple [.int 1]).shown, (PyData.list [.int 0]).shown, "{}"]
theorem pyWs_strs (f : Addr → Option PyData) : ∀ ns : List Str, pyWs f (ns.map D.str) = some (ns.map PyData.str)
  | [] => rfl
  | n :: ns => by simp only [List.map_cons, pyWs, pyW, pyWs_strs f ns]
theorem strOk_of (s : String) : PyData.strOk (PySem.Str.ofString s) = true := by
  rw [PySem.Str.ofString_eq_toList]
  unfold PyData.strOk
  simp only [List.all_toArray', List.all_map, List.all_eq_true, Function.comp, decide_eq_true_eq]
  intro c _
  rcases c.valid with h | h
  · exact Nat.lt_trans h (by decide)
  · exact h.2
theorem canLay_strs : ∀ ns : List Str, ns.all PyData.strOk = true → PyData.canLayAll0 (ns.map PyData.str) = true
  | [], _ => by simp [PyData.canLayAll0]
  | n :: ns, h => by
    rw [List.all_cons, Bool.and_eq_true] at h
    simp [PyData.canLayAll0, PyData.canLay0, canLay_strs ns h.2, h.1]
theorem depth_strs : ∀ ns : List Str, PyData.depthAll (ns.map PyData.str) = 0
  | [] => by simp [PyData.depthAll]
  | n :: ns => by simp [PyData.depthAll, PyData.depth, depth_strs ns]
theorem shaped_strs {ns : List Str} (h : ns.all PyData.strOk = true) : SeqAt.shaped (.list (ns.map PyData.str)) = true := by
  simp [SeqAt.shaped, PyData.canLay0, PyData.depth, canLay_strs ns h, depth_strs]
/-- the text of a thing: a number's, or one of the odd ones -/
def TxtR (d : D) (t : Str) : Prop := PyData.strOk t = true ∧ ((∃ i : Int, d = .int i ∧ t = PySem.Str.ofString (toString i)) ∨ ((∀ i : Int, d ≠ .int i) ∧ t ∈ oddTxts))
theorem odd_rep {m : Mem} {d : D} (o : OddD m d) {q : DQ} (hq : ∀ t, TxtR d t → q (.str t) m) : reprX [d] m q := by
  rcases o with ⟨b, rfl⟩ | rfl | rfl | rfl | rfl | ⟨a, rfl, g⟩ | ⟨a, rfl, g⟩ | ⟨i, rfl, h0, h1⟩
  · rw [reprX_b]
    cases b
    · exact hq _ ⟨strOk_of _, .inr ⟨(fun _ h => by cases h), by simp [oddTxts]⟩⟩
    · exact hq _ ⟨strOk_of _, .inr ⟨(fun _ h => by cases h), by simp [oddTxts]⟩⟩
  · rw [reprX_n]
    exact hq _ ⟨strOk_of _, .inr ⟨(fun _ h => by cases h), by simp [oddTxts]⟩⟩
  · rw [reprX_s]
    exact ⟨by decide +kernel, hq _ ⟨by decide +kernel, .inr ⟨(fun _ h => by cases h), by simp [oddTxts]⟩⟩⟩
  · rw [reprX_s]
    exact ⟨by decide +kernel, hq _ ⟨by decide +kernel, .inr ⟨(fun _ h => by cases h), by simp [oddTxts]⟩⟩⟩
  · rw [reprX_t]
    exact reprOf_ok (p := .tuple [.int 1]) rfl (by decide +kernel) (hq _ ⟨by decide +kernel, .inr ⟨(fun _ h => by cases h), by simp [oddTxts]⟩⟩)
  · rw [reprX_l g]
    exact reprOf_ok (p := .list [.int 0]) (pyD_refInts (ns := [0]) g) (by decide +kernel) (hq _ ⟨by decide +kernel, .inr ⟨(fun _ h => by cases h), by simp [oddTxts]⟩⟩)
  · rw [reprX_d g]
    exact hq _ ⟨strOk_of _, .inr ⟨(fun _ h => by cases h), by simp [oddTxts]⟩⟩
  · rw [reprX_i]
    refine ⟨?_, hq _ ⟨strOk_of _, .inl ⟨i, rfl, rfl⟩⟩⟩
    refine Nat.lt_of_le_of_lt (m := 41) ?_ (by decide)
    have : i.natAbs < 2 ^ 42 := by omega
    rcases Nat.eq_zero_or_pos i.natAbs with z | z
    · rw [z]; decide
    · exact Nat.le_of_lt_succ ((Nat.log2_lt (by omega)).mpr this)
theorem rng_D (n : Nat) : rngD 0 n = (rngI n).map D.int := by
  unfold rngD rngI
  rw [List.map_map]
  exact List.map_congr_left fun k _ => congrArg D.int (Int.zero_add _)
def txt (k : Int) : Str := PySem.Str.ofString (toString k)
def numT (n : Nat) : List Str := (rngI n).map txt
open Classical in
noncomputable def inv (t : Str) : Int := if h : ∃ k, txt k = t then Classical.choose h else 0
theorem inv_txt (k : Int) : inv (txt k) = k := by
  unfold inv
  rw [dif_pos ⟨k, rfl⟩]
  exact num_inj (Classical.choose_spec (⟨k, rfl⟩ : ∃ k', txt k' = txt k))
theorem inv_map (ns : List Int) : (ns.map txt).map inv = ns := by
  rw [List.map_map]
  conv => rhs; rw [← List.map_id ns]
  exact List.map_congr_left fun k _ => inv_txt k
theorem isTurn_perm {ns : List Int} (h : isTurnL ns = true) : ns.Perm (rngI ns.length) := by
  simp only [isTurnL, Bool.and_eq_true, decide_eq_true_eq] at h
  exact h.2
def srtB (ns : List Int) : Bool := !sortedS (ns.map txt) || decide (ns = rngI ns.length)
theorem srt_all {ns : List Int} (h : isTurnL ns = true) : srtB ns = true := turn_cases (p := srtB) (by decide +kernel) (by decide +kernel) (by decide +kernel) h
theorem odd_num : (oddTxts.all fun t => !(numT 4).contains t) = true := by decide +kernel
theorem turn_txt {ds : List D} {ss ys : List Str} (len : ss.length = ds.length) (hT : ∀ (i : Nat) (d : D) (t : Str), ds[i]? = some d → ss[i]? = some t → TxtR d t) (hp : ys.Perm ss) (hs : sortedS ys = true) (h2 : 2 ≤ ds.length) (h4 : ds.length ≤ 4) :
    decide (ys = numT ds.length) = isTurnD (.tup ds) := by
  have yl : ys.length = ds.length := hp.length_eq.trans len
  by_cases hi : ∃ ns : List Int, ds = ns.map D.int
  · obtain ⟨ns, rfl⟩ := hi
    rw [List.length_map] at *
    have e1 : ss = ns.map txt := by
      apply List.ext_getElem?
      intro i
      rw [List.getElem?_map]
      rcases Nat.lt_or_ge i ns.length with z | z
      · rw [List.getElem?_eq_getElem z]
        have z2 : i < ss.length := by omega
        rw [List.getElem?_eq_getElem z2]
        have := hT i (.int ns[i]) ss[i] (by rw [List.getElem?_map, List.getElem?_eq_getElem z]; rfl) (List.getElem?_eq_getElem z2)
        rcases this.2 with ⟨k, e, et⟩ | ⟨h, _⟩
        · cases e
          rw [et]; rfl
        · exact absurd rfl (h _)
      · rw [List.getElem?_eq_none z, List.getElem?_eq_none (by omega)]; rfl
    subst e1
    have e2 : isTurnD (.tup (ns.map D.int)) = isTurnL ns := by
      unfold isTurnD
      dsimp only
      rw [intsOf_map]
    rw [e2]
    cases hl : isTurnL ns with
    | true =>
      have hn := isTurn_perm hl
      have hq := hp.map inv
      rw [inv_map] at hq
      have ey : ys = (ys.map inv).map txt := by
        rw [List.map_map]
        conv => lhs; rw [← List.map_id ys]
        refine List.map_congr_left fun y hy => ?_
        obtain ⟨k, _, rfl⟩ := List.mem_map.mp (hp.mem_iff.mp hy)
        show txt k = txt (inv (txt k))
        rw [inv_txt]
      have lt : isTurnL (ys.map inv) = true := by
        simp only [isTurnL, Bool.and_eq_true, decide_eq_true_eq]
        refine ⟨⟨by rw [List.length_map]; omega, by rw [List.length_map]; omega⟩, ?_⟩
        rw [List.length_map, yl]
        exact hq.trans hn
      have hb := srt_all lt
      unfold srtB at hb
      rw [← ey, hs, Bool.not_true, Bool.false_or, decide_eq_true_eq, List.length_map, yl] at hb
      refine decide_eq_true ?_
      rw [ey, hb]
      rfl
    | false =>
      refine decide_eq_false fun e => ?_
      subst e
      have hq := hp.map inv
      unfold numT at hq
      rw [inv_map, inv_map] at hq
      have : isTurnL ns = true := by
        simp only [isTurnL, Bool.and_eq_true, decide_eq_true_eq]
        exact ⟨⟨h2, h4⟩, hq.symm⟩
      rw [hl] at this; cases this
  · have e2 : isTurnD (.tup ds) = false := by
      unfold isTurnD
      dsimp only
      cases e : intsOf ds with
      | none => rfl
      | some ns => exact absurd ⟨ns, intsOf_ok e⟩ hi
    rw [e2]
    refine decide_eq_false fun e => hi ?_
    have g : ∀ ds : List D, (∀ d ∈ ds, ∃ i : Int, d = .int i) → ∃ ns : List Int, ds = ns.map D.int := by
      intro ds
      induction ds with
      | nil => intro _; exact ⟨[], rfl⟩
      | cons d ds ih =>
        intro h
        obtain ⟨ns, e⟩ := ih fun x hx => h x (List.mem_cons_of_mem _ hx)
        obtain ⟨i, rfl⟩ := h d List.mem_cons_self
        exact ⟨i :: ns, by rw [e]; rfl⟩
    refine g ds fun d hd => ?_
    obtain ⟨i, hi', rfl⟩ := List.mem_iff_getElem.mp hd
    have z2 : i < ss.length := by omega
    have ht := hT i ds[i] ss[i] (List.getElem?_eq_getElem hi') (List.getElem?_eq_getElem z2)
    rcases ht.2 with ⟨k, e, _⟩ | ⟨_, ho⟩
    · exact ⟨k, e⟩
    · exfalso
      have hy : ss[i] ∈ ys := hp.mem_iff.mpr (List.getElem_mem z2)
      rw [e] at hy
      have h44 : ss[i] ∈ numT 4 := by
        unfold numT at hy ⊢
        obtain ⟨k, hk, ek⟩ := List.mem_map.mp hy
        have := mem_rngI.mp hk
        exact List.mem_map.mpr ⟨k, mem_rngI.mpr ⟨this.1, by omega⟩, ek⟩
      have := List.all_eq_true.mp odd_num _ ho
      simp at this
      exact this h44
theorem eqvAll_strs : ∀ (ns ms : List Str), PyData.eqvAll (ns.map PyData.str) (ms.map PyData.str) = decide (ns = ms)
  | [], [] => by simp [PyData.eqvAll]
  | [], _ :: _ => by simp [PyData.eqvAll]
  | _ :: _, [] => by simp [PyData.eqvAll]
  | n :: ns, m :: ms => by
    rw [List.map_cons, List.map_cons, PyData.eqvAll, eqvAll_strs ns ms]
    by_cases h : n = m
    · subst h
      simp [PyData.eqv]
    · simp [PyData.eqv, h]
theorem strsOf_map : ∀ ns : List Str, strsOf (ns.map D.str) = some ns
  | [] => rfl
  | n :: ns => by rw [List.map_cons, strsOf, strsOf_map ns]
theorem eqLs_strs {ns ms : List Str} {m : Mem} {q : Bool → Prop} (h1 : ns.all PyData.strOk = true) (h2 : ms.all PyData.strOk = true) (h : q (decide (ns = ms))) : eqLs (ns.map D.str) (ms.map D.str) m q := by
  unfold eqLs
  rw [show pyDs m (ns.map D.str) = some (ns.map PyData.str) from pyWs_strs _ _, show pyDs m (ms.map D.str) = some (ms.map PyData.str) from pyWs_strs _ _]
  exact ⟨shaped_strs h1, shaped_strs h2, by rw [eqvAll_strs]; exact h⟩
theorem inG_tN {k : Int} {ns : List Int} {m : Mem} {q : DQ} : inG true (.int k) (.tup (ns.map D.int)) m q = q (.bl (!ns.contains k)) m := by
  unfold inG
  dsimp only [getO, itemsOf]
  rw [intsOf_map]
  rfl

/-! ### what a draw leaves: the drawn cell moves on, all else that was known stays -/
structure Kp (m M : Mem) (a : Addr) : Prop where
  cell : ∃ n, M a = some (.lst [.int n])
  keep : ∀ b o, b ≠ a → m b = some o → M b = some o
theorem Kp.start {m : Mem} {a : Addr} {n : Int} (h : m a = some (.lst [.int n])) : Kp m m a := ⟨⟨n, h⟩, fun _ _ _ h => h⟩
theorem Kp.step {m M : Mem} {a : Addr} (k : Kp m M a) (n : Int) : Kp m (M.set a (.lst [.int n])) a := ⟨⟨n, Mem.set_same⟩, fun b o h e => by rw [Mem.set_ne h]; exact k.keep b o h e⟩
theorem Kp.ne {m M : Mem} {a c : Addr} (k : Kp m M a) (hc : M c = none) : c ≠ a := fun z => by
  subst z; obtain ⟨n, h⟩ := k.cell; rw [h] at hc; cases hc
theorem Kp.none {m M : Mem} {a c : Addr} (k : Kp m M a) (hc : M c = none) : m c = none := by
  cases e : m c with
  | none => rfl
  | some o => rw [k.keep c o (k.ne hc) e] at hc; cases hc
theorem Kp.new {m M : Mem} {a c : Addr} {o : MO} (k : Kp m M a) (hc : M c = .none) : Kp m (M.set c o) a := by
  have nc := k.ne hc
  obtain ⟨n, h⟩ := k.cell
  exact ⟨⟨n, by rw [Mem.set_ne nc.symm]; exact h⟩, fun b u hb e => by
    have h1 := k.keep b u hb e
    rw [Mem.set_ne (fun z => by subst z; rw [h1] at hc; cases hc)]; exact h1⟩
theorem Kp.put {m M : Mem} {a c : Addr} {o : MO} (k : Kp m M a) (hm : m c = .none) (nc : c ≠ a) : Kp m (M.set c o) a := by
  obtain ⟨n, h⟩ := k.cell
  exact ⟨⟨n, by rw [Mem.set_ne nc.symm]; exact h⟩, fun b u hb e => by
    rw [Mem.set_ne (fun z => by subst z; rw [e] at hm; cases hm)]; exact k.keep b u hb e⟩
theorem Kp.trans {m M N : Mem} {a : Addr} (k : Kp m M a) (l : Kp M N a) : Kp m N a := ⟨l.cell, fun b o h e => l.keep b o h (k.keep b o h e)⟩
theorem Kp.le {m M N : Mem} {a : Addr} (k : Kp m M a) (l : M.le N) : Kp m N a := by
  obtain ⟨n, h⟩ := k.cell
  exact ⟨⟨n, l _ _ h⟩, fun b o hb e => l _ _ (k.keep b o hb e)⟩
theorem Kp.out {m M : Mem} {a : Addr} (k : Kp m M a) : ∃ n, (m.set a (.lst [.int n])).le M := by
  obtain ⟨n, h⟩ := k.cell
  refine ⟨n, fun b o e => ?_⟩
  by_cases z : b = a
  · subst z; rw [Mem.set_same] at e; cases e; exact h
  · rw [Mem.set_ne z] at e; exact k.keep b o z e
theorem nx_kp {m M : Mem} {a : Addr} {i : Int} {k : DQ} {qe : Value → Mem → Prop} (K : Kp m M a) (h0 : 0 < i) (h1 : i < 1073741824)
    (h : ∀ (r : Int) (N : Mem), 0 ≤ r → r < i → Kp m N a → (∀ b, b ≠ a → N b = M b) → k (.int r) N) : sp_law_next [.ref a, .int i] M k qe := by
  obtain ⟨n, e⟩ := K.cell
  exact ⟨a, n, i, rfl, e, rfl, h0, h1, fun r n' r0 r1 => h r _ r0 r1 (K.step n') fun b hb => Mem.set_ne hb⟩
theorem turn_kp {m M : Mem} {a : Addr} {i : Nat} {k : DQ} {qe : Value → Mem → Prop} (K : Kp m M a) (h1 : i ≤ 4)
    (h : ∀ (ns : List Int) (N : Mem), ns.Perm (rngI i) → Kp m N a → (∀ b, b ≠ a → N b = M b) → k (.ftup (ns.map D.int)) N) : sp_law_turn [.ref a, .int (i : Nat)] M k qe := by
  obtain ⟨n, e⟩ := K.cell
  exact ⟨a, n, i, rfl, e, rfl, h1, fun ns n' hn => h ns _ hn (K.step n') fun b hb => Mem.set_ne hb⟩
theorem ints_odd {m : Mem} {ns : List Int} (h : ∀ x ∈ ns, -6 ≤ x ∧ x ≤ 6) : ∀ d ∈ ns.map D.int, OddD m d := fun d hd => by
  obtain ⟨x, hx, rfl⟩ := List.mem_map.mp hd
  have := h x hx
  exact odd_int (by omega) (by omega)
theorem undone_at {t : List Int} (ok : isTurnL t = true) {x : Int} (h0 : 0 ≤ x) (h1 : x < t.length) : (undoneL t).getD x.toNat 0 = ((t.idxOf x : Nat) : Int) := by
  unfold undoneL rngI
  rw [List.map_map, List.getD_eq_getElem?_getD, List.getElem?_map, List.getElem?_range (by omega)]
  show ((t.idxOf ((x.toNat : Nat) : Int) : Nat) : Int) = _
  rw [Int.toNat_of_nonneg h0]
theorem undone_len (t : List Int) : (undoneL t).length = t.length := by unfold undoneL; rw [List.length_map, rngI_length]

theorem many_at {r : Int} (h0 : 0 ≤ r) (h1 : r < 4) : ∃ k : Nat, atI [D.int 2, .int 2, .int 3, .int 4] r = some (.int (k : Nat)) ∧ 2 ≤ k ∧ k ≤ 4 := by
  have : r = 0 ∨ r = 1 ∨ r = 2 ∨ r = 3 := by omega
  rcases this with rfl | rfl | rfl | rfl
  · exact ⟨2, atI_nat (j := 0) rfl, by omega, by omega⟩
  · exact ⟨2, atI_nat (j := 1) rfl, by omega, by omega⟩
  · exact ⟨3, atI_nat (j := 2) rfl, by omega, by omega⟩
  · exact ⟨4, atI_nat (j := 3) rfl, by omega, by omega⟩
theorem hands_at {r : Int} (h0 : 0 ≤ r) (h1 : r < 8) : ∃ k : Nat, atI [D.int 1, .int 2, .int 3, .int 0, .int 4, .int 5, .int 6, .int 2] r = some (.int (k : Nat)) ∧ k ≤ 6 := by
  have : r = 0 ∨ r = 1 ∨ r = 2 ∨ r = 3 ∨ r = 4 ∨ r = 5 ∨ r = 6 ∨ r = 7 := by omega
  rcases this with rfl | rfl | rfl | rfl | rfl | rfl | rfl | rfl
  · exact ⟨1, atI_nat (j := 0) rfl, by omega⟩
  · exact ⟨2, atI_nat (j := 1) rfl, by omega⟩
  · exact ⟨3, atI_nat (j := 2) rfl, by omega⟩
  · exact ⟨0, atI_nat (j := 3) rfl, by omega⟩
  · exact ⟨4, atI_nat (j := 4) rfl, by omega⟩
  · exact ⟨5, atI_nat (j := 5) rfl, by omega⟩
  · exact ⟨6, atI_nat (j := 6) rfl, by omega⟩
  · exact ⟨2, atI_nat (j := 7) rfl, by omega⟩
theorem le2 {s m' : Mem} {a p c : Addr} {x0 x y0 y z : MO} (le : ((s.set a x0).set p y0).le m') (h5 : m' c = none) : ((s.set a x).set p y).le (((m'.set a x).set c z).set p y) := by
  have old : ∀ b o, b ≠ p → b ≠ a → s b = some o → m' b = some o := fun b o hp ha h => le b o (by rw [Mem.set_ne hp, Mem.set_ne ha]; exact h)
  intro b o hb
  by_cases e1 : b = p
  · subst e1; rw [Mem.set_same] at hb ⊢; exact hb
  · rw [Mem.set_ne e1] at hb ⊢
    by_cases e2 : b = c
    · subst e2
      by_cases e3 : b = a
      · subst e3
        have := le b x0 (by rw [Mem.set_ne e1, Mem.set_same])
        rw [h5] at this
        cases this
      · rw [Mem.set_ne e3] at hb
        have := old b o e1 e3 hb
        rw [h5] at this
        cases this
    · rw [Mem.set_ne e2]
      by_cases e3 : b = a
      · subst e3; rw [Mem.set_same] at hb ⊢; exact hb
      · rw [Mem.set_ne e3] at hb ⊢; exact old b o e1 e3 hb
theorem rdok_law_pairs {ds m q qe} (h : sp_law_pairs ds m q qe) : rd_law_pairs (fun cls _ m => qe cls m) (defEnds q) (startD N_law_pairs ds) m := by
  obtain ⟨d, e0, a, n, e1, ha, hq⟩ := sp1_at h
  clear h
  subst e0 e1
  show rd_law_pairs _ (defEnds q) [some (.ref a), none, none, none, none, none, none, none] m
  unfold rd_law_pairs
  walk_at "re"
  refine ⟨by exact sized (by decide), fun a1 h1 => ?_⟩
  have n1 : a ≠ a1 := Mem.live_ne ha h1
  refine ⟨a, n, 4, rfl, by rw [Mem.set_ne n1]; exact ha, rfl, by omega, by omega, fun r n' r0 r1 => ?_⟩
  obtain ⟨many, em, m2, m4⟩ := many_at r0 r1
  rw [ixD_r (by rw [Mem.set_ne n1.symm, Mem.set_same]) em]
  walk_at "re"
  refine ⟨by exact sized (by decide), fun a2 h2 => ?_⟩
  obtain ⟨h2, n2⟩ := Mem.set_none h2
  refine ⟨a, n', 8, rfl, by rw [Mem.set_ne n2.symm, Mem.set_same], rfl, by omega, by omega, fun r n'' r0 r1 => ?_⟩
  obtain ⟨hands, eh, h6⟩ := hands_at r0 r1
  rw [ixD_r (by rw [Mem.set_ne n2, Mem.set_same]) eh]
  walk_at "re"
  refine ⟨Nat.zero_le _, fun a3 h3 => ⟨by omega, by omega, ?_⟩⟩
  have l0 : (m.set a (.lst [.int n''])).le ((((m.set a1 (.lst [.int 2, .int 2, .int 3, .int 4])).set a (.lst [.int n'])).set a2 (.lst [.int 1, .int 2, .int 3, .int 0, .int 4, .int 5, .int 6, .int 2])).set a (.lst [.int n''])) := by
    rw [Mem.set_comm n2, Mem.set_set, Mem.set_comm n1.symm]
    refine Mem.le_trans (Mem.le_set ?_) (Mem.le_set ?_)
    · rw [Mem.set_ne n1.symm]; exact h1
    · rw [Mem.set_comm n1, Mem.set_ne n2]; exact h2
  have hn3 : (m.set a (.lst [.int n''])) a3 = none := Mem.le_none l0 h3
  obtain ⟨h3', n3⟩ := Mem.set_none hn3
  generalize hM : ((((m.set a1 _).set a _).set a2 _).set a (.lst [.int n''])) = M at l0 h3
  refine for_inv (fun items ρ m' => ∃ (P : Prs) (n0 : Int) (x4 x5 x6 x7 : Option D), P.length + items.length = hands ∧ (∀ p ∈ P, IsPair many hands p) ∧ ((m.set a (.lst [.int n0])).set a3 (.lst (P.map pairD))).le m' ∧ ρ = [some (.ref a), some (.int many), some (.int hands), some (.ref a3), x4, x5, x6, x7])
    (fun _ _ _ _ => trivial) (fun ρ m' hP => ?_) (fun d r ρ m' hP N hN => ?_) _ _ _ ?_
  · obtain ⟨P, n0, x4, x5, x6, x7, hl, hp, le, rfl⟩ := hP
    walk_at "re"
    have hl : P.length = hands := by simpa using hl
    refine ⟨by exact sized (by decide), defEnds_le le (hq many P n0 a3 ⟨m2, m4, by omega, fun p hp' => by rw [hl]; exact hp p hp'⟩ h3')⟩
  · obtain ⟨P, n0, x4, x5, x6, x7, hl, hp, le, rfl⟩ := hP
    rw [List.length_cons] at hl
    walk_at "re"
    have ma : m' a = some (.lst [.int n0]) := le a _ (by rw [Mem.set_ne n3.symm, Mem.set_same])
    have m3 : m' a3 = some (.lst (P.map pairD)) := le a3 _ Mem.set_same
    refine ⟨a, n0, many, rfl, ma, rfl, m4, fun t n1' ht => ⟨by omega, by omega, ?_⟩⟩
    refine comp_inv (fun items acc m2' => ∃ (os : List Int) (n2' : Int), acc = os.map D.int ∧ os.length + items.length = many ∧ (∀ x ∈ os, -(hands : Int) ≤ x ∧ x ≤ hands) ∧ m2' = m'.set a (.lst [.int n2'])) (fun _ _ _ _ => trivial) (fun acc m2' hP => ?_) (fun d r2 acc m2' hP N2 hN2 => ?_) _ _ _ ?_
    · obtain ⟨os, n2', rfl, hl2, ho, rfl⟩ := hP
      refine fun a5 h5 => ?_
      obtain ⟨h5, n5⟩ := Mem.set_none h5
      have n53 : a3 ≠ a5 := Mem.live_ne m3 h5
      have c3 : ((m'.set a (.lst [.int n2'])).set a5 (.lst (os.map D.int))) a3 = some (.lst (P.map pairD)) := by rw [Mem.set_ne n53, Mem.set_ne n3]; exact m3
      walk_at "re"
      refine ⟨⟨a3, _, rfl, c3⟩, ?_⟩
      rw [tupleD_r Mem.set_same]
      refine ⟨by exact sized (by decide), ?_⟩
      rw [appendD_r c3]
      refine ⟨by rw [List.length_map]; exact sized' (by omega), dn_here (hN _ _ ?_)⟩
      obtain ⟨t1, t2⟩ := isTurn_of_perm m2 m4 ht
      refine ⟨P ++ [(t, os)], n2', _, _, _, _, by rw [List.length_append, List.length_singleton]; omega, fun p hp' => ?_, ?_, rfl⟩
      · rcases List.mem_append.mp hp' with hp' | hp'
        · exact hp p hp'
        · rw [List.mem_singleton] at hp'
          subst hp'
          exact ⟨t1, t2, by simpa using hl2, ho⟩
      · have e5 : P.map pairD ++ [D.tup [D.ftup (t.map D.int), D.tup (os.map D.int)]] = (P ++ [(t, os)]).map pairD := by rw [List.map_append]; rfl
        rw [e5]
        exact le2 le h5
    · obtain ⟨os, n2', rfl, hl2, ho, rfl⟩ := hP
      rw [List.length_cons] at hl2
      walk_at "re"
      refine ⟨a, n2', 2, rfl, Mem.set_same, rfl, by omega, by omega, fun b1 n3' b10 b11 => ?_⟩
      rw [Mem.set_set]
      refine ⟨cmulL _ (by omega), ?_⟩
      refine ⟨a, n3', _, rfl, Mem.set_same, rfl, by omega, by omega, fun b2 n4' b20 b21 => ?_⟩
      rw [Mem.set_set]
      walk_at "re"
      refine ⟨cmulL _ (by omega), by exact sized' (by omega), hN2 _ _ ⟨os ++ [b1 * (b2 - hands)], n4', by rw [List.map_append]; rfl, by rw [List.length_append, List.length_singleton]; omega, fun y hy => ?_, rfl⟩⟩
      rcases List.mem_append.mp hy with hy | hy
      · exact ho y hy
      · rw [List.mem_singleton] at hy
        subst hy
        have : b1 = 0 ∨ b1 = 1 := by omega
        rcases this with rfl | rfl
        · omega
        · omega
    · exact ⟨[], n1', rfl, by rw [rngD_length]; simp, (fun _ h => by cases h), rfl⟩
  · refine ⟨[], n'', none, none, none, none, by rw [rngD_length]; simp, (fun _ h => by cases h), Mem.set_le l0, rfl⟩
def chkI (t : List Int) : Bool := (rngI t.length).all fun x => decide (((rngI t.length).filter fun k => t.getD k.toNat 0 == x) = [((t.idxOf x : Nat) : Int)])
theorem chkI_all {t : List Int} (ok : isTurnL t = true) : chkI t = true := turn_cases (p := chkI) (by decide +kernel) (by decide +kernel) (by decide +kernel) ok
theorem rdok_law_goes {ds m q qe} (h : sp_law_goes ds m q qe) : rd_law_goes (fun cls _ m => qe cls m) (defEnds q) (startD N_law_goes ds) m := by
  obtain ⟨d, e, f, e0, many, P, p, s, x, e1, hp, ok, e2, hs, e3, hx, hq⟩ := sp3_at h
  clear h
  subst e0 e1 e2 e3
  obtain ⟨ep, hmem⟩ := pair_at hs
  have okp := ok.pair _ hmem
  have len := turn_len okp.turn
  show rd_law_goes _ (defEnds q) [some (.ref p), some (.int s), some (.int x), none, none, none, none] m
  unfold rd_law_goes
  walk_at "re"
  rw [ixD_r hp ep]
  unfold pairD
  walk_at "re"
  by_cases h0 : 0 < s
  · rw [decide_eq_true h0]
    walk_at "re"
    rw [ixD_f (itemsI _ _ hx.1 (by rw [okp.len1]; exact hx.2)), ixD_t (itemsI _ _ hx.1 (by rw [okp.len2]; exact hx.2))]
    refine ⟨by exact sized (by decide), defEnds_here ?_⟩
    have e1 : stepT P s x = (pairOf P s).1.getD x.toNat 0 := by unfold stepT stepTurn; rw [if_pos h0]
    have e2 : stepO P s x = (pairOf P s).2.getD x.toNat 0 := by unfold stepO; rw [if_pos h0]
    rw [e1, e2] at hq
    exact hq
  · rw [decide_eq_false h0]
    walk_at "re"
    refine ⟨by omega, by omega, ?_⟩
    rw [rngD0]
    refine comp_filter (fun d => match d with | .int k => (pairOf P s).1.getD k.toNat 0 == x | _ => false) _root_.id trivial _ [] (fun d hd K hK => ?_) (fun d hd _ K hK => ?_) (by rw [List.length_nil, List.length_map, rngI_length]; exact sized (by omega)) ?_
    · obtain ⟨k, hk, rfl⟩ := List.mem_map.mp hd
      obtain ⟨k0, k1⟩ := mem_rngI.mp hk
      walk_at "re"
      rw [ixD_f (itemsI _ _ k0 k1)]
      walk_at "re"
      exact hK
    · walk_at "re"
      exact hK
    · have hc := chkI_all okp.turn
      unfold chkI at hc
      rw [List.all_eq_true] at hc
      have hc := hc x (mem_rngI.mpr ⟨hx.1, by rw [okp.len1]; exact hx.2⟩)
      simp only [decide_eq_true_eq] at hc
      have e5 : ([] ++ (((rngI (pairOf P s).1.length).map D.int).filter fun d => match d with | .int k => (pairOf P s).1.getD k.toNat 0 == x | _ => false).map _root_.id : List D) = [.int (((pairOf P s).1.idxOf x : Nat) : Int)] := by
        rw [List.nil_append, List.map_id, List.filter_map, show ((fun d : D => match d with | .int k => (pairOf P s).1.getD k.toNat 0 == x | _ => false) ∘ D.int) = (fun k => (pairOf P s).1.getD k.toNat 0 == x) from rfl, hc]
        rfl
      rw [e5]
      refine fun a1 h1 => ?_
      rw [ixD_r Mem.set_same (at10 _)]
      walk_at "re"
      have hm : x ∈ (pairOf P s).1 := turn_mem okp.turn hx.1 (by rw [okp.len1]; exact hx.2)
      have hi : (pairOf P s).1.idxOf x < (pairOf P s).1.length := List.idxOf_lt_length_iff.mpr hm
      rw [ixD_t (itemsD _ _ (by rw [okp.len2, ← okp.len1]; exact hi))]
      walk_at "re"
      refine ⟨by exact sized (by decide), defEnds_le (Mem.le_set h1) ?_⟩
      have e1 : stepT P s x = (((pairOf P s).1.idxOf x : Nat) : Int) := by unfold stepT stepTurn; rw [if_neg h0]; exact undone_at okp.turn hx.1 (by rw [okp.len1]; exact hx.2)
      have e2 : stepO P s x = -((pairOf P s).2.getD ((pairOf P s).1.idxOf x) 0) := by unfold stepO; rw [if_neg h0]
      rw [e1, e2] at hq
      exact hq

theorem rdok_law_whole {ds m q qe} (h : sp_law_whole ds m q qe) : rd_law_whole (fun cls _ m => qe cls m) (defEnds q) (startD N_law_whole ds) m := by
  obtain ⟨d, l, u, e0, i, j, hk, e1, e2, hq⟩ := sp3_at h
  clear h
  subst e0 e1 e2
  show rd_law_whole _ (defEnds q) [some d, some (.int i), some (.int j)] m
  unfold kn at hk
  cases d with
  | int k =>
    unfold rd_law_whole
    walk_at "rf"
    have e : betw (.int k) i j = (decide (i ≤ k) && decide (k ≤ j)) := rfl
    rw [e] at hq
    by_cases z : i ≤ k
    · rw [decide_eq_true z] at hq ⊢
      walk_at "rf"
      exact defEnds_here hq
    · rw [decide_eq_false z] at hq ⊢
      walk_at "rf"
      exact defEnds_here hq
  | ref a =>
    cases e : m a with
    | none => simp [tyS, e] at hk
    | some o =>
      cases o with
      | lst xs => unfold rd_law_whole; walk_at "rd"; simp only [e]; exact defEnds_here hq
      | dK kvs => unfold rd_law_whole; walk_at "rd"; simp only [e]; exact defEnds_here hq
      | dF kvs => unfold rd_law_whole; walk_at "rd"; simp only [e]; exact defEnds_here hq
      | _ => simp [tyS, e] at hk
  | ty n => simp [tyS] at hk
  | _ => unfold rd_law_whole; walk_at "rd"; exact defEnds_here hq

theorem rdok_law_odd {ds m q qe} (h : sp_law_odd ds m q qe) : rd_law_odd (fun cls _ m => qe cls m) (defEnds q) (startD N_law_odd ds) m := by
  obtain ⟨d, e0, a, n, e1, ha, hq⟩ := sp1_at h
  clear h
  subst e0 e1
  show rd_law_odd _ (defEnds q) [some (.ref a), none] m
  unfold rd_law_odd
  walk_at "rf"
  refine ⟨by walk_at "sz", by walk_at "sz", fun p1 h1 => ?_⟩
  unfold dDict0
  refine .inl fun p2 h2 => ?_
  have K0 : Kp m m a := Kp.start ha
  have K1 : Kp m (m.set p1 (.lst [.int 0])) a := K0.new h1
  have K2 : Kp m ((m.set p1 (.lst [.int 0])).set p2 (.dK [])) a := K1.new h2
  have n12 := Mem.live_ne Mem.set_same h2
  have n1a := K0.ne h1
  have n2a := K1.ne h2
  have g1 : ((m.set p1 (.lst [.int 0])).set p2 (.dK [])) p1 = some (.lst [.int 0]) := by rw [Mem.set_ne n12, Mem.set_same]
  have g2 : ((m.set p1 (.lst [.int 0])).set p2 (.dK [])) p2 = some (.dK []) := Mem.set_same
  generalize (m.set p1 (.lst [.int 0])).set p2 (.dK []) = M2 at K2 g1 g2
  refine ⟨⟨by decide, by decide, by decide⟩, ⟨by decide, by decide, by decide⟩, ?_⟩
  refine nx_kp K2 (by decide) (by decide) fun r M3 r0 r1 K3 same => ?_
  walk_at "rf"
  refine ⟨by walk_at "sz", fun p3 h3 => ?_⟩
  have g1' : M3 p1 = some (.lst [.int 0]) := by rw [same p1 n1a]; exact g1
  have g2' : M3 p2 = some (.dK []) := by rw [same p2 n2a]; exact g2
  have n13 := Mem.live_ne g1' h3
  have n23 := Mem.live_ne g2' h3
  have n3a := K3.ne h3
  unfold rd_law_odd_1
  walk_at "rf"
  refine nx_kp (K3.new h3) (by decide) (by decide) fun r2 M4 r20 r21 K4 same2 => ?_
  have g3 : M4 p3 = some (.lst [.bl true, .bl false, .non, .str "1", .str "", .tup [.int 1], .ref p1, .ref p2, .int (10 ^ Int.toNat 12 + r), .int (-7)]) := by rw [same2 p3 n3a, Mem.set_same]
  have g1'' : M4 p1 = some (.lst [.int 0]) := by rw [same2 p1 n1a, Mem.set_ne n13]; exact g1'
  have g2'' : M4 p2 = some (.dK []) := by rw [same2 p2 n2a, Mem.set_ne n23]; exact g2'
  have e12 : (10 : Int) ^ Int.toNat 12 = 1000000000000 := by decide
  have e9 : (10 : Int) ^ Int.toNat 9 = 1000000000 := by decide
  rw [e9] at r1
  have at10 : ∃ T, atI [.bl true, .bl false, .non, .str "1", .str "", .tup [.int 1], .ref p1, .ref p2, .int (10 ^ Int.toNat 12 + r), .int (-7)] r2 = some T ∧ OddD M4 T ∧ T ≠ .ref a := by
    have : r2 = 0 ∨ r2 = 1 ∨ r2 = 2 ∨ r2 = 3 ∨ r2 = 4 ∨ r2 = 5 ∨ r2 = 6 ∨ r2 = 7 ∨ r2 = 8 ∨ r2 = 9 := by omega
    rcases this with rfl | rfl | rfl | rfl | rfl | rfl | rfl | rfl | rfl | rfl
    · exact ⟨_, atI_nat (j := 0) rfl, .inl ⟨_, rfl⟩, by simp⟩
    · exact ⟨_, atI_nat (j := 1) rfl, .inl ⟨_, rfl⟩, by simp⟩
    · exact ⟨_, atI_nat (j := 2) rfl, .inr (.inl rfl), by simp⟩
    · exact ⟨_, atI_nat (j := 3) rfl, .inr (.inr (.inl rfl)), by simp⟩
    · exact ⟨_, atI_nat (j := 4) rfl, .inr (.inr (.inr (.inl rfl))), by simp⟩
    · exact ⟨_, atI_nat (j := 5) rfl, .inr (.inr (.inr (.inr (.inl rfl)))), by simp⟩
    · exact ⟨_, atI_nat (j := 6) rfl, .inr (.inr (.inr (.inr (.inr (.inl ⟨_, rfl, g1''⟩))))), by simpa using n1a⟩
    · exact ⟨_, atI_nat (j := 7) rfl, .inr (.inr (.inr (.inr (.inr (.inr (.inl ⟨_, rfl, g2''⟩)))))), by simpa using n2a⟩
    · exact ⟨_, atI_nat (j := 8) rfl, odd_int (by rw [e12]; omega) (by rw [e12]; omega), by simp⟩
    · exact ⟨_, atI_nat (j := 9) rfl, odd_int (by omega) (by omega), by simp⟩
  obtain ⟨T, eT, oT, nT⟩ := at10
  rw [ixG_L g3 eT]
  exact defEnds_here (hq T M4 ⟨K4.cell, K4.keep⟩ oT nT)

theorem rings_some {t : List Int} (ok : isTurnL t = true) : ∃ R, ringsL t = some R := Option.isSome_iff_exists.mp (turn_cases (p := fun t => (ringsL t).isSome) (by decide +kernel) (by decide +kernel) (by decide +kernel) ok)
theorem last_at {ring : List Int} (h : ring ≠ []) : atI (ring.map D.int) (-1) = some (.int (lastI ring)) := by
  obtain ⟨l, x, rfl⟩ : ∃ l x, ring = l ++ [x] := ⟨ring.dropLast, ring.getLast h, (List.dropLast_concat_getLast h).symm⟩
  rw [List.map_append]
  have := atI_last (l.map D.int) (D.int x)
  simpa [lastI] using this
theorem head_at {ring : List Int} (h : ring ≠ []) : atI (ring.map D.int) 0 = some (.int (ring.headD 0)) := by
  cases ring with
  | nil => exact absurd rfl h
  | cons x r => exact atI_nat (j := 0) rfl
theorem nxt_at {ns : List Int} {l : Int} (h0 : 0 ≤ l) (h1 : l < ns.length) : atI (ns.map D.int) l = some (.int (nxt ns l)) := itemsI ns l h0 h1
theorem nxt_ok {ns : List Int} (ok : isTurnL ns = true) {l : Int} (h0 : 0 ≤ l) (h1 : l < ns.length) : 0 ≤ nxt ns l ∧ nxt ns l < ns.length := by
  refine turn_bounds ok _ ?_
  unfold nxt
  rw [List.getD_eq_getElem?_getD, List.getElem?_eq_getElem (by omega)]
  exact List.getElem_mem _
theorem lastI_append (l : List Int) (x : Int) : lastI (l ++ [x]) = x := by simp [lastI]
theorem rdok_turn_rings (C : Addr) {ds m q qe} (h : sp_turn_rings C ds m q qe) : rd_turn_rings C (fun cls _ m => qe cls m) (defEnds q) (startD N_turn_rings ds) m := by
  obtain ⟨d, e0, hk, hT, hF⟩ := sp1_at h
  clear h
  subst e0
  show rd_turn_rings C _ (defEnds q) [some d, none, none, none] m
  unfold rd_turn_rings
  walk_at "rd"
  refine ⟨hk, fun z => ?_, fun z => hF z⟩
  obtain ⟨ns, e1, ok, hq⟩ := hT z
  subst e1
  obtain ⟨RR, hR⟩ := rings_some ok
  have hq := hq RR
  clear hT hF z hk
  have len := turn_len ok
  refine ⟨Nat.zero_le _, fun a1 h1 => ⟨RgOk.of_le (by omega) (by rw [List.length_map]; omega) (by omega) (by omega), fun a2 h2 => ?_⟩⟩
  obtain ⟨h2, n21⟩ := Mem.set_none h2
  rw [Int.toNat_natCast, List.length_map, rngD0]
  have r1 : ∀ y z, ((m.set a1 y).set a2 z) a1 = some y := fun y z => by rw [Mem.set_ne n21.symm, Mem.set_same]
  have w1 : ∀ y z y', ((m.set a1 y).set a2 z).set a1 y' = (m.set a1 y').set a2 z := fun y z y' => by rw [Mem.set_comm n21, Mem.set_set]
  refine ⟨fun c ρ m' => ∃ (left : List Int) (R : List (List Int)) (x3 : Option D), ringsGo ns c left R = some RR ∧ (∀ x ∈ left, 0 ≤ x ∧ x < ns.length) ∧ R.length + c ≤ 5 ∧ left.length ≤ 4 ∧ m' = (m.set a1 (.lst (R.map tupI))).set a2 (.lst (left.map D.int)) ∧ ρ = [some (.ftup (ns.map D.int)), some (.ref a1), some (.ref a2), x3], ⟨5, rngI ns.length, [], none, hR, fun x hx => mem_rngI.mp hx, by simp, by rw [rngI_length]; omega, rfl, rfl⟩, ?_⟩
  rintro c ρ m' ⟨left, R, x3, hgo, hleft, hRl, hll, rfl, rfl⟩
  walk_at "rd"
  simp only [Mem.set_same]
  refine ⟨nilOk_ints left, ?_⟩
  cases c with
  | zero => cases hgo
  | succ c =>
    cases left with
    | nil =>
      simp only [List.map_nil, List.isEmpty_nil, Bool.not_true, Bool.false_eq_true, if_false, r1]
      cases hgo
      exact defEnds_le (Mem.le_set (by rw [Mem.set_ne n21]; exact h2)) (hq a1 h1)
    | cons x left =>
      simp only [List.map_cons, List.isEmpty_cons, Bool.not_false, if_true]
      have hx := hleft x List.mem_cons_self
      rw [List.length_cons] at hll
      refine ⟨⟨a2, _, rfl, Mem.set_same⟩, ?_⟩
      unfold popAtD
      refine ⟨_, 0, .int x, Mem.set_same, by omega, by omega, seqIx (by omega) (by rw [List.length_cons]; omega), rfl, by exact sized (by decide), fun a3 h3 => ?_⟩
      rw [Mem.set_set] at h3 ⊢
      simp only [List.eraseIdx_cons_zero] at h3 ⊢
      obtain ⟨h3, n32⟩ := Mem.set_none h3
      obtain ⟨h3, n31⟩ := Mem.set_none h3
      rw [ringsGo] at hgo
      cases hin : ringIn ns 5 [x] left with
      | none => rw [hin] at hgo; cases hgo
      | some p =>
        obtain ⟨ringF, leftF⟩ := p
        rw [hin] at hgo
        have r13 : ∀ y z u, (((m.set a1 y).set a2 z).set a3 u) a1 = some y := fun y z u => by rw [Mem.set_ne n31.symm, r1]
        have r23 : ∀ y z u, (((m.set a1 y).set a2 z).set a3 u) a2 = some z := fun y z u => by rw [Mem.set_ne n32.symm, Mem.set_same]
        have w23 : ∀ y z u z', (((m.set a1 y).set a2 z).set a3 u).set a2 z' = ((m.set a1 y).set a2 z').set a3 u := fun y z u z' => by rw [Mem.set_comm n32, Mem.set_set]
        have w13 : ∀ y z u y', (((m.set a1 y).set a2 z).set a3 u).set a1 y' = ((m.set a1 y').set a2 z).set a3 u := fun y z u y' => by rw [Mem.set_comm n31, w1]
        refine ⟨fun c' ρ m' => ∃ (ring left' : List Int), ringIn ns c' ring left' = some (ringF, leftF) ∧ ring ≠ [] ∧ (0 ≤ lastI ring ∧ lastI ring < ns.length) ∧ (∀ x ∈ left', 0 ≤ x ∧ x < ns.length) ∧ ring.length + c' ≤ 6 ∧ left'.length ≤ 3 ∧
          m' = ((m.set a1 (.lst (R.map tupI))).set a2 (.lst (left'.map D.int))).set a3 (.lst (ring.map D.int)) ∧ ρ = [some (.ftup (ns.map D.int)), some (.ref a1), some (.ref a2), some (.ref a3)], ⟨5, [x], left, hin, by simp, hx, fun y hy => hleft y (List.mem_cons_of_mem _ hy), by simp, by omega, rfl, rfl⟩, ?_⟩
        rintro c' ρ m' ⟨ring, left', hri, hne, hlast, hleft', hrl, hll', rfl, rfl⟩
        walk_at "rd"
        simp only [Mem.set_same, last_at hne, head_at hne, nxt_at hlast.1 hlast.2]
        cases c' with
        | zero => cases hri
        | succ c' =>
          rw [ringIn] at hri
          by_cases hE : nxt ns (lastI ring) = ring.headD 0
          · rw [if_pos hE] at hri
            cases hri
            simp only [hE, beq_self_eq_true, Bool.not_true, Bool.false_eq_true, if_false]
            refine ⟨⟨a1, _, rfl, r13 _ _ _⟩, ?_⟩
            unfold appendD
            refine ⟨_, r13 _ _ _, by rw [List.length_map]; exact sized' (by omega), ?_⟩
            rw [w13]
            refine dn_le (Mem.le_set (by rw [Mem.set_ne n32, Mem.set_ne n31]; exact h3)) ⟨c, Nat.lt_succ_self _, _, R ++ [ringF], _, hgo, hleft', by rw [List.length_append, List.length_singleton]; omega, by omega, by rw [List.map_append]; rfl, rfl⟩
          · rw [if_neg hE] at hri
            have hb : (nxt ns (lastI ring) == ring.headD 0) = false := by simpa using hE
            simp only [hb, Bool.not_false, if_true]
            refine ⟨⟨a3, _, rfl, Mem.set_same⟩, ?_⟩
            by_cases hm : nxt ns (lastI ring) ∈ left'
            · rw [if_pos hm] at hri
              unfold appendD
              refine ⟨_, Mem.set_same, by rw [List.length_map]; exact sized' (by omega), ?_⟩
              rw [Mem.set_set]
              refine ⟨⟨a2, _, rfl, r23 _ _ _⟩, ?_⟩
              have e5 : ring.map D.int ++ [D.int (nxt ns (lastI ring))] = (ring ++ [nxt ns (lastI ring)]).map D.int := by rw [List.map_append]; rfl
              have e6 := last_at (ring := ring ++ [nxt ns (lastI ring)]) (by simp)
              rw [lastI_append] at e6
              simp only [e5, Mem.set_same, e6]
              unfold removeD
              refine ⟨left', r23 _ _ _, hm, ?_⟩
              rw [w23]
              refine dn_here ⟨c', Nat.lt_succ_self _, _, _, hri, by simp, by rw [lastI_append]; exact nxt_ok ok hlast.1 hlast.2, fun y hy => hleft' y (List.mem_of_mem_erase hy), by rw [List.length_append, List.length_singleton]; omega, Nat.le_trans (List.length_erase_le) hll', rfl, rfl⟩
            · rw [if_neg hm] at hri
              cases hri

theorem OddD.kn {m : Mem} {d : D} (h : OddD m d) : kn m d := by
  rcases h with ⟨_, rfl⟩ | rfl | rfl | rfl | rfl | ⟨a, rfl, g⟩ | ⟨a, rfl, g⟩ | ⟨i, rfl, _⟩
  · rfl
  · rfl
  · rfl
  · rfl
  · rfl
  · unfold Lh.kn tyS; dsimp only; rw [g]; rfl
  · unfold Lh.kn tyS; dsimp only; rw [g]; rfl
  · rfl
theorem ThingT.knT {m : Mem} {d : D} (h : ThingT m d) : knT m d := by
  rcases h with ⟨xs, rfl, _, hx⟩ | rfl | h
  · exact fun e he => (hx e he).kn
  · intro e he; rw [List.mem_singleton] at he; subst he; rfl
  · exact NoTup.knT h
theorem ThingT.kn {m : Mem} {d : D} (h : ThingT m d) : Lh.kn m d := by
  rcases h with ⟨xs, rfl, _, hx⟩ | rfl | h
  · rfl
  · rfl
  · exact h.1
theorem isTurnD_fs {xs : List D} (h : isTurnD (.ftup xs) = true) : ∃ t : List Int, xs = t.map D.int ∧ isTurnL t = true := by
  unfold isTurnD at h
  dsimp only at h
  cases e : intsOf xs with
  | none => rw [e] at h; cases h
  | some ns => rw [e] at h; exact ⟨ns, intsOf_ok e, h⟩
theorem ThingT.turn {m : Mem} {d : D} (h : ThingT m d) (ht : isTurnD d = true) : ∃ t : List Int, d = .ftup (t.map D.int) ∧ isTurnL t = true := by
  rcases h with ⟨xs, rfl, _, hx⟩ | rfl | h
  · obtain ⟨t, e, ok⟩ := isTurnD_fs ht
    exact ⟨t, by rw [e], ok⟩
  · exact absurd ht (by decide)
  · rw [NoTup.turn h] at ht; cases ht
theorem rdok_need_turn (C_NoTurn : Addr) {ds m q qe} (h : sp_need_turn C_NoTurn ds m q qe) : rd_need_turn C_NoTurn (fun cls _ m => qe cls m) (defEnds q) (startD N_need_turn ds) m := by
  obtain ⟨d, e0, hk, hq, he⟩ := sp1_at h
  clear h
  subst e0
  show rd_need_turn _ _ (defEnds q) [some d] m
  unfold rd_need_turn
  walk_at "rf"
  refine ⟨hk, ?_⟩
  cases hd : isTurnD d with
  | true =>
    walk_at "rf"
    exact ⟨m, Mem.le_refl m, hq hd⟩
  | false =>
    walk_at "rf"
    exact he hd
theorem rdok_turn_back (C_NoTurn : Addr) {ds m q qe} (h : sp_turn_back C_NoTurn ds m q qe) : rd_turn_back C_NoTurn (fun cls _ m => qe cls m) (defEnds q) (startD N_turn_back ds) m := by
  obtain ⟨d, e0, hk, hT, hF⟩ := sp1_at h
  clear h
  subst e0
  show rd_turn_back _ _ (defEnds q) [some d] m
  unfold rd_turn_back
  walk_at "rf"
  refine ⟨hk, fun z => ?_, fun z => hF z⟩
  obtain ⟨t, e, ok, hq⟩ := hT z
  subst e
  exact ⟨t, rfl, ok, defEnds_here hq⟩
theorem rdok_turn_after (C_NoTurn : Addr) {ds m q qe} (h : sp_turn_after C_NoTurn ds m q qe) : rd_turn_after C_NoTurn (fun cls _ m => qe cls m) (defEnds q) (startD N_turn_after ds) m := by
  obtain ⟨d, e, e0, k1, k2, hT, hF⟩ := sp2_at h
  clear h
  subst e0
  show rd_turn_after _ _ (defEnds q) [some d, some e, none] m
  unfold rd_turn_after
  walk_at "rf"
  refine ⟨k1, fun z1 => ⟨k2, fun z2 => ?_, fun z2 => hF (by rw [z1, z2]; rfl)⟩, fun z => hF (by rw [z]; rfl)⟩
  obtain ⟨s, t, e1, e2, os, ot, hq, he⟩ := hT z1 z2
  subst e1 e2
  have ls := turn_len os
  have bs := turn_bounds os
  walk_at "rf"
  by_cases hl : s.length = t.length
  · have hb : (((s.length : Nat) : Int) == ((t.length : Nat) : Int)) = true := by rw [hl]; simp
    simp only [hb, Bool.not_true, Bool.false_eq_true, if_false]
    refine comp_map (fun d => match d with | .int k => .int (t.getD k.toNat 0) | d => d) trivial _ [] (fun d hd K hK => ?_) (by rw [List.length_nil, List.length_map]; exact sized (by omega)) ?_
    · obtain ⟨k, hk, rfl⟩ := List.mem_map.mp hd
      have hb := bs k hk
      walk_at "rf"
      rw [ixD_f (itemsI t k hb.1 (by omega))]
      exact hK
    · rw [List.nil_append, List.map_map]
      refine defEnds_here ?_
      have e : s.map ((fun d => match d with | .int k => D.int (t.getD k.toNat 0) | d => d) ∘ D.int) = (afterL s t).map D.int := by
        unfold afterL
        rw [List.map_map]
        rfl
      rw [e]
      exact hq hl
  · have hb : (((s.length : Nat) : Int) == ((t.length : Nat) : Int)) = false := by rw [beq_eq_false_iff_ne]; omega
    simp only [hb, Bool.not_false, if_true]
    exact he hl
theorem stepD_int {P : Prs} {e : D} (h : stepD P.length e = true) : ∃ s, e = .int s ∧ IsStep P s := by
  cases e with
  | int s =>
    refine ⟨s, rfl, ?_⟩
    unfold stepD isStepB at h
    simp only [Bool.and_eq_true, decide_eq_true_eq, Bool.not_eq_true', beq_eq_false_iff_ne] at h
    exact ⟨h.2, h.1.1, h.1.2⟩
  | _ => cases h
theorem letD_int {many : Nat} {e : D} (h : letD many e = true) : ∃ x, e = .int x ∧ IsLet many x := by
  cases e with
  | int x =>
    refine ⟨x, rfl, ?_⟩
    have h : (decide (0 ≤ x) && decide (x ≤ (many : Int) - 1)) = true := h
    simp only [Bool.and_eq_true, decide_eq_true_eq] at h
    exact ⟨h.1, by omega⟩
  | _ => cases h
theorem rdok_Book_turn (C CW : Addr) {ds m q qe} (h : sp_Book_turn C CW ds m q qe) : rd_Book_turn C CW (fun cls _ m => qe cls m) (defEnds q) (startD N_Book_turn ds) m := by
  obtain ⟨d, e, e0, many, P, ⟨a, b, e1, ha, hb⟩, ok, hk, hq, he⟩ := sp2_at h
  clear h
  subst e0 e1
  show rd_Book_turn C CW _ (defEnds q) [some (.ref a), some e, none] m
  unfold rd_Book_turn
  unfold dMeth dFld
  walk_at "re"
  refine ⟨a, _, rfl, ha, look_m (by decide +kernel) (by decide +kernel), many, P, ⟨a, b, rfl, ha, hb⟩, hk, ?_⟩
  cases es : stepD P.length e with
  | false =>
    walk_at "re"
    exact he es
  | true =>
    obtain ⟨s, e2, hs⟩ := stepD_int es
    have hqq := hq s e2 hs
    clear hq
    subst e2
    obtain ⟨ep, hp⟩ := pair_at hs
    walk_at "re"
    refine ⟨a, _, _, rfl, ha, look_pairs many b, ?_⟩
    rw [ixD_r hb ep]
    unfold pairD
    rw [ixD_t (at20 _ _)]
    walk_at "re"
    unfold stepTurnD at hqq
    by_cases h0 : 0 < s
    · rw [if_pos h0] at hqq
      rw [decide_eq_true h0]
      walk_at "re"
      exact defEnds_here hqq
    · rw [if_neg h0] at hqq
      rw [decide_eq_false h0]
      walk_at "re"
      exact ⟨_, rfl, (ok.pair _ hp).turn, defEnds_here hqq⟩
theorem rdok_Book_onward (C CR CW : Addr) {ds m q qe} (h : sp_Book_onward C CR CW ds m q qe) : rd_Book_onward C CR CW (fun cls _ m => qe cls m) (defEnds q) (startD N_Book_onward ds) m := by
  obtain ⟨d, e, f, e0, many, P, ⟨a, b, e1, ha, hb⟩, ok, hk, hk2, hq, he, he2⟩ := sp3_at h
  clear h
  subst e0 e1
  show rd_Book_onward C CR CW _ (defEnds q) [some (.ref a), some e, some f, none, none] m
  unfold rd_Book_onward
  unfold dMeth dFld
  walk_at "re"
  refine ⟨a, _, rfl, ha, look_m (by decide +kernel) (by decide +kernel), many, P, ⟨a, b, rfl, ha, hb⟩, hk, ?_⟩
  cases es : stepD P.length e with
  | false =>
    walk_at "re"
    exact he es
  | true =>
    obtain ⟨s, e2, hs⟩ := stepD_int es
    subst e2
    walk_at "re"
    refine ⟨a, _, rfl, ha, look_m (by decide +kernel) (by decide +kernel), many, P, ⟨a, b, rfl, ha, hb⟩, hk2, ?_⟩
    cases el : letD many f with
    | false =>
      walk_at "re"
      exact he2 es el
    | true =>
      obtain ⟨x, e3, hx⟩ := letD_int el
      have hqq := hq s x rfl hs e3 hx
      clear hq
      subst e3
      obtain ⟨ep, hp⟩ := pair_at hs
      have okp := ok.pair _ hp
      walk_at "re"
      refine ⟨a, _, _, rfl, ha, look_pairs many b, ?_⟩
      rw [ixD_r hb ep]
      unfold pairD
      walk_at "re"
      unfold stepO at hqq
      by_cases h0 : 0 < s
      · rw [if_pos h0] at hqq
        rw [decide_eq_true h0]
        walk_at "re"
        rw [ixD_t (itemsI _ _ hx.1 (by rw [okp.len2]; exact hx.2))]
        exact defEnds_here hqq
      · rw [if_neg h0] at hqq
        rw [decide_eq_false h0]
        unfold dTix
        walk_at "re"
        refine ⟨trivial, ?_⟩
        rw [tixD_t]
        have hm : x ∈ (pairOf P s).1 := turn_mem okp.turn hx.1 (by rw [okp.len1]; exact hx.2)
        refine ⟨hm, ?_⟩
        have hi : (pairOf P s).1.idxOf x < (pairOf P s).1.length := List.idxOf_lt_length_iff.mpr hm
        rw [ixD_t (itemsD _ _ (by rw [okp.len2, ← okp.len1]; exact hi))]
        walk_at "re"
        exact defEnds_here hqq

/-! ### repr of a new list -/
theorem reprN_ok {ds : List D} {ps : List PyData} {m : Mem} {q : DQ} (e : pyDs m ds = some ps) (ok : okRepr (.list ps) = true) (h : q (.str (PyData.list ps).shown) m) : reprN ds m q := by
  unfold reprN
  simp only [okRepr, Bool.and_eq_true, decide_eq_true_eq, Bool.not_eq_true'] at ok
  rw [e]
  exact ⟨ok.1.1.1.1, ok.1.1.1.2, ok.1.1.2, PyData.shown_fits (by decide) (by decide) ok.1.2 (Nat.le_trans ok.2 (by decide)), h⟩
theorem pyWs3 {f : Addr → Option PyData} {a b c : D} {p q r : PyData} (ha : pyW f a = some p) (hb : pyW f b = some q) (hc : pyW f c = some r) : pyWs f [a, b, c] = some [p, q, r] := by
  rw [pyWs, ha, pyWs, hb, pyWs, hc, pyWs]
theorem repr_l {a : Addr} {m : Mem} {ds : List D} {ps : List PyData} {w d : Nat} {q : DQ} (g : m a = some (.lst ds)) (e : ∀ f, pyWs f ds = some ps) (o : OkP (.list ps) w d) (hw : w ≤ 100000) (hd : d ≤ 50) (h : q (.str (PyData.list ps).shown) m) : reprX [.ref a] m q := by
  rw [reprX_l g]
  refine reprOf_ok (p := .list ps) ?_ (o.ok hw hd) h
  show pyA m 3 a = _
  unfold pyA
  rw [g]
  show (pyWs (pyA m 2) ds).map PyData.list = _
  rw [e]; rfl

theorem slN_lo {xs : List D} {l : Nat} (h : l < xs.length) {m : Mem} {q : DQ} (hq : q (.ftup (xs.take l)) m) : slN (.ftup xs) none (some ((l : Nat) : Int)) m q := by
  rw [slN_f]
  refine ⟨?_, ?_⟩
  · rw [HT.sIx_nat, Nat.min_eq_left (by omega)]
    exact fun z => absurd z.2 (by omega)
  · rw [cut_take _ (by omega), Int.toNat_natCast]; exact hq
theorem slN_hi {xs : List D} {l : Nat} (h : l < xs.length) {m : Mem} {q : DQ} (hq : q (.ftup (xs.drop (l + 1))) m) : slN (.ftup xs) (some (((l : Nat) : Int) + 1)) none m q := by
  rw [slN_f]
  refine ⟨?_, ?_⟩
  · rw [show (((l : Nat) : Int) + 1) = ((l + 1 : Nat) : Int) from rfl, HT.sIx_nat]
    exact fun z => absurd z.1 (by omega)
  · rw [cut_drop _ (by omega), show (((l : Nat) : Int) + 1).toNat = l + 1 by omega]; exact hq
theorem seg_f {xs : List D} {l : Nat} {x : D} {m : Mem} {q : DQ} (h2 : 2 ≤ xs.length) (h5 : xs.length ≤ 5) (hl : l < xs.length)
    (hq : ∀ ys, ys.length ≤ 5 → (∀ d ∈ ys, d ∈ xs ∨ d = x) → q (.ftup ys) m) :
    slN (.ftup xs) none (some ((l : Nat) : Int)) m fun a m1 => [x].length ≤ sizeLine ∧ addF6 a (.tup [x]) m1 fun b m2 => slN (.ftup xs) (some (((l : Nat) : Int) + 1)) none m2 fun c m3 => addF6 b c m3 q := by
  refine slN_lo hl ?_
  have lt : (xs.take l).length = l := by rw [List.length_take]; omega
  have ld : (xs.drop (l + 1)).length = xs.length - (l + 1) := List.length_drop
  have mt : ∀ d ∈ xs.take l, d ∈ xs := fun d hd => List.mem_of_mem_take hd
  have md : ∀ d ∈ xs.drop (l + 1), d ∈ xs := fun d hd => List.mem_of_mem_drop hd
  generalize xs.take l = A at *
  refine ⟨by rw [List.length_singleton, sizeLine_eq]; omega, A, [x], rfl, rfl, by rw [List.length_singleton, sizeLine_eq]; omega, fun hA => ?_, fun _ z => (nomatch z), fun hA _ => ?_⟩
  · subst hA
    refine slN_hi hl ?_
    generalize xs.drop (l + 1) = B at *
    refine ⟨[x], B, rfl, rfl, by rw [List.length_singleton, sizeLine_eq]; omega, (fun z => nomatch z), fun _ z => ?_, fun _ _ => hq _ ?_ ?_⟩
    · subst z; simp at ld lt; omega
    · rw [List.length_append, List.length_singleton]; omega
    · intro d hd
      rcases List.mem_append.mp hd with hd | hd
      · exact .inr (List.mem_singleton.mp hd)
      · exact .inl (md d hd)
  · refine slN_hi hl ?_
    generalize xs.drop (l + 1) = B at *
    have hs : ∀ d ∈ A ++ [x], d ∈ xs ∨ d = x := fun d hd => by
      rcases List.mem_append.mp hd with hd | hd
      · exact .inl (mt d hd)
      · exact .inr (List.mem_singleton.mp hd)
    refine ⟨A ++ [x], B, rfl, rfl, by rw [List.length_append, List.length_singleton, sizeLine_eq]; omega, (fun z => absurd z (by simp)), fun _ z => hq _ ?_ hs, fun _ _ => hq _ ?_ ?_⟩
    · rw [List.length_append, List.length_singleton]; omega
    · rw [List.length_append, List.length_append, List.length_singleton]; omega
    · intro d hd
      rcases List.mem_append.mp hd with hd | hd
      · exact hs d hd
      · exact .inl (md d hd)
theorem seg_g {xs : List D} {l : Nat} {m : Mem} {q : DQ} (h5 : xs.length ≤ 5) (hl : l < xs.length)
    (hq : ∀ ys, ys.length ≤ 5 → (∀ d ∈ ys, d ∈ xs) → q (.ftup ys) m) :
    slN (.ftup xs) none (some ((l : Nat) : Int)) m fun a m1 => slN (.ftup xs) (some (((l : Nat) : Int) + 1)) none m1 fun c m3 => addF6 a c m3 q := by
  refine slN_lo hl (slN_hi hl ?_)
  have lt : (xs.take l).length = l := by rw [List.length_take]; omega
  have ld : (xs.drop (l + 1)).length = xs.length - (l + 1) := List.length_drop
  have mt : ∀ d ∈ xs.take l, d ∈ xs := fun d hd => List.mem_of_mem_take hd
  have md : ∀ d ∈ xs.drop (l + 1), d ∈ xs := fun d hd => List.mem_of_mem_drop hd
  generalize xs.take l = A at *
  generalize xs.drop (l + 1) = B at *
  refine ⟨A, B, rfl, rfl, by rw [sizeLine_eq]; omega, fun hA => hq B (by omega) md, fun _ hB => hq A (by omega) mt, fun _ _ => hq _ (by rw [List.length_append]; omega) fun d hd => ?_⟩
  rcases List.mem_append.mp hd with hd | hd
  · exact mt d hd
  · exact md d hd
theorem thing_list {m : Mem} {a : Addr} {xs : List D} (h : m a = some (.lst xs)) : ThingT m (.ref a) := .inr (.inr ⟨by unfold Lh.kn; rw [show tyS m (.ref a) = some "list" by show (match m a with | some (.lst _) => some "list" | some (.dK _) => some "dict" | some (.dF _) => some "dict" | _ => none) = some "list"; rw [h]]; rfl, by unfold isA; rw [show tyS m (.ref a) = some "list" by show (match m a with | some (.lst _) => some "list" | some (.dK _) => some "dict" | some (.dF _) => some "dict" | _ => none) = some "list"; rw [h]]; rfl⟩)
theorem OddD.thing {m : Mem} {d : D} (h : OddD m d) : ThingT m d := by
  rcases h with ⟨b, rfl⟩ | rfl | rfl | rfl | rfl | ⟨a, rfl, g⟩ | ⟨a, rfl, g⟩ | ⟨i, rfl, _⟩
  · exact .inr (.inr ⟨rfl, rfl⟩)
  · exact .inr (.inr ⟨rfl, rfl⟩)
  · exact .inr (.inr ⟨rfl, rfl⟩)
  · exact .inr (.inr ⟨rfl, rfl⟩)
  · exact .inr (.inl rfl)
  · exact thing_list g
  · refine .inr (.inr ⟨?_, ?_⟩)
    · unfold Lh.kn; rw [show tyS m (.ref a) = some "dict" by show (match m a with | some (.lst _) => some "list" | some (.dK _) => some "dict" | some (.dF _) => some "dict" | _ => none) = some "dict"; rw [g]]; rfl
    · unfold isA; rw [show tyS m (.ref a) = some "dict" by show (match m a with | some (.lst _) => some "list" | some (.dK _) => some "dict" | some (.dF _) => some "dict" | _ => none) = some "dict"; rw [g]]; rfl
  · exact .inr (.inr ⟨rfl, rfl⟩)
theorem OddD.same {m M : Mem} {d : D} {a : Addr} (h : OddD m d) (n : d ≠ .ref a) (same : ∀ b, b ≠ a → M b = m b) : OddD M d := by
  rcases h with h | h | h | h | h | ⟨b, e, g⟩ | ⟨b, e, g⟩ | h
  · exact .inl h
  · exact .inr (.inl h)
  · exact .inr (.inr (.inl h))
  · exact .inr (.inr (.inr (.inl h)))
  · exact .inr (.inr (.inr (.inr (.inl h))))
  · exact .inr (.inr (.inr (.inr (.inr (.inl ⟨b, e, by rw [same b (fun z => n (by rw [e, z]))]; exact g⟩)))))
  · exact .inr (.inr (.inr (.inr (.inr (.inr (.inl ⟨b, e, by rw [same b (fun z => n (by rw [e, z]))]; exact g⟩))))))
  · exact .inr (.inr (.inr (.inr (.inr (.inr (.inr h))))))
theorem rdok_law_thing {ds m q qe} (h : sp_law_thing ds m q qe) : rd_law_thing (fun cls _ m => qe cls m) (defEnds q) (startD N_law_thing ds) m := by
  obtain ⟨d, e0, a, n, e1, ha, hq⟩ := sp1_at h
  clear h
  subst e0 e1
  show rd_law_thing _ (defEnds q) [some (.ref a), none, none, none, none, none] m
  have K0 : Kp m m a := Kp.start ha
  unfold rd_law_thing
  walk_at "rf"
  refine nx_kp K0 (by omega) (by omega) fun c M1 c0 c1 K1 _ => ?_
  unfold rd_law_thing_1
  walk_at "rf"
  refine nx_kp K1 (by omega) (by omega) fun l M2 l0 l1 K2 _ => ?_
  unfold rd_law_thing_2
  walk_at "rf"
  obtain ⟨n2, g2⟩ := K2.cell
  refine ⟨a, n2, rfl, g2, fun T M3 KS oT nT => ?_⟩
  have K3 : Kp m M3 a := ⟨KS.cell, fun b o hb e => KS.keep b o hb (K2.keep b o hb e)⟩
  unfold rd_law_thing_3
  walk_at "rf"
  refine nx_kp K3 (by omega) (by omega) fun u M4 u0 u1 K4 same => ?_
  have oT4 : OddD M4 T := oT.same nT same
  unfold rd_law_thing_4
  walk_at "rf"
  refine nx_kp K4 (by omega) (by omega) fun w M5 w0 w1 K5 same5 => ?_
  have oT5 : OddD M5 T := oT4.same nT same5
  walk_at "rf"
  obtain ⟨many, em⟩ : ∃ k : Nat, (2 : Int) + w = ((k : Nat) : Int) := ⟨(2 + w).toNat, by omega⟩
  have hm : 2 ≤ many ∧ many ≤ 4 := by omega
  rw [em]
  refine turn_kp K5 hm.2 fun ns M hp K6 same6 => ?_
  have oT6 : OddD M T := oT5.same nT same6
  obtain ⟨ok, ln⟩ := isTurn_of_perm hm.1 hm.2 hp
  have bt : ∀ x ∈ ns, -6 ≤ x ∧ x ≤ 6 := fun x hx => by
    have := turn_bounds ok x hx
    omega
  have tO : ∀ d ∈ ns.map D.int, OddD M d := ints_odd bt
  have tl : (ns.map D.int).length = many := by rw [List.length_map]; exact ln
  clear K0 K1 K2 K3 K4 K5 oT oT4 oT5 same same5 same6 KS g2
  have ret : ∀ (H : D) (N : Mem), Kp m N a → ThingT N H → NoA a H → (defEnds q).rt H N := fun H N K hH hA => defEnds_here (hq H N ⟨K.cell, K.keep⟩ hH hA)
  have oU : OddD M (.int (u - 1)) := odd_int (by omega) (by omega)
  unfold rd_law_thing_5
  walk_at "rf"
  rw [ln]
  refine ⟨by omega, ?_⟩
  obtain ⟨i, ei⟩ : ∃ k : Nat, l % ((many : Nat) : Int) = ((k : Nat) : Int) := ⟨(l % many).toNat, by have := Int.emod_nonneg l (b := (many : Int)) (by omega); omega⟩
  have hi : i < (ns.map D.int).length := by have := Int.emod_lt_of_pos l (b := (many : Int)) (by omega); omega
  rw [ei]
  unfold rd_law_thing_6
  walk_at "rf"
  have fin : ∀ x, OddD M x → x ≠ .ref a → ∀ ys : List D, ys.length ≤ 5 → (∀ d ∈ ys, d ∈ ns.map D.int ∨ d = x) → (defEnds q).rt (.ftup ys) M := fun x hx nx ys hl hy => ret _ M K6 (.inl ⟨ys, rfl, by omega, fun d hd => by
    rcases hy d hd with h | h
    · exact tO d h
    · rw [h]; exact hx⟩) ⟨(fun z => nomatch z), fun zs ez d hd => by
    cases ez
    rcases hy d hd with h | h
    · obtain ⟨i, _, rfl⟩ := List.mem_map.mp h; exact fun z => nomatch z
    · rw [h]; exact nx⟩
  by_cases e0 : (c == 0) = true
  · rw [if_pos e0]
    exact seg_f (by omega) (by omega) hi (fin T oT6 nT)
  rw [if_neg e0]
  unfold rd_law_thing_7
  walk_at "rf"
  by_cases e1 : (c == 1) = true
  · rw [if_pos e1]
    exact seg_g (by omega) hi fun ys hl hy => fin T oT6 nT ys hl fun d hd => .inl (hy d hd)
  rw [if_neg e1]
  unfold rd_law_thing_8
  walk_at "rf"
  by_cases e2 : (c == 2) = true
  · rw [if_pos e2]
    refine ⟨by walk_at "sz", ?_⟩
    refine ⟨ns.map D.int, [.int (u - 1)], rfl, rfl, by rw [List.length_singleton, sizeLine_eq]; omega, fun z => ?_, fun _ z => (nomatch z), fun _ _ => fin _ oU (fun z => nomatch z) _ (by rw [List.length_append, List.length_singleton]; omega) fun d hd => ?_⟩
    · rw [z] at tl; simp at tl; omega
    · rcases List.mem_append.mp hd with hd | hd
      · exact .inl hd
      · exact .inr (List.mem_singleton.mp hd)
  rw [if_neg e2]
  unfold rd_law_thing_9
  walk_at "rf"
  by_cases e3 : (c == 3) = true
  · rw [if_pos e3]
    intro b1 hb1
    refine ⟨by walk_at "sz", fun b2 hb2 => ⟨by decide, ?_⟩⟩
    have gp : ((M.set b1 (.lst (ns.map D.int))).set b2 (.lst [T, .ref b1])) b2 = some (.lst [T, .ref b1]) := Mem.set_same
    have o2 : OddD ((M.set b1 (.lst (ns.map D.int))).set b2 (.lst [T, .ref b1])) T := oT6.le (Mem.le_trans (Mem.le_set hb1) (Mem.le_set hb2))
    have g1 : ((M.set b1 (.lst (ns.map D.int))).set b2 (.lst [T, .ref b1])) b1 = some (.lst (ns.map D.int)) := Mem.le_set hb2 _ _ Mem.set_same
    have K7 := (K6.new (o := .lst (ns.map D.int)) hb1).new (o := .lst [T, .ref b1]) hb2
    generalize ((M.set b1 (.lst (ns.map D.int))).set b2 (.lst [T, .ref b1])) = N at *
    have hu : (u - 1) % 2 = 0 ∨ (u - 1) % 2 = 1 := by omega
    rcases hu with hu | hu
    · rw [hu, ixD_r gp (i := 0) (atI_nat (j := 0) rfl)]
      exact ret _ N K7 o2.thing ⟨nT, fun xs ex => by
        rcases oT6 with ⟨_, h⟩ | h | h | h | h | ⟨_, h, _⟩ | ⟨_, h, _⟩ | ⟨_, h, _⟩ <;> (rw [h] at ex; cases ex)⟩
    · rw [hu, ixD_r gp (i := 1) (atI_nat (j := 1) rfl)]
      exact ret _ N K7 (thing_list g1) ⟨fun z => K6.ne hb1 (by cases z; rfl), fun xs ex => (nomatch ex)⟩
  rw [if_neg e3]
  unfold rd_law_thing_10
  walk_at "rf"
  exact seg_f (by omega) (by omega) hi (fin _ oU (fun z => nomatch z))
theorem rdok_law_is_turn {ds m q qe} (h : sp_law_is_turn ds m q qe) : rd_law_is_turn (fun cls _ m => qe cls m) (defEnds q) (startD N_law_is_turn ds) m := by
  obtain ⟨d, e0, hT, hq⟩ := sp1_at h
  clear h
  subst e0
  show rd_law_is_turn _ (defEnds q) [some d, none, none] m
  unfold rd_law_is_turn
  rcases hT with ⟨xs, rfl, hx6, hx⟩ | rfl | hn
  rotate_left
  · walk_at "rf"
    refine ⟨by walk_at "sz", ?_⟩
    rw [show D.tup [.int 2, .int 3, .int 4] = .tup (([2, 3, 4] : List Int).map D.int) from rfl, inG_tN]
    rw [show (!([2, 3, 4] : List Int).contains ((([D.int 1] : List D).length : Nat) : Int)) = true by decide]
    walk_at "rf"
    exact defEnds_here hq
  · rw [NoTup.turn hn] at hq
    walk_at "rf"
    rw [isi_some hn.2]
    walk_at "rf"
    exact defEnds_here hq
  walk_at "rf"
  refine ⟨by walk_at "sz", ?_⟩
  rw [show D.tup [.int 2, .int 3, .int 4] = .tup (([2, 3, 4] : List Int).map D.int) from rfl, inG_tN]
  have et : isTurnD (.ftup xs) = isTurnD (.tup xs) := rfl
  rw [et] at hq
  by_cases hl : 2 ≤ xs.length ∧ xs.length ≤ 4
  rotate_left
  · rw [show (!([2, 3, 4] : List Int).contains ((xs.length : Nat) : Int)) = true by
      simp only [List.contains_cons, List.contains_nil, Bool.or_false, Bool.not_eq_true', Bool.or_eq_false_iff, beq_eq_false_iff_ne]
      omega]
    walk_at "rf"
    have : isTurnD (.tup xs) = false := by
      cases e : isTurnD (.tup xs) with
      | false => rfl
      | true =>
        obtain ⟨t, e2, ok⟩ := isTurnD_fs (xs := xs) (by rw [et]; exact e)
        have := turn_len ok
        rw [e2, List.length_map] at hl
        exact absurd this hl
    rw [this] at hq
    exact defEnds_here hq
  rw [show (!([2, 3, 4] : List Int).contains ((xs.length : Nat) : Int)) = false by
    have : xs.length = 2 ∨ xs.length = 3 ∨ xs.length = 4 := by omega
    rcases this with e | e | e <;> rw [e] <;> decide]
  walk_at "rf"
  refine comp_inv (fun items acc m' => ∃ (pre post : List D) (ss : List Str), xs = pre ++ post ∧ items = post ∧ acc = ss.map D.str ∧ ss.length = pre.length ∧ (∀ (i : Nat) (d : D) (t : Str), pre[i]? = some d → ss[i]? = some t → TxtR d t) ∧ m' = m) (fun _ _ _ _ => trivial) (fun acc m' hP => ?_) (fun d r acc m' hP N hN => ?_) _ _ _ ⟨[], xs, [], rfl, rfl, rfl, rfl, (fun i d t h => by simp at h), rfl⟩
  · obtain ⟨pre, post, ss, ep, rfl, rfl, sl, hT, rfl⟩ := hP
    rw [List.append_nil] at ep
    subst ep
    unfold sortNS
    rw [strsOf_map]
    dsimp only
    refine ⟨by omega, fun ys hp hs => ?_⟩
    walk_at "rf"
    refine ⟨by omega, by omega, ?_⟩
    rw [rng_D]
    refine comp_map (fun d => match d with | .int k => .str (txt k) | d => d) trivial _ [] (fun d' hd K hK => ?_) (by rw [List.length_nil, List.length_map, rngI_length]; exact sized (by omega)) ?_
    · obtain ⟨k, hk, rfl⟩ := List.mem_map.mp hd
      have hk := mem_rngI.mp hk
      walk_at "rf"
      rw [strD_i]
      refine ⟨?_, hK⟩
      have : k.natAbs < 2 ^ 5 := by omega
      rcases Nat.eq_zero_or_pos k.natAbs with z | z
      · rw [z]; decide
      · have := (Nat.log2_lt (by omega)).mpr this
        omega
    · rw [List.nil_append, List.map_map, show ((fun d : D => match d with | .int k => D.str (txt k) | d => d) ∘ D.int) = D.str ∘ txt from rfl, ← List.map_map]
      refine eqLs_strs ?_ ?_ ?_
      · rw [List.all_eq_true]
        intro t ht
        obtain ⟨i, hi, rfl⟩ := List.mem_iff_getElem.mp (hp.mem_iff.mp ht)
        exact (hT i xs[i] ss[i] (List.getElem?_eq_getElem (by omega)) (List.getElem?_eq_getElem hi)).1
      · rw [List.all_eq_true]
        intro t ht
        obtain ⟨k, _, rfl⟩ := List.mem_map.mp ht
        exact strOk_of _
      · have tt := turn_txt sl hT hp hs (by omega) (by omega)
        rw [show decide (ys = (rngI xs.length).map txt) = isTurnD (.tup xs) by rw [← tt]; rfl]
        exact defEnds_here hq
  · obtain ⟨pre, post, ss, e, rfl, rfl, sl, hT, rfl⟩ := hP
    have od : OddD m' d := hx d (by rw [e]; simp)
    have pl : pre.length < xs.length := by rw [e, List.length_append, List.length_cons]; omega
    walk_at "rf"
    refine odd_rep od fun t hr => ?_
    refine ⟨sized' (by first | omega | (rw [List.length_map]; omega)), hN _ _ ⟨pre ++ [d], _, ss ++ [t], by rw [List.append_assoc]; exact e, rfl, by rw [List.map_append]; rfl, by rw [List.length_append, List.length_append, sl]; rfl, fun i d' t' h1 h2 => ?_, rfl⟩⟩
    rcases Nat.lt_or_ge i pre.length with z | z
    · rw [List.getElem?_append_left z] at h1
      rw [List.getElem?_append_left (by omega)] at h2
      exact hT i d' t' h1 h2
    · rw [List.getElem?_append_right z] at h1
      rw [List.getElem?_append_right (by omega), sl] at h2
      rcases Nat.eq_zero_or_pos (i - pre.length) with y | y
      · rw [y] at h1 h2
        cases h1; cases h2
        exact hr
      · rw [List.getElem?_eq_none (by rw [List.length_singleton]; exact y)] at h1; cases h1

/-! ### own errors that are kept -/
theorem isiW_r {tb : CT} {a C : Addr} {f : Str} {d c : D} {u : Value} {b : Bool} {m : Mem} {q : DQ} (h : m a = some (.own C f d)) (hc : clsA c = some u) (hm : (Value.ref C, u, b) ∈ tb) (hq : q (.bl b) m) : isiW tb [.ref a, c] m q := by
  unfold isiW
  dsimp only
  rw [h]
  dsimp only
  rw [hc]
  exact ⟨b, hm, hq⟩
theorem kept_str : ∀ s ∈ kept07, (PyData.str s).showable = true ∧ (PyData.str s).leavesShort 8 = true ∧ (PyData.str s).weight ≤ 50 := by decide +kernel
theorem kept_int : ∀ i : Fin 1000, (PyData.int (i.val : Int)).showable = true ∧ (PyData.int (i.val : Int)).leavesShort 8 = true ∧ (PyData.int (i.val : Int)).weight ≤ 50 := by decide +kernel
theorem okP_kstr {s : Str} (h : s ∈ kept07) : OkP (.str s) 50 0 := by
  obtain ⟨h1, h2, h3⟩ := kept_str s h
  exact ⟨h1, rfl, h2, h3, Nat.le_refl _⟩
theorem okP_kint {i : Int} (h0 : 0 ≤ i) (h1 : i < 1000) : OkP (.int i) 50 0 := by
  obtain ⟨n, rfl⟩ : ∃ n : Nat, i = ((n : Nat) : Int) := ⟨i.toNat, by omega⟩
  obtain ⟨h1, h2, h3⟩ := kept_int ⟨n, by omega⟩
  exact ⟨h1, rfl, h2, h3, Nat.le_refl _⟩
theorem pyWs_bools (f : Addr → Option PyData) : ∀ bs : List Bool, pyWs f (bs.map D.bl) = some (bs.map PyData.bool)
  | [] => rfl
  | b :: bs => by rw [List.map_cons, pyWs, pyWs_bools f bs]; rfl
theorem pyD_lst {m : Mem} {a : Addr} {ds : List D} {ps : List PyData} (h : m a = some (.lst ds)) (e : ∀ f, pyWs f ds = some ps) : pyD m (.ref a) = some (.list ps) := by
  show pyA m 3 a = _
  unfold pyA
  rw [h]
  show (pyWs (pyA m 2) ds).map PyData.list = _
  rw [e]
  rfl
theorem neD_refs {m : Mem} {a b : Addr} {ds es : List D} {ps : List PyData} {q : DQ} (h : m a = some (.lst ds)) (h' : m b = some (.lst es)) (e : ∀ f, pyWs f ds = some ps) (e' : ∀ f, pyWs f es = some ps)
    (sh : SeqAt.shaped (.list ps) = true) (ev : PyData.eqv (.list ps) (.list ps) = true) (hq : q (.bl false) m) : neD (.ref a) (.ref b) m q := by
  unfold neD
  dsimp only
  rw [pyD_lst h e, pyD_lst h' e']
  exact ⟨sh, sh, by rw [ev]; exact hq⟩
theorem eqD_refs {m : Mem} {a b : Addr} {ds es : List D} {ps : List PyData} {q : DQ} (h : m a = some (.lst ds)) (h' : m b = some (.lst es)) (e : ∀ f, pyWs f ds = some ps) (e' : ∀ f, pyWs f es = some ps)
    (sh : SeqAt.shaped (.list ps) = true) (ev : PyData.eqv (.list ps) (.list ps) = true) (hq : q (.bl true) m) : eqD (.ref a) (.ref b) m q := by
  unfold eqD
  dsimp only
  rw [pyD_lst h e, pyD_lst h' e']
  exact ⟨sh, sh, by rw [ev]; exact hq⟩
theorem bools4 : ∀ b0 b1 b2 b3 : Bool, SeqAt.shaped (.list ([b0, b1, b2, b3].map PyData.bool)) = true ∧ PyData.eqv (.list ([b0, b1, b2, b3].map PyData.bool)) (.list ([b0, b1, b2, b3].map PyData.bool)) = true := by decide +kernel
theorem kept_body (CI CN CT CB CH : Addr) {we : DWX} {E : DEnds} {x0 x1 x2 x5 : Option D} {a C : Addr} {f : Str} {d : D} {k : Nat} {M : Mem} (ga : M a = some (.own C f d))
    (hk : (k = 0 ∧ C = CT) ∨ (k = 1 ∧ C = CN) ∨ (k = 2 ∧ C = CI)) (h : ∀ y M', M.le M' → E.nx [x0, x1, x2, some (.int (k : Nat)), some (.ref a), y] M') :
    rd_law_kept_2f CI CN CT CB CH we E [x0, x1, x2, some (.int (k : Nat)), some (.ref a), x5] M := by
  have main : ∀ b0 b1 b2 : Bool, ((k : Int) == 0) = b0 → ((k : Int) == 1) = b1 → ((k : Int) == 2) = b2 →
      (Value.ref C, Value.ref CT, b0) ∈ [((.ref CT), (.ref CT), true), ((.ref CN), (.ref CT), false), ((.ref CI), (.ref CT), false)] → (Value.ref C, Value.ref CN, b1) ∈ [((.ref CT), (.ref CN), false), ((.ref CN), (.ref CN), true), ((.ref CI), (.ref CN), false)] → (Value.ref C, Value.ref CI, b2) ∈ [((.ref CT), (.ref CI), false), ((.ref CN), (.ref CI), false), ((.ref CI), (.ref CI), true)] →
      (Value.ref C, Value.ref CB, false) ∈ [((.ref CT), (.ref CB), false), ((.ref CN), (.ref CB), false), ((.ref CI), (.ref CB), false)] → (Value.ref C, Value.ref CH, true) ∈ [((.ref CT), (.ref CH), true), ((.ref CN), (.ref CH), true), ((.ref CI), (.ref CH), true)] → (Value.ref C, Value.type "ValueError", true) ∈ [((.ref CT), (.type "ValueError"), true), ((.ref CN), (.type "ValueError"), true), ((.ref CI), (.type "ValueError"), true)] →
      rd_law_kept_2f CI CN CT CB CH we E [x0, x1, x2, some (.int (k : Nat)), some (.ref a), x5] M := by
    intro b0 b1 b2 e0 e1 e2 m0 m1 m2 m3 m4 m5
    unfold rd_law_kept_2f
    walk_at "rf"
    refine isiW_r ga rfl m0 (isiW_r ga rfl m1 (isiW_r ga rfl m2 (isiW_r ga rfl m3 ⟨by walk_at "sz", fun c hc => ?_⟩)))
    unfold rd_law_kept_2f1
    walk_at "rf"
    rw [e0, e1, e2]
    refine ⟨by walk_at "sz", fun c2 hc2 => ?_⟩
    have gc : ((M.set c (.lst [.bl b0, .bl b1, .bl b2, .bl false])).set c2 (.lst [.bl b0, .bl b1, .bl b2, .bl false])) c = some (.lst [.bl b0, .bl b1, .bl b2, .bl false]) := Mem.le_set hc2 _ _ Mem.set_same
    refine neD_refs gc Mem.set_same (fun f => pyWs_bools f [b0, b1, b2, false]) (fun f => pyWs_bools f [b0, b1, b2, false]) (bools4 _ _ _ _).1 (bools4 _ _ _ _).2 ?_
    walk_at "rf"
    have le : M.le ((M.set c (.lst [.bl b0, .bl b1, .bl b2, .bl false])).set c2 (.lst [.bl b0, .bl b1, .bl b2, .bl false])) := Mem.le_trans (Mem.le_set hc) (Mem.le_set hc2)
    generalize ((M.set c (.lst [.bl b0, .bl b1, .bl b2, .bl false])).set c2 (.lst [.bl b0, .bl b1, .bl b2, .bl false])) = M2 at *
    unfold rd_law_kept_2f2
    walk_at "rf"
    refine isiW_r (le _ _ ga) rfl m4 ?_
    walk_at "rf"
    refine isiW_r (le _ _ ga) rfl m5 ?_
    walk_at "rf"
    exact h _ _ le
  rcases hk with ⟨rfl, rfl⟩ | ⟨rfl, rfl⟩ | ⟨rfl, rfl⟩
  · exact main true false false rfl rfl rfl (by simp) (by simp) (by simp) (by simp) (by simp) (by simp)
  · exact main false true false rfl rfl rfl (by simp) (by simp) (by simp) (by simp) (by simp) (by simp)
  · exact main false false true rfl rfl rfl (by simp) (by simp) (by simp) (by simp) (by simp) (by simp)
theorem rdok_law_kept (C_InUse C_NoName C_NoText C_NoBook C_HandError : Addr) {ds m q qe} (h : sp_law_kept ds m q qe) : rd_law_kept C_InUse C_NoName C_NoText C_NoBook C_HandError (fun cls _ m => qe cls m) (defEnds q) (startD N_law_kept ds) m := by
  obtain ⟨d, e, e0, i, s, e1, i0, i1, e2, hs, hq⟩ := sp2_at h
  clear h
  subst e0 e1 e2
  show rd_law_kept C_InUse C_NoName C_NoText C_NoBook C_HandError _ (defEnds q) [some (.int i), some (.str s), none, none, none, none] m
  unfold rd_law_kept dNewO
  walk_at "rf"
  refine ⟨_, rfl, fun a1 h1 => ⟨_, rfl, fun a2 h2 => ⟨_, rfl, fun a3 h3 => ⟨by walk_at "sz", fun a4 h4 => ?_⟩⟩⟩⟩
  have l1 := Mem.le_set (o := .own C_NoText "at" (.int i)) h1
  have l2 := Mem.le_set (o := .own C_NoName "name" (.str s)) h2
  have l3 := Mem.le_set (o := .own C_InUse "name" (.str s)) h3
  have l4 := Mem.le_set (o := .lst [.ref a1, .ref a2, .ref a3]) h4
  have g1 := l4 _ _ (l3 _ _ (l2 _ _ (Mem.set_same (m := m) (a := a1) (o := .own C_NoText "at" (.int i)))))
  have g2 := l4 _ _ (l3 _ _ (Mem.set_same (m := (m.set a1 (.own C_NoText "at" (.int i)))) (a := a2) (o := .own C_NoName "name" (.str s))))
  have g3 := l4 _ _ (Mem.set_same (m := ((m.set a1 (.own C_NoText "at" (.int i))).set a2 (.own C_NoName "name" (.str s)))) (a := a3) (o := .own C_InUse "name" (.str s)))
  have g4 := Mem.set_same (m := (((m.set a1 (.own C_NoText "at" (.int i))).set a2 (.own C_NoName "name" (.str s))).set a3 (.own C_InUse "name" (.str s)))) (a := a4) (o := .lst [.ref a1, .ref a2, .ref a3])
  have le := Mem.le_trans l1 (Mem.le_trans l2 (Mem.le_trans l3 l4))
  generalize (((m.set a1 (.own C_NoText "at" (.int i))).set a2 (.own C_NoName "name" (.str s))).set a3 (.own C_InUse "name" (.str s))).set a4 (.lst [.ref a1, .ref a2, .ref a3]) = M at g1 g2 g3 g4 le
  clear l1 l2 l3 l4 h1 h2 h3 h4
  unfold rd_law_kept_1 dXfO
  walk_at "rf"
  rw [ixD_r g4 (i := 0) (atI_nat (j := 0) rfl)]
  refine ⟨a1, _, rfl, g1, ?_⟩
  rw [ixD_r g4 (i := 1) (atI_nat (j := 1) rfl)]
  refine ⟨a2, _, rfl, g2, ?_⟩
  rw [ixD_r g4 (i := 2) (atI_nat (j := 2) rfl)]
  refine ⟨a3, _, rfl, g3, by walk_at "sz", ?_⟩
  have ok : okRepr (.list [.int i, .str s, .str s]) = true := ((OkPs.cons (okP_kint i0 i1) (OkPs.cons (okP_kstr hs) (OkPs.cons (okP_kstr hs) (OkPs.nil (w := 0)) (Nat.le_refl _)) (Nat.le_refl _)) (Nat.le_refl _)).lst (e := 1) (Nat.le_refl _)).ok (by decide) (by decide)
  refine reprN_ok (pyWs3 rfl rfl rfl) ok ⟨by walk_at "sz", reprN_ok (pyWs3 rfl rfl rfl) ok (ne_str ?_)⟩
  walk_at "rf"
  unfold rd_law_kept_2
  walk_at "rf"
  rw [g4]
  dsimp only
  refine for_inv (fun items ρ m' => M.le m' ∧ (∀ d ∈ items, ∃ (k : Nat) (a C : Addr) (f : Str) (x : D), d = .tup [.int (k : Nat), .ref a] ∧ M a = some (.own C f x) ∧ ((k = 0 ∧ C = C_NoText) ∨ (k = 1 ∧ C = C_NoName) ∨ (k = 2 ∧ C = C_InUse))) ∧ ∃ x3 x4 x5, ρ = [some (.int i), some (.str s), some (.ref a4), x3, x4, x5]) (fun _ _ m' hP => hP.1 _ _ g4) (fun ρ m' hP => ?_) (fun d r ρ m' hP N hN => ?_) _ _ _ ?_
  · obtain ⟨l, _, x3, x4, x5, rfl⟩ := hP
    unfold rd_law_kept_3
    walk_at "rf"
    exact defEnds_le (Mem.le_trans le l) hq
  · obtain ⟨l, hi, x3, x4, x5, rfl⟩ := hP
    obtain ⟨k, a, C, f, x, rfl, ga, hk⟩ := hi d List.mem_cons_self
    walk_at "rf"
    refine ⟨rfl, ?_⟩
    exact kept_body _ _ _ _ _ (l _ _ ga) hk fun y M' l' => dn_here (hN _ _ ⟨Mem.le_trans l l', fun d hd => hi d (List.mem_cons_of_mem _ hd), _, _, _, rfl⟩)
  · refine ⟨Mem.le_refl _, fun d hd => ?_, _, _, _, rfl⟩
    simp only [enumFrom, List.mem_cons, List.not_mem_nil, or_false] at hd
    rcases hd with rfl | rfl | rfl
    · exact ⟨0, a1, _, _, _, rfl, g1, .inl ⟨rfl, rfl⟩⟩
    · exact ⟨1, a2, _, _, _, rfl, g2, .inr (.inl ⟨rfl, rfl⟩)⟩
    · exact ⟨2, a3, _, _, _, rfl, g3, .inr (.inr ⟨rfl, rfl⟩)⟩

/-! ### what is told -/
theorem isND_nn {neg : Bool} {m : Mem} {q : DQ} : isND neg .non .non m q = q (.bl (!neg)) m := rfl
theorem isND_r {neg : Bool} {a : Addr} {m : Mem} {q : DQ} : isND neg (.ref a) .non m q = q (.bl neg) m := rfl
theorem isiE_r {tb : CT} {a X C : Addr} {b : Bool} {m : Mem} {q : DQ} (h : m a = some (.exc (.ref X))) (hm : (Value.ref X, Value.ref C, b) ∈ tb) (hq : q (.bl b) m) : isiE tb [.ref a, .ref C] m q := by
  unfold isiE
  dsimp only
  have : clsD m (.ref a) = some (.ref X) := by
    unfold clsD tyS
    dsimp only
    rw [h]
  rw [this]
  exact ⟨b, hm, hq⟩
theorem comp_marks {chk : Mem → Prop} {q : List D → Mem → Prop} {m : Mem} (hc : chk m) {x0 x1 x2 x3 x4 : Option D} : ∀ (L : List (Str × Bool)) (acc : List D) (x5 x6 : Option D), acc.length + L.length ≤ 100 → q (acc ++ (L.filter (·.2)).map fun p => D.str p.1) m →
    compR chk (gTp 2 (gCn (gNm 5) (gCn (gNm 6) gNl))) (dTruth (dVar 6)) (dVar 5) [x0, x1, x2, x3, x4, x5, x6] q (L.map fun p => .tup [.str p.1, .bl p.2]) acc m
  | [], acc, _, _, _, h => ⟨hc, by simpa using h⟩
  | (n, b) :: L, acc, x5, x6, hz, h => by
    rw [List.length_cons] at hz
    rw [List.map_cons]
    refine ⟨hc, ?_⟩
    walk_at "rf"
    refine ⟨rfl, ?_⟩
    cases b with
    | true =>
      walk_at "rf"
      refine ⟨by walk_at "sz", comp_marks hc L (acc ++ [.str n]) x5 x6 (by rw [List.length_append, List.length_singleton]; omega) ?_⟩
      rw [List.append_assoc]
      exact h
    | false =>
      walk_at "rf"
      exact comp_marks hc L acc x5 x6 (by omega) h
def marks_NoRow : List (Str × Bool) := [("NoTurn", false), ("NoBook", false), ("NoWord", false), ("NoRow", true), ("NoMachine", false), ("NoNumber", false), ("TooMany", false), ("NoName", false), ("InUse", false), ("NoDeed", false), ("NoText", false)]
theorem join_NoRow : Txt.join (Str.ofString " ") [Str.ofString "NoRow"] = Str.ofString "NoRow" := by decide +kernel
def marks_NoTurn : List (Str × Bool) := [("NoTurn", true), ("NoBook", false), ("NoWord", false), ("NoRow", false), ("NoMachine", false), ("NoNumber", false), ("TooMany", false), ("NoName", false), ("InUse", false), ("NoDeed", false), ("NoText", false)]
theorem join_NoTurn : Txt.join (Str.ofString " ") [Str.ofString "NoTurn"] = Str.ofString "NoTurn" := by decide +kernel
def marks_NoWord : List (Str × Bool) := [("NoTurn", false), ("NoBook", false), ("NoWord", true), ("NoRow", false), ("NoMachine", false), ("NoNumber", false), ("TooMany", false), ("NoName", false), ("InUse", false), ("NoDeed", false), ("NoText", false)]
theorem join_NoWord : Txt.join (Str.ofString " ") [Str.ofString "NoWord"] = Str.ofString "NoWord" := by decide +kernel
section
variable {C_NoRow C_NoTurn C_NoWord C_HandError C_NoText C_NoDeed C_InUse C_NoName C_TooMany C_NoNumber C_NoMachine C_NoBook f : Addr} {dl : DLm} {we : DWX} {E : DEnds} {x0 x1 x2 x3 : Option D}
theorem told_5_NoRow {M : Mem} {c : Addr} (gc : M c = some (.lst (marks_NoRow.map fun p => .tup [.str p.1, .bl p.2]))) (hq : ∀ M', M.le M' → E.rt (.tup [.str "refused", .str "NoRow"]) M') :
    rd_law_told_5 C_NoRow C_NoTurn C_NoWord C_HandError C_NoText C_NoDeed C_InUse C_NoName C_TooMany C_NoNumber C_NoMachine C_NoBook f dl we E [x0, x1, x2, x3, some (.ref c), none, none] M := by
  unfold rd_law_told_5 dJoin
  walk_at "rf"
  refine ⟨⟨_, rfl⟩, ?_⟩
  walk_at "rf"
  rw [itOf_r gc]
  dsimp only
  refine comp_marks gc marks_NoRow [] _ _ (by decide) ?_
  refine fun c2 hc2 => ?_
  unfold joinD
  dsimp only
  rw [itemsOf_r Mem.set_same]
  refine ⟨by decide, by walk_at "sz", ?_⟩
  show E.rt (.tup [.str "refused", .str (Txt.join (Str.ofString " ") [Str.ofString "NoRow"])]) _
  rw [join_NoRow]
  exact hq _ (Mem.le_set hc2)
theorem told_4_NoRow {M : Mem} {a : Addr} (ga : M a = some (.exc (.ref C_NoRow))) (hq : ∀ M', M.le M' → E.rt (.tup [.str "refused", .str "NoRow"]) M') :
    rd_law_told_4 C_NoRow C_NoTurn C_NoWord C_HandError C_NoText C_NoDeed C_InUse C_NoName C_TooMany C_NoNumber C_NoMachine C_NoBook f dl we E [x0, x1, some (.ref a), x3, none, none, none] M := by
  unfold rd_law_told_4
  walk_at "rf"
  refine isiE_r ga (b := false) (.tail _ (.head _)) ⟨by walk_at "sz", isiE_r ga (b := false) (.tail _ (.head _)) ⟨by walk_at "sz", isiE_r ga (b := false) (.tail _ (.head _)) ⟨by walk_at "sz", isiE_r ga (b := true) (.tail _ (.head _)) ⟨by walk_at "sz", isiE_r ga (b := false) (.tail _ (.head _)) ⟨by walk_at "sz", isiE_r ga (b := false) (.tail _ (.head _)) ⟨by walk_at "sz", isiE_r ga (b := false) (.tail _ (.head _)) ⟨by walk_at "sz", isiE_r ga (b := false) (.tail _ (.head _)) ⟨by walk_at "sz", isiE_r ga (b := false) (.tail _ (.head _)) ⟨by walk_at "sz", isiE_r ga (b := false) (.tail _ (.head _)) ⟨by walk_at "sz", isiE_r ga (b := false) (.tail _ (.head _)) ⟨by walk_at "sz", by walk_at "sz", fun c hc => ?_⟩⟩⟩⟩⟩⟩⟩⟩⟩⟩⟩
  exact told_5_NoRow Mem.set_same fun M' le => hq M' (Mem.le_trans (Mem.le_set hc) le)
theorem told_5_NoTurn {M : Mem} {c : Addr} (gc : M c = some (.lst (marks_NoTurn.map fun p => .tup [.str p.1, .bl p.2]))) (hq : ∀ M', M.le M' → E.rt (.tup [.str "refused", .str "NoTurn"]) M') :
    rd_law_told_5 C_NoRow C_NoTurn C_NoWord C_HandError C_NoText C_NoDeed C_InUse C_NoName C_TooMany C_NoNumber C_NoMachine C_NoBook f dl we E [x0, x1, x2, x3, some (.ref c), none, none] M := by
  unfold rd_law_told_5 dJoin
  walk_at "rf"
  refine ⟨⟨_, rfl⟩, ?_⟩
  walk_at "rf"
  rw [itOf_r gc]
  dsimp only
  refine comp_marks gc marks_NoTurn [] _ _ (by decide) ?_
  refine fun c2 hc2 => ?_
  unfold joinD
  dsimp only
  rw [itemsOf_r Mem.set_same]
  refine ⟨by decide, by walk_at "sz", ?_⟩
  show E.rt (.tup [.str "refused", .str (Txt.join (Str.ofString " ") [Str.ofString "NoTurn"])]) _
  rw [join_NoTurn]
  exact hq _ (Mem.le_set hc2)
theorem told_4_NoTurn {M : Mem} {a : Addr} (ga : M a = some (.exc (.ref C_NoTurn))) (hq : ∀ M', M.le M' → E.rt (.tup [.str "refused", .str "NoTurn"]) M') :
    rd_law_told_4 C_NoRow C_NoTurn C_NoWord C_HandError C_NoText C_NoDeed C_InUse C_NoName C_TooMany C_NoNumber C_NoMachine C_NoBook f dl we E [x0, x1, some (.ref a), x3, none, none, none] M := by
  unfold rd_law_told_4
  walk_at "rf"
  refine isiE_r ga (b := true) (.tail _ (.tail _ (.head _))) ⟨by walk_at "sz", isiE_r ga (b := false) (.tail _ (.tail _ (.head _))) ⟨by walk_at "sz", isiE_r ga (b := false) (.tail _ (.tail _ (.head _))) ⟨by walk_at "sz", isiE_r ga (b := false) (.tail _ (.tail _ (.head _))) ⟨by walk_at "sz", isiE_r ga (b := false) (.tail _ (.tail _ (.head _))) ⟨by walk_at "sz", isiE_r ga (b := false) (.tail _ (.tail _ (.head _))) ⟨by walk_at "sz", isiE_r ga (b := false) (.tail _ (.tail _ (.head _))) ⟨by walk_at "sz", isiE_r ga (b := false) (.tail _ (.tail _ (.head _))) ⟨by walk_at "sz", isiE_r ga (b := false) (.tail _ (.tail _ (.head _))) ⟨by walk_at "sz", isiE_r ga (b := false) (.tail _ (.tail _ (.head _))) ⟨by walk_at "sz", isiE_r ga (b := false) (.tail _ (.tail _ (.head _))) ⟨by walk_at "sz", by walk_at "sz", fun c hc => ?_⟩⟩⟩⟩⟩⟩⟩⟩⟩⟩⟩
  exact told_5_NoTurn Mem.set_same fun M' le => hq M' (Mem.le_trans (Mem.le_set hc) le)
theorem told_5_NoWord {M : Mem} {c : Addr} (gc : M c = some (.lst (marks_NoWord.map fun p => .tup [.str p.1, .bl p.2]))) (hq : ∀ M', M.le M' → E.rt (.tup [.str "refused", .str "NoWord"]) M') :
    rd_law_told_5 C_NoRow C_NoTurn C_NoWord C_HandError C_NoText C_NoDeed C_InUse C_NoName C_TooMany C_NoNumber C_NoMachine C_NoBook f dl we E [x0, x1, x2, x3, some (.ref c), none, none] M := by
  unfold rd_law_told_5 dJoin
  walk_at "rf"
  refine ⟨⟨_, rfl⟩, ?_⟩
  walk_at "rf"
  rw [itOf_r gc]
  dsimp only
  refine comp_marks gc marks_NoWord [] _ _ (by decide) ?_
  refine fun c2 hc2 => ?_
  unfold joinD
  dsimp only
  rw [itemsOf_r Mem.set_same]
  refine ⟨by decide, by walk_at "sz", ?_⟩
  show E.rt (.tup [.str "refused", .str (Txt.join (Str.ofString " ") [Str.ofString "NoWord"])]) _
  rw [join_NoWord]
  exact hq _ (Mem.le_set hc2)
theorem told_4_NoWord {M : Mem} {a : Addr} (ga : M a = some (.exc (.ref C_NoWord))) (hq : ∀ M', M.le M' → E.rt (.tup [.str "refused", .str "NoWord"]) M') :
    rd_law_told_4 C_NoRow C_NoTurn C_NoWord C_HandError C_NoText C_NoDeed C_InUse C_NoName C_TooMany C_NoNumber C_NoMachine C_NoBook f dl we E [x0, x1, some (.ref a), x3, none, none, none] M := by
  unfold rd_law_told_4
  walk_at "rf"
  refine isiE_r ga (b := false) (.tail _ (.tail _ (.tail _ (.head _)))) ⟨by walk_at "sz", isiE_r ga (b := false) (.tail _ (.tail _ (.tail _ (.head _)))) ⟨by walk_at "sz", isiE_r ga (b := true) (.tail _ (.tail _ (.tail _ (.head _)))) ⟨by walk_at "sz", isiE_r ga (b := false) (.tail _ (.tail _ (.tail _ (.head _)))) ⟨by walk_at "sz", isiE_r ga (b := false) (.tail _ (.tail _ (.tail _ (.head _)))) ⟨by walk_at "sz", isiE_r ga (b := false) (.tail _ (.tail _ (.tail _ (.head _)))) ⟨by walk_at "sz", isiE_r ga (b := false) (.tail _ (.tail _ (.tail _ (.head _)))) ⟨by walk_at "sz", isiE_r ga (b := false) (.tail _ (.tail _ (.tail _ (.head _)))) ⟨by walk_at "sz", isiE_r ga (b := false) (.tail _ (.tail _ (.tail _ (.head _)))) ⟨by walk_at "sz", isiE_r ga (b := false) (.tail _ (.tail _ (.tail _ (.head _)))) ⟨by walk_at "sz", isiE_r ga (b := false) (.tail _ (.tail _ (.tail _ (.head _)))) ⟨by walk_at "sz", by walk_at "sz", fun c hc => ?_⟩⟩⟩⟩⟩⟩⟩⟩⟩⟩⟩
  exact told_5_NoWord Mem.set_same fun M' le => hq M' (Mem.le_trans (Mem.le_set hc) le)
theorem told_3n {d : D} {m : Mem} {q : DQ} (hq : q (.tup [.str "told", d]) m) : rd_law_told_3 C_NoRow C_NoTurn C_NoWord C_HandError C_NoText C_NoDeed C_InUse C_NoName C_TooMany C_NoNumber C_NoMachine C_NoBook f dl we (defEnds q) [some (.ref f), some d, some .non, none, none, none, none] m := by
  unfold rd_law_told_3
  walk_at "rf"
  rw [isND_nn]
  walk_at "rf"
  exact ⟨by walk_at "sz", defEnds_here hq⟩
theorem told_3r_NoRow {a : Addr} {M : Mem} {E : DEnds} (ga : M a = some (.exc (.ref C_NoRow))) (hq : ∀ M', M.le M' → E.rt (.tup [.str "refused", .str "NoRow"]) M') :
    rd_law_told_3 C_NoRow C_NoTurn C_NoWord C_HandError C_NoText C_NoDeed C_InUse C_NoName C_TooMany C_NoNumber C_NoMachine C_NoBook f dl we E [some (.ref f), some .non, some (.ref a), none, none, none, none] M := by
  unfold rd_law_told_3
  walk_at "rf"
  rw [isND_r]
  walk_at "rf"
  exact told_4_NoRow ga hq
theorem told_3r_NoTurn {a : Addr} {M : Mem} {E : DEnds} (ga : M a = some (.exc (.ref C_NoTurn))) (hq : ∀ M', M.le M' → E.rt (.tup [.str "refused", .str "NoTurn"]) M') :
    rd_law_told_3 C_NoRow C_NoTurn C_NoWord C_HandError C_NoText C_NoDeed C_InUse C_NoName C_TooMany C_NoNumber C_NoMachine C_NoBook f dl we E [some (.ref f), some .non, some (.ref a), none, none, none, none] M := by
  unfold rd_law_told_3
  walk_at "rf"
  rw [isND_r]
  walk_at "rf"
  exact told_4_NoTurn ga hq
theorem told_3r_NoWord {a : Addr} {M : Mem} {E : DEnds} (ga : M a = some (.exc (.ref C_NoWord))) (hq : ∀ M', M.le M' → E.rt (.tup [.str "refused", .str "NoWord"]) M') :
    rd_law_told_3 C_NoRow C_NoTurn C_NoWord C_HandError C_NoText C_NoDeed C_InUse C_NoName C_TooMany C_NoNumber C_NoMachine C_NoBook f dl we E [some (.ref f), some .non, some (.ref a), none, none, none, none] M := by
  unfold rd_law_told_3
  walk_at "rf"
  rw [isND_r]
  walk_at "rf"
  exact told_4_NoWord ga hq
theorem told_2 {m : Mem} {q : DQ} (h : sp_law_told C_NoRow C_NoTurn C_NoWord dl m q) : rd_law_told_2 C_NoRow C_NoTurn C_NoWord C_HandError C_NoText C_NoDeed C_InUse C_NoName C_TooMany C_NoNumber C_NoMachine C_NoBook f dl we (defEnds q) [some (.ref f), some .non, some .non, none, none, none, none] m := by
  unfold rd_law_told_2 dTryK dAct dSeq
  refine ⟨rfl, h _ _ (fun d m' hq => told_3n hq) fun c nm m' hm hq => ?_⟩
  simp only [List.mem_cons, List.not_mem_nil, or_false, Prod.mk.injEq] at hm
  rcases hm with ⟨rfl, rfl⟩ | ⟨rfl, rfl⟩ | ⟨rfl, rfl⟩
  · refine ⟨true, (.head _), fun _ a ha => ?_, fun z => (nomatch z)⟩
    exact told_3r_NoRow Mem.set_same fun M' le => defEnds_le (Mem.le_trans (Mem.le_set ha) le) hq
  · refine ⟨true, (.tail _ (.head _)), fun _ a ha => ?_, fun z => (nomatch z)⟩
    exact told_3r_NoTurn Mem.set_same fun M' le => defEnds_le (Mem.le_trans (Mem.le_set ha) le) hq
  · refine ⟨true, (.tail _ (.tail _ (.head _))), fun _ a ha => ?_, fun z => (nomatch z)⟩
    exact told_3r_NoWord Mem.set_same fun M' le => defEnds_le (Mem.le_trans (Mem.le_set ha) le) hq
end
theorem told_asg {F : DTS} {j : Nat} {E : DEnds} {ρ : DEnv} {m : Mem} {d : D} (hF : F E (ρ.set j (some d)) m) : dSeq (dAsg (dC d) (gNm j)) F E ρ m := hF
theorem rdok_law_told (C_NoRow C_NoTurn C_NoWord C_HandError C_NoText C_NoDeed C_InUse C_NoName C_TooMany C_NoNumber C_NoMachine C_NoBook : Addr) (f : Addr) (dl : DLm) {m q} (h : sp_law_told C_NoRow C_NoTurn C_NoWord dl m q) :
    rd_law_told C_NoRow C_NoTurn C_NoWord C_HandError C_NoText C_NoDeed C_InUse C_NoName C_TooMany C_NoNumber C_NoMachine C_NoBook f dl (fun _ _ _ => False) (defEnds q) (startD N_law_told [.ref f]) m := told_asg (told_asg (told_2 h))

/-! ### a def's list of lambdas -/
structure Kept (m M : Mem) (a : Addr) (nm : Str) (CL : List (Str × Addr)) (ks : List (Addr × LamSyn × List Str)) : Prop where
  le : m.le M
  lst : M a = some (.lst (ks.map fun k => D.ref k.1))
  na : m a = none
  lam : ∀ k ∈ ks, M k.1 = some (.lam nm k.2.1 k.2.2 CL) ∧ m k.1 = none ∧ k.1 ≠ a
  nd : (ks.map (·.1)).Nodup
theorem Kept.one {m : Mem} {f a : Addr} {nm : Str} {L : LamSyn} {fr : List Str} {CL : List (Str × Addr)} (hf : m f = none) (ha : (m.set f (.lam nm L fr CL)) a = none) :
    Kept m ((m.set f (.lam nm L fr CL)).set a (.lst [.ref f])) a nm CL [(f, L, fr)] := by
  obtain ⟨ha0, naf⟩ := Mem.set_none ha
  refine ⟨Mem.le_trans (Mem.le_set hf) (Mem.le_set ha), Mem.set_same, ha0, fun k hk => ?_, by simp⟩
  rw [List.mem_singleton] at hk
  subst hk
  exact ⟨by rw [Mem.set_ne (Ne.symm naf), Mem.set_same], hf, Ne.symm naf⟩
theorem Kept.add {m M : Mem} {f a : Addr} {nm : Str} {L : LamSyn} {fr : List Str} {CL : List (Str × Addr)} {ks : List (Addr × LamSyn × List Str)} (h : Kept m M a nm CL ks) (hf : M f = none) :
    Kept m ((M.set f (.lam nm L fr CL)).set a (.lst ((ks.map fun k => D.ref k.1) ++ [.ref f]))) a nm CL (ks ++ [(f, L, fr)]) := by
  have naf : a ≠ f := Mem.live_ne h.lst hf
  have l1 := Mem.le_trans h.le (Mem.le_set (o := .lam nm L fr CL) hf)
  have hmf : m f = none := Mem.le_none h.le hf
  refine ⟨Mem.le_set_of l1 h.na, by rw [Mem.set_same, List.map_append]; rfl, h.na, fun k hk => ?_, ?_⟩
  · rcases List.mem_append.mp hk with hk | hk
    · obtain ⟨h1, h2, h3⟩ := h.lam k hk
      have nf : k.1 ≠ f := Mem.live_ne h1 hf
      exact ⟨by rw [Mem.set_ne h3, Mem.set_ne nf]; exact h1, h2, h3⟩
    · rw [List.mem_singleton] at hk
      subst hk
      exact ⟨by rw [Mem.set_ne (Ne.symm naf), Mem.set_same], hmf, Ne.symm naf⟩
  · rw [List.map_append, List.nodup_append]
    refine ⟨h.nd, by simp, fun x hx y hy => ?_⟩
    rw [List.map_cons, List.map_nil, List.mem_singleton] at hy
    subst hy
    obtain ⟨k, hk, rfl⟩ := List.mem_map.mp hx
    exact Mem.live_ne (h.lam k hk).1 hf
/-! ### what is no turn is refused -/
def isTold (i : Nat) : Prop := i = 0 ∨ i = 1 ∨ i = 4
def Res (T : D) (i : Nat) (d : D) : Prop := ∃ s r, d = .tup [.str s, r] ∧ (isTurnD T = true → isTold i → s = "told") ∧ (isTurnD T = false → s = "refused" ∧ r = .str "NoTurn")
theorem told_no {T : D} {i : Nat} (h : isTurnD T = false) : Res T i (.tup [.str "refused", .str "NoTurn"]) := ⟨_, _, rfl, (fun z => by rw [h] at z; cases z), fun _ => ⟨rfl, rfl⟩⟩
theorem told_ok {T r : D} {i : Nat} (h : isTurnD T = true) : Res T i (.tup [.str "told", r]) := ⟨_, _, rfl, fun _ _ => rfl, fun z => by rw [h] at z; cases z⟩
theorem told_un {T r : D} {i : Nat} {s : Str} (h : isTurnD T = true) (hi : ¬ isTold i) : Res T i (.tup [.str s, r]) := ⟨_, _, rfl, fun _ z => absurd z hi, fun z => by rw [h] at z; cases z⟩
theorem ThingT.le {m M : Mem} {d : D} (h : ThingT m d) (l : m.le M) : ThingT M d := by
  rcases h with ⟨xs, e, hl, hx⟩ | h | ⟨h1, h2⟩
  · exact .inl ⟨xs, e, hl, fun x hx' => (hx x hx').le l⟩
  · exact .inr (.inl h)
  · exact .inr (.inr ⟨kn_le h1 l, isA_le h2 l⟩)
abbrev noT : D := .tup [.str "refused", .str "NoTurn"]
theorem sh_noT : SeqAt.shaped (.list (List.replicate 5 (PyData.tuple [.str "refused", .str "NoTurn"]))) = true ∧ PyData.eqv (.list (List.replicate 5 (PyData.tuple [.str "refused", .str "NoTurn"]))) (.list (List.replicate 5 (PyData.tuple [.str "refused", .str "NoTurn"]))) = true := by decide +kernel
theorem rdok_law_turns_refused (C_NoTurn C_NoRow C_NoWord P : Addr) (CL : List (Str × Addr)) (l0 l1 l2 l3 l4 : LamSyn) {ds m q qe} (h : sp_law_turns_refused C_NoTurn P ds m q qe) :
    rd_law_turns_refused C_NoTurn C_NoRow C_NoWord P CL l0 l1 l2 l3 l4 (fun cls _ m => qe cls m) (defEnds q) (startD N_law_turns_refused ds) m := by
  obtain ⟨T, e, e0, hP, hT, ⟨t, e1, okt⟩, hq⟩ := sp2_at h
  clear h
  subst e0 e1
  show rd_law_turns_refused C_NoTurn C_NoRow C_NoWord P CL l0 l1 l2 l3 l4 _ (defEnds q) [some T, some (.ftup (t.map D.int)), none, none, none, none, none] m
  unfold rd_law_turns_refused
  walk_at "rf"
  refine ⟨by walk_at "sz", ?_⟩
  unfold rd_law_turns_refused_1 dKeep
  walk_at "rf"
  refine ⟨hP, fun f0 h0 => ⟨by walk_at "sz", fun a ha => ?_⟩⟩
  have K0 := Kept.one (nm := lamQ "_law_turns_refused") (L := l0) (fr := ["_law_thing_here"]) (CL := CL) h0 ha
  generalize (m.set f0 (.lam (lamQ "_law_turns_refused") l0 ["_law_thing_here"] CL)).set a (.lst [D.ref f0]) = M0 at K0 ⊢
  clear ha h0
  unfold rd_law_turns_refused_2 dKeep
  walk_at "rf"
  refine ⟨⟨a, _, rfl, K0.lst⟩, K0.le _ _ hP, fun f1 h1 => ?_⟩
  rw [appendD_r (xs := _) (by rw [Mem.set_ne (Mem.live_ne K0.lst h1)]; exact K0.lst)]
  refine ⟨by rw [List.length_map]; exact sized' (by simp), ?_⟩
  have K1 := K0.add (L := l1) (fr := ["_law_thing_here"]) h1
  generalize (M0.set f1 (.lam (lamQ "_law_turns_refused") l1 ["_law_thing_here"] CL)).set a _ = M1 at K1 ⊢
  clear h1
  unfold rd_law_turns_refused_3 dKeep
  walk_at "rf"
  refine ⟨⟨a, _, rfl, K1.lst⟩, K1.le _ _ hP, fun f2 h2 => ?_⟩
  rw [appendD_r (xs := _) (by rw [Mem.set_ne (Mem.live_ne K1.lst h2)]; exact K1.lst)]
  refine ⟨by rw [List.length_map]; exact sized' (by simp), ?_⟩
  have K2 := K1.add (L := l2) (fr := ["_law_thing_here", "_law_good"]) h2
  generalize (M1.set f2 (.lam (lamQ "_law_turns_refused") l2 ["_law_thing_here", "_law_good"] CL)).set a _ = M2 at K2 ⊢
  clear h2
  unfold rd_law_turns_refused_4 dKeep
  walk_at "rf"
  refine ⟨⟨a, _, rfl, K2.lst⟩, K2.le _ _ hP, fun f3 h3 => ?_⟩
  rw [appendD_r (xs := _) (by rw [Mem.set_ne (Mem.live_ne K2.lst h3)]; exact K2.lst)]
  refine ⟨by rw [List.length_map]; exact sized' (by simp), ?_⟩
  have K3 := K2.add (L := l3) (fr := ["_law_thing_here", "_law_good"]) h3
  generalize (M2.set f3 (.lam (lamQ "_law_turns_refused") l3 ["_law_thing_here", "_law_good"] CL)).set a _ = M3 at K3 ⊢
  clear h3
  unfold rd_law_turns_refused_5 dKeep
  walk_at "rf"
  refine ⟨⟨a, _, rfl, K3.lst⟩, K3.le _ _ hP, fun f4 h4 => ?_⟩
  rw [appendD_r (xs := _) (by rw [Mem.set_ne (Mem.live_ne K3.lst h4)]; exact K3.lst)]
  refine ⟨by rw [List.length_map]; exact sized' (by simp), ?_⟩
  have K4 := K3.add (L := l4) (fr := ["_law_thing_here"]) h4
  generalize (M3.set f4 (.lam (lamQ "_law_turns_refused") l4 ["_law_thing_here"] CL)).set a _ = M at K4 ⊢
  clear h4
  have le := K4.le
  have ga : M a = some (.lst [.ref f0, .ref f1, .ref f2, .ref f3, .ref f4]) := K4.lst
  have gf : ∀ i f L fr, ([(f0, l0, ["_law_thing_here"]), (f1, l1, ["_law_thing_here"]), (f2, l2, ["_law_thing_here", "_law_good"]), (f3, l3, ["_law_thing_here", "_law_good"]), (f4, l4, ["_law_thing_here"])] : List (Addr × LamSyn × List Str))[i]? = some (f, L, fr) → M f = some (.lam (lamQ "_law_turns_refused") L fr CL) := fun i f L fr e => (K4.lam (f, L, fr) (List.mem_of_getElem? e)).1
  clear K0 K1 K2 K3 K4
  unfold rd_law_turns_refused_6
  walk_at "rf"
  rw [itOf_r ga]
  dsimp only
  refine comp_inv (fun items acc m' => ∃ j, j ≤ 5 ∧ items = ([.ref f0, .ref f1, .ref f2, .ref f3, .ref f4] : List D).drop j ∧ acc.length = j ∧ (∀ i d, acc[i]? = some d → Res T i d) ∧ M.le m') (fun _ _ m' hP => by obtain ⟨_, _, _, _, _, l⟩ := hP; exact l _ _ ga) (fun acc m' hP => ?_) (fun d r acc m' hP N hN => ?_) _ _ _ ⟨0, by omega, rfl, rfl, (fun i d h => by simp at h), Mem.le_refl _⟩
  · obtain ⟨j, hj, ei, hl, hR, l⟩ := hP
    have hj5 : j = 5 := by
      have := congrArg List.length ei
      rw [List.length_drop] at this
      simp at this; omega
    subst hj5
    match acc, hl with
    | [d0, d1, d2, d3, d4], _ =>
      obtain ⟨s0, r0, rfl, t0, n0⟩ := hR 0 d0 rfl
      obtain ⟨s1, r1, rfl, t1, n1⟩ := hR 1 d1 rfl
      obtain ⟨s2, r2, rfl, _, n2⟩ := hR 2 d2 rfl
      obtain ⟨s3, r3, rfl, _, n3⟩ := hR 3 d3 rfl
      obtain ⟨s4, r4, rfl, t4, n4⟩ := hR 4 d4 rfl
      intro c hc
      have gc : (m'.set c (.lst [.tup [.str s0, r0], .tup [.str s1, r1], .tup [.str s2, r2], .tup [.str s3, r3], .tup [.str s4, r4]])) c = some (.lst [.tup [.str s0, r0], .tup [.str s1, r1], .tup [.str s2, r2], .tup [.str s3, r3], .tup [.str s4, r4]]) := Mem.set_same
      have lc := Mem.le_trans (Mem.le_trans le l) (Mem.le_set (o := .lst [.tup [.str s0, r0], .tup [.str s1, r1], .tup [.str s2, r2], .tup [.str s3, r3], .tup [.str s4, r4]]) hc)
      generalize m'.set c (.lst [.tup [.str s0, r0], .tup [.str s1, r1], .tup [.str s2, r2], .tup [.str s3, r3], .tup [.str s4, r4]]) = N at gc lc
      unfold rd_law_turns_refused_7
      walk_at "rf"
      refine ⟨hT.le lc, ?_⟩
      cases ht : isTurnD T with
      | true =>
        cases t0 ht (.inl rfl)
        cases t1 ht (.inr (.inl rfl))
        cases t4 ht (.inr (.inr rfl))
        walk_at "rf"
        rw [slD_r gc]
        intro p hp
        rw [show cutL [D.tup [.str "told", r0], .tup [.str "told", r1], .tup [.str s2, r2], .tup [.str s3, r3], .tup [.str "told", r4]] none (some 2) = [.tup [.str "told", r0], .tup [.str "told", r1]] from rfl]
        rw [itOf_r Mem.set_same]
        dsimp only
        have gp : (N.set p (.lst [.tup [.str "told", r0], .tup [.str "told", r1]])) p = some (.lst [.tup [.str "told", r0], .tup [.str "told", r1]]) := Mem.set_same
        have gc2 := Mem.le_set (o := .lst [.tup [.str "told", r0], .tup [.str "told", r1]]) hp _ _ gc
        have lp := Mem.le_trans lc (Mem.le_set (o := .lst [.tup [.str "told", r0], .tup [.str "told", r1]]) hp)
        generalize N.set p (.lst [.tup [.str "told", r0], .tup [.str "told", r1]]) = N2 at *
        refine comp_map (fun _ => .str "told") gp _ [] (fun d' hd K hK => ?_) (by walk_at "sz") ?_
        · simp only [List.mem_cons, List.not_mem_nil, or_false] at hd
          rcases hd with rfl | rfl
          · walk_at "rf"
            rw [ixD_t (at20 _ _)]
            exact hK
          · walk_at "rf"
            rw [ixD_t (at20 _ _)]
            exact hK
        · refine ⟨by walk_at "sz", ?_⟩
          rw [show ([] ++ [D.tup [.str "told", r0], .tup [.str "told", r1]].map fun _ => D.str "told") = (["told", "told"] : List Str).map D.str from rfl, show ([D.str "told", .str "told"]) = (["told", "told"] : List Str).map D.str from rfl]
          refine eqLs_strs (by decide +kernel) (by decide +kernel) ?_
          rw [decide_eq_true rfl]
          walk_at "rf"
          rw [ixD_r gc2 (i := 4) (atI_nat (j := 4) rfl), ixD_t (at20 _ _)]
          walk_at "rf"
          exact defEnds_le lp hq
      | false =>
        obtain ⟨rfl, rfl⟩ := n0 ht
        obtain ⟨rfl, rfl⟩ := n1 ht
        obtain ⟨rfl, rfl⟩ := n2 ht
        obtain ⟨rfl, rfl⟩ := n3 ht
        obtain ⟨rfl, rfl⟩ := n4 ht
        walk_at "rf"
        unfold rd_law_turns_refused_8
        walk_at "rf"
        refine ⟨by walk_at "sz", fun p hp => ?_⟩
        refine ⟨_, rfl, by decide, by decide, by simp [sizeLine_eq], fun p2 hp2 => ?_⟩
        rw [show (List.replicate (Int.toNat 5) [noT]).flatten = List.replicate 5 noT from rfl]
        have gc3 := Mem.le_set (o := .lst (List.replicate 5 noT)) hp2 _ _ (Mem.le_set (o := .lst [noT]) hp _ _ gc)
        refine eqD_refs gc3 Mem.set_same (ps := List.replicate 5 (PyData.tuple [.str "refused", .str "NoTurn"])) (fun f => rfl) (fun f => rfl) sh_noT.1 sh_noT.2 ?_
        exact defEnds_le (Mem.le_trans lc (Mem.le_trans (Mem.le_set hp) (Mem.le_set hp2))) hq
  · obtain ⟨j, hj, ei, hl, hR, l⟩ := hP
    have hT' : ThingT m' T := hT.le (Mem.le_trans le l)
    have kt : knT m' (.ftup (t.map D.int)) := knT_f m' t
    have tg : isTurnD (.ftup (t.map D.int)) = true := by rw [isTurnD_f]; exact okt
    have jl : j < 5 := by
      have := congrArg List.length ei
      rw [List.length_drop, List.length_cons] at this
      simp at this; omega
    have szj : acc.length < sizeLine := by rw [sizeLine_eq]; omega
    have fin : ∀ (d : D) M2, r = ([.ref f0, .ref f1, .ref f2, .ref f3, .ref f4] : List D).drop (j + 1) → Res T j d → m'.le M2 → acc.length < sizeLine ∧ N (acc ++ [d]) M2 := fun d M2 er hd l2 => ⟨szj, hN _ _ ⟨j + 1, by omega, er, by rw [List.length_append, hl]; rfl, (fun i x hx => by
        rcases Nat.lt_or_ge i acc.length with z | z
        · rw [List.getElem?_append_left z] at hx; exact hR i x hx
        · rw [List.getElem?_append_right z] at hx
          rcases Nat.eq_zero_or_pos (i - acc.length) with y | y
          · rw [y] at hx; cases hx
            have : i = j := by omega
            rw [this]; exact hd
          · rw [List.getElem?_eq_none (by rw [List.length_singleton]; exact y)] at hx
            cases hx), Mem.le_trans l l2⟩⟩
    have mem : (C_NoTurn, ("NoTurn" : Str)) ∈ [(C_NoRow, ("NoRow" : Str)), (C_NoTurn, ("NoTurn" : Str)), (C_NoWord, ("NoWord" : Str))] := by simp
    have l0' := Mem.le_refl m'
    have hj5 : j = 0 ∨ j = 1 ∨ j = 2 ∨ j = 3 ∨ j = 4 := by omega
    rcases hj5 with rfl | rfl | rfl | rfl | rfl
    · obtain ⟨rfl, rfl⟩ : d = .ref f0 ∧ r = [.ref f1, .ref f2, .ref f3, .ref f4] := by simpa using ei
      walk_at "rf"
      unfold dTellLB
      walk_at "rf"
      refine ⟨f0, ⟨l0, _⟩, _, rfl, List.mem_of_getElem? (i := 0) rfl, l _ _ (gf 0 _ _ _ rfl), fun k ke hk hke => ?_⟩
      dsimp only
      walk_at "rf"
      exact ⟨hT'.knT, fun z => by
        obtain ⟨u, e, ok⟩ := hT.turn z
        exact ⟨u, e, ok, hk _ _ (fin _ _ rfl (told_ok z) l0')⟩, fun z => hke _ _ _ mem (fin _ _ rfl (told_no z) l0')⟩
    · obtain ⟨rfl, rfl⟩ : d = .ref f1 ∧ r = [.ref f2, .ref f3, .ref f4] := by simpa using ei
      walk_at "rf"
      unfold dTellLB
      walk_at "rf"
      refine ⟨f1, ⟨l1, _⟩, _, rfl, List.mem_of_getElem? (i := 1) rfl, l _ _ (gf 1 _ _ _ rfl), fun k ke hk hke => ?_⟩
      dsimp only
      walk_at "rf"
      exact ⟨hT'.knT, fun z => by
        obtain ⟨u, e, ok⟩ := hT.turn z
        exact ⟨u, e, ok, fun R b hb => hk _ _ (fin _ _ rfl (told_ok z) (Mem.le_set hb))⟩, fun z => hke _ _ _ mem (fin _ _ rfl (told_no z) l0')⟩
    · obtain ⟨rfl, rfl⟩ : d = .ref f2 ∧ r = [.ref f3, .ref f4] := by simpa using ei
      walk_at "rf"
      unfold dTellLB
      walk_at "rf"
      refine ⟨f2, ⟨l2, _⟩, _, rfl, List.mem_of_getElem? (i := 2) rfl, l _ _ (gf 2 _ _ _ rfl), fun k ke hk hke => ?_⟩
      dsimp only
      walk_at "rf"
      exact ⟨hT'.knT, kt, fun z _ => by
        obtain ⟨u, e, ok⟩ := hT.turn z
        exact ⟨u, t, e, rfl, ok, okt, fun _ => hk _ _ (fin _ _ rfl (told_ok z) l0'), fun _ => hke _ _ _ mem (fin _ _ rfl (told_un z (by unfold isTold; omega)) l0')⟩, fun z => hke _ _ _ mem (fin _ _ rfl (told_no (by rw [tg, Bool.and_true] at z; exact z)) l0')⟩
    · obtain ⟨rfl, rfl⟩ : d = .ref f3 ∧ r = [.ref f4] := by simpa using ei
      walk_at "rf"
      unfold dTellLB
      walk_at "rf"
      refine ⟨f3, ⟨l3, _⟩, _, rfl, List.mem_of_getElem? (i := 3) rfl, l _ _ (gf 3 _ _ _ rfl), fun k ke hk hke => ?_⟩
      dsimp only
      walk_at "rf"
      exact ⟨kt, hT'.knT, fun _ z => by
        obtain ⟨u, e, ok⟩ := hT.turn z
        exact ⟨t, u, rfl, e, okt, ok, fun _ => hk _ _ (fin _ _ rfl (told_ok z) l0'), fun _ => hke _ _ _ mem (fin _ _ rfl (told_un z (by unfold isTold; omega)) l0')⟩, fun z => hke _ _ _ mem (fin _ _ rfl (told_no (by rw [tg, Bool.true_and] at z; exact z)) l0')⟩
    · obtain ⟨rfl, rfl⟩ : d = .ref f4 ∧ r = [] := by simpa using ei
      walk_at "rf"
      unfold dTellLB
      walk_at "rf"
      refine ⟨f4, ⟨l4, _⟩, _, rfl, List.mem_of_getElem? (i := 4) rfl, l _ _ (gf 4 _ _ _ rfl), fun k ke hk hke => ?_⟩
      dsimp only
      walk_at "rf"
      exact ⟨hT'.knT, hT'.knT, fun z _ => by
        obtain ⟨u, e, ok⟩ := hT.turn z
        exact ⟨u, u, e, e, ok, ok, fun _ => hk _ _ (fin _ _ rfl (told_ok z) l0'), fun y => absurd rfl y⟩, fun z => hke _ _ _ mem (fin _ _ rfl (told_no (by rw [Bool.and_self] at z; exact z)) l0')⟩

/-! ### steps and letters -/
theorem okP_told : ∀ s ∈ (["told", "refused", "NoWord", "NoRow"] : List Str), (PyData.str s).showable = true ∧ (PyData.str s).leavesShort 8 = true ∧ (PyData.str s).weight ≤ 50 := by decide +kernel
theorem okP_str4 {s : Str} (h : s ∈ (["told", "refused", "NoWord", "NoRow"] : List Str)) : OkP (.str s) 50 0 := by
  obtain ⟨h1, h2, h3⟩ := okP_told s h
  exact ⟨h1, rfl, h2, h3, Nat.le_refl _⟩
theorem pyW_turn {P : Prs} {s : Int} (f : Addr → Option PyData) : pyW f (stepTurnD P s) = some (pyT (stepTurn P s)) := by
  unfold stepTurnD stepTurn
  by_cases h : 0 < s
  · rw [if_pos h, if_pos h]; show (pyWs f _).map PyData.tuple = _; rw [pyWs_ints]; rfl
  · rw [if_neg h, if_neg h]; show (pyWs f _).map PyData.tuple = _; rw [pyWs_ints]; rfl
theorem stepTurn_len {many : Nat} {P : Prs} {s : Int} (ok : IsBook many P) (hs : IsStep P s) : (stepTurn P s).length = many := by
  obtain ⟨_, hm⟩ := pair_at hs
  have := (ok.pair _ hm).len1
  unfold stepTurn
  split
  · exact this
  · rw [undone_len]; exact this
theorem stepTurn_map {many : Nat} {P : Prs} {s : Int} (ok : IsBook many P) (hs : IsStep P s) : (rngI many).map (stepT P s) = stepTurn P s := by
  have hl := stepTurn_len ok hs
  unfold stepT
  generalize stepTurn P s = t at hl
  subst hl
  apply List.ext_getElem
  · rw [List.length_map, rngI_length]
  · intro i h1 h2
    rw [List.getElem_map]
    have : (rngI t.length)[i]'(by rw [rngI_length]; exact h2) = ((i : Nat) : Int) := by simp [rngI]
    rw [this, Int.toNat_natCast, List.getD_eq_getElem?_getD, List.getElem?_eq_getElem h2]; rfl
theorem turn_small {t : List Int} (ok : isTurnL t = true) : ∀ x ∈ t, -6 ≤ x ∧ x ≤ 6 := fun x hx => by
  have := turn_bounds ok x hx
  have := turn_len ok
  omega
theorem okw_step {many : Nat} {P : Prs} {s : Int} (ok : IsBook many P) (hs : IsStep P s) : OkW (stepTurn P s) := by
  obtain ⟨_, hm⟩ := pair_at hs
  have okt := (ok.pair _ hm).turn
  have four := ok.four
  refine ⟨by rw [stepTurn_len ok hs]; omega, fun x hx => ?_⟩
  unfold stepTurn at hx
  split at hx
  · exact turn_small okt x hx
  · have h := turn_cases (p := fun t => (undoneL t).all fun x => decide (-6 ≤ x) && decide (x ≤ 6)) (by decide +kernel) (by decide +kernel) (by decide +kernel) okt
    have := List.all_eq_true.mp h x hx
    simpa using this
theorem stepO_small {many : Nat} {P : Prs} {s x : Int} (ok : IsBook many P) (hs : IsStep P s) : -6 ≤ stepO P s x ∧ stepO P s x ≤ 6 := by
  obtain ⟨_, hm⟩ := pair_at hs
  have on := (ok.pair _ hm).on
  have six := ok.most
  have key : ∀ k : Nat, -6 ≤ (pairOf P s).2.getD k 0 ∧ (pairOf P s).2.getD k 0 ≤ 6 := fun k => by
    rw [List.getD_eq_getElem?_getD]
    rcases Nat.lt_or_ge k (pairOf P s).2.length with z | z
    · rw [List.getElem?_eq_getElem z]
      have := on _ (List.getElem_mem z)
      exact ⟨by simpa using (by omega : -6 ≤ (pairOf P s).2[k]), by simpa using (by omega : (pairOf P s).2[k] ≤ 6)⟩
    · rw [List.getElem?_eq_none z]; exact ⟨by decide, by decide⟩
  unfold stepO
  split
  · exact key _
  · have := key ((pairOf P s).1.idxOf x); omega
/-- what is told of a step's turn, and due -/
structure Due (dT dO eT eO : D) : Prop where
  ex : ∃ p r, (∀ f, pyW f dT = some p) ∧ (∀ f, pyW f eT = some p) ∧ (∀ f, pyW f dO = some r) ∧ (∀ f, pyW f eO = some r) ∧ OkP p 700 3 ∧ OkP r 700 3
theorem pyWs2 {f : Addr → Option PyData} {a b : D} {p q : PyData} (ha : pyW f a = some p) (hb : pyW f b = some q) : pyWs f [a, b] = some [p, q] := by
  rw [pyWs, ha, pyWs, hb, pyWs]
theorem okP_pair {s : Str} {p : PyData} (hs : s ∈ (["told", "refused", "NoWord", "NoRow"] : List Str)) (h : OkP p 500 1) : OkP (.tuple [.str s, p]) 700 3 :=
  ((OkPs.cons ((okP_str4 hs).mono (Nat.le_refl _) (by decide)) (OkPs.cons h (OkPs.nil (w := 0)) (Nat.le_refl _)) (Nat.le_refl _)).tup (e := 3) (by decide)).mono (by decide) (by decide)

theorem at_rng {many : Nat} {x : Int} {f : Int → D} (hx : IsLet many x) : atI ((rngI many).map f) x = some (f x) := by
  obtain ⟨n, rfl⟩ : ∃ n : Nat, x = ((n : Nat) : Int) := ⟨x.toNat, by have := hx.1; omega⟩
  have hn : n < many := by have := hx.2; omega
  refine atI_nat ?_
  rw [List.getElem?_map, show (rngI many)[n]? = some ((n : Nat) : Int) by simp [rngI, hn]]
  rfl
theorem steps_fin {C CR CW CT Pt : Addr} {we : DWX} {m M : Mem} {q : DQ} {x0 x1 x5 x7 x8 x9 : Option D} {e f eT eO : D} {k a6 : Addr} {many : Nat} {P : Prs} (gb : BookAt C M (.ref k) many P) (ok : IsBook many P) (hP : M Pt = some (.tbl (lamQ "_law_steps_refused"))) (oe : OddD M e) (of : OddD M f)
    (g6 : M a6 = some (.lst [eT, eO])) (h0 : stepD P.length e = false → eT = .tup [.str "refused", .str "NoWord"] ∧ eO = .tup [.str "refused", .str "NoWord"])
    (h1 : ∀ s, e = .int s → IsStep P s → eT = .tup [.str "told", .tup ((stepTurn P s).map D.int)] ∧ (letD many f = false → eO = .tup [.str "refused", .str "NoRow"]) ∧ ∀ x, f = .int x → IsLet many x → eO = .tup [.str "told", .int (stepO P s x)])
    (hq : q (.bl true) m) (le : m.le M) : rd_law_steps_refused_4 C CR CW CT Pt we (defEnds q) [x0, x1, some e, some f, some (.ref k), x5, some (.ref a6), x7, x8, x9] M := by
  have memW : (CW, ("NoWord" : Str)) ∈ [(CR, ("NoRow" : Str)), (CT, ("NoTurn" : Str)), (CW, ("NoWord" : Str))] := by simp
  have memR : (CR, ("NoRow" : Str)) ∈ [(CR, ("NoRow" : Str)), (CT, ("NoTurn" : Str)), (CW, ("NoWord" : Str))] := by simp
  have okW : OkP (.tuple [.str "refused", .str "NoWord"]) 700 3 := ((OkPs.cons ((okP_str4 (s := "refused") (by simp)).mono (Nat.le_refl _) (by decide)) (OkPs.cons (okP_str4 (s := "NoWord") (by simp)) (OkPs.nil (w := 0)) (Nat.le_refl _)) (Nat.le_refl _)).tup (e := 3) (by decide)).mono (by decide) (by decide)
  have okR : OkP (.tuple [.str "refused", .str "NoRow"]) 700 3 := ((OkPs.cons ((okP_str4 (s := "refused") (by simp)).mono (Nat.le_refl _) (by decide)) (OkPs.cons (okP_str4 (s := "NoRow") (by simp)) (OkPs.nil (w := 0)) (Nat.le_refl _)) (Nat.le_refl _)).tup (e := 3) (by decide)).mono (by decide) (by decide)
  have last : ∀ (dT dO : D) (p r : PyData) (M2 : Mem) (a9 : Addr), (∀ f, pyW f dT = some p) → (∀ f, pyW f eT = some p) → (∀ f, pyW f dO = some r) → (∀ f, pyW f eO = some r) → OkP p 700 3 → OkP r 700 3 → M.le M2 → M2 a9 = some (.lst [dT, dO]) →
      rd_law_steps_refused_6 C CR CW CT Pt we (defEnds q) [x0, x1, some e, some f, some (.ref k), x5, some (.ref a6), x7, x8, some (.ref a9)] M2 := by
    intro dT dO p r M2 a9 e1 e2 e3 e4 o1 o2 l g9
    have o : OkP (.list [p, r]) 2000 5 := ((OkPs.cons o1 (OkPs.cons o2 (OkPs.nil (w := 0)) (Nat.le_refl _)) (Nat.le_refl _)).lst (e := 5) (by decide)).mono (by decide) (by decide)
    unfold rd_law_steps_refused_6
    walk_at "rf"
    refine repr_l g9 (fun f => pyWs2 (e1 f) (e3 f)) o (by decide) (by decide) (repr_l (l _ _ g6) (fun f => pyWs2 (e2 f) (e4 f)) o (by decide) (by decide) ?_)
    walk_at "rf"
    exact defEnds_le (Mem.le_trans le l) hq
  have main : ∀ (dT : D) (p : PyData), (∀ f, pyW f dT = some p) → (∀ f, pyW f eT = some p) → OkP p 700 3 → ([dT].length ≤ sizeLine ∧ ∀ a, M a = none → rd_law_steps_refused_5 C CR CW CT Pt we (defEnds q) [x0, x1, some e, some f, some (.ref k), x5, some (.ref a6), x7, x8, some (.ref a)] (M.set a (.lst [dT]))) := by
    intro dT p e1 e2 o1
    refine ⟨by walk_at "sz", fun a9 h9 => ?_⟩
    have l9 := Mem.le_set (o := .lst [dT]) h9
    have g9 : (M.set a9 (.lst [dT])) a9 = some (.lst [dT]) := Mem.set_same
    have n69 : a6 ≠ a9 := Mem.live_ne g6 h9
    have st : ∀ dO, (M.le ((M.set a9 (.lst [dT])).set a9 (.lst [dT, dO]))) := fun dO => by
      rw [Mem.set_set]; exact Mem.le_set h9
    unfold rd_law_steps_refused_5 dLam
    walk_at "rf"
    refine ⟨⟨a9, _, rfl, g9⟩, l9 _ _ hP, fun k1 ke hk hke => ?_⟩
    dsimp only
    unfold dMethK
    walk_at "rf"
    obtain ⟨ka, kb, ek, gka, gkb⟩ := id gb
    cases ek
    have gb9 : BookAt C (M.set a9 (.lst [dT])) (.ref k) many P := ⟨k, kb, rfl, l9 _ _ gka, l9 _ _ gkb⟩
    have fin : ∀ (dO : D) (r : PyData), (∀ f, pyW f dO = some r) → (∀ f, pyW f eO = some r) → OkP r 700 3 → appendD (.ref a9) [dO] (M.set a9 (.lst [dT])) fun _ m' => rd_law_steps_refused_6 C CR CW CT Pt we (defEnds q) [x0, x1, some e, some f, some (.ref k), x5, some (.ref a6), x7, x8, some (.ref a9)] m' := fun dO r e3 e4 o2 => by
      rw [appendD_r g9]
      exact ⟨by walk_at "sz", last dT dO p r _ a9 e1 e2 e3 e4 o1 o2 (st dO) Mem.set_same⟩
    refine ⟨k, _, rfl, l9 _ _ gka, look_m (by decide +kernel) (by decide +kernel), rfl, many, P, gb9, ok, (oe.le l9).kn, (of.le l9).kn, fun s x es hs ef hx => ?_, fun z => ?_, fun z z2 => ?_⟩
    · refine hk _ _ (fin _ (.tuple [.str "told", .int (stepO P s x)]) (fun f => by rw [pyW, pyWs2 rfl rfl]; rfl) (fun f => by rw [((h1 s es hs).2.2 x ef hx), pyW, pyWs2 rfl rfl]; rfl) ?_)
      exact okP_pair (by simp) ((okP_int (stepO_small ok hs).1 (stepO_small ok hs).2).mono (by decide) (by decide))
    · exact hke _ _ _ memW (fin _ _ (fun f => by rw [pyW, pyWs2 rfl rfl]; rfl) (fun f => by rw [(h0 z).2, pyW, pyWs2 rfl rfl]; rfl) okW)
    · obtain ⟨s, es, hs⟩ := stepD_int z
      exact hke _ _ _ memR (fin _ _ (fun f => by rw [pyW, pyWs2 rfl rfl]; rfl) (fun f => by rw [(h1 s es hs).2.1 z2, pyW, pyWs2 rfl rfl]; rfl) okR)
  unfold rd_law_steps_refused_4 dLam
  walk_at "rf"
  refine ⟨hP, fun k1 ke hk hke => ?_⟩
  dsimp only
  unfold dMethK
  walk_at "rf"
  obtain ⟨ka, kb, ek, gka, gkb⟩ := id gb
  cases ek
  refine ⟨k, _, rfl, gka, look_m (by decide +kernel) (by decide +kernel), rfl, many, P, gb, ok, oe.kn, fun s es hs => ?_, fun z => ?_⟩
  · exact hk _ _ (main _ (.tuple [.str "told", pyT (stepTurn P s)]) (fun f => by rw [pyW, pyWs2 rfl (pyW_turn f)]; rfl) (fun f => by rw [(h1 s es hs).1, pyW, pyWs2 rfl (show pyW f (.tup ((stepTurn P s).map D.int)) = some (pyT (stepTurn P s)) by rw [pyW, pyWs_ints]; rfl)]; rfl) (okP_pair (by simp) (okP_row (okw_step ok hs))))
  · exact hke _ _ _ memW (main _ _ (fun f => by rw [pyW, pyWs2 rfl rfl]; rfl) (fun f => by rw [(h0 z).1, pyW, pyWs2 rfl rfl]; rfl) okW)
theorem rdok_law_steps_refused (C CR CW CT Pt : Addr) {ds m q qe} (h : sp_law_steps_refused C CR CW Pt ds m q qe) : rd_law_steps_refused C CR CW CT Pt (fun cls _ m => qe cls m) (defEnds q) (startD N_law_steps_refused ds) m := by
  obtain ⟨d, e, f, g, e0, hP, many, P, pr, e1, e2, gp, ok, of, og, hq⟩ := sp4_at h
  clear h
  subst e0 e1 e2
  show rd_law_steps_refused C CR CW CT Pt _ (defEnds q) [some (.int (many : Nat)), some (.ref pr), some f, some g, none, none, none, none, none, none] m
  unfold rd_law_steps_refused dMake
  walk_at "rf"
  rw [listD_r gp]
  intro hh h1 k hk
  obtain ⟨hk0, nkh⟩ := Mem.set_none hk
  refine ⟨many, P, k, rfl, Mem.set_same, rfl, .inl ⟨hh, rfl, by rw [Mem.set_ne nkh.symm]; exact Mem.set_same⟩, ok, fun c hc => ⟨rfl, ?_⟩⟩
  have nck : c ≠ k := by intro z; subst z; rw [Mem.set_same] at hc; cases hc
  generalize hm6 : ((((m.set hh (.lst (P.map pairD))).set k (.ins C [])).set c (.lst (P.map pairD))).set k (.ins C (bookF many c))) = M
  have le : m.le M := by
    rw [← hm6]
    intro z o ez
    have zh : z ≠ hh := Mem.live_ne ez h1
    have zk : z ≠ k := Mem.live_ne ez hk0
    have zc : z ≠ c := Mem.live_ne (by rw [Mem.set_ne zk, Mem.set_ne zh]; exact ez) hc
    rw [Mem.set_ne zk, Mem.set_ne zc, Mem.set_ne zk, Mem.set_ne zh]; exact ez
  have gb : BookAt C M (.ref k) many P := ⟨k, c, rfl, by rw [← hm6]; exact Mem.set_same, by rw [← hm6, Mem.set_ne nck]; exact Mem.set_same⟩
  clear hm6 hk hk0 nkh h1 hc nck
  have gp' := le _ _ gp
  have two := ok.two
  have four := ok.four
  have six := ok.most
  have of' := of.le le
  unfold rd_law_steps_refused_1
  walk_at "rf"
  rw [lenD_r gp', List.length_map]
  walk_at "rf"
  rw [lenD_r gp', List.length_map]
  refine ⟨_, _, of'.kn, rfl, rfl, ?_⟩
  -- whether it is a step
  have there : (match D.bl (betw f (-(P.length : Int)) P.length) with
      | .bl c => if c = true then neD f (.int 0) M fun x m' => rd_law_steps_refused_2 C CR CW CT Pt (fun cls _ m => qe cls m) (defEnds q) [some (.int (many : Nat)), some (.ref pr), some f, some g, some (.ref k), some x, none, none, none, none] m'
        else rd_law_steps_refused_2 C CR CW CT Pt (fun cls _ m => qe cls m) (defEnds q) [some (.int (many : Nat)), some (.ref pr), some f, some g, some (.ref k), some (.bl false), none, none, none, none] M
      | _ => False) ∨ True := .inr trivial
  have rest : ∀ b, stepD P.length f = b → rd_law_steps_refused_2 C CR CW CT Pt (fun cls _ m => qe cls m) (defEnds q) [some (.int (many : Nat)), some (.ref pr), some f, some g, some (.ref k), some (.bl b), none, none, none, none] M := by
    intro b eb
    unfold rd_law_steps_refused_2
    walk_at "rf"
    refine ⟨by walk_at "sz", by walk_at "sz", by walk_at "sz", fun a6 h6 => ?_⟩
    have l6 := Mem.le_set (o := .lst [.tup [.str "refused", .str "NoWord"], .tup [.str "refused", .str "NoWord"]]) h6
    have g6 : (M.set a6 (.lst [.tup [.str "refused", .str "NoWord"], .tup [.str "refused", .str "NoWord"]])) a6 = some (.lst [.tup [.str "refused", .str "NoWord"], .tup [.str "refused", .str "NoWord"]]) := Mem.set_same
    generalize M.set a6 (.lst [.tup [.str "refused", .str "NoWord"], .tup [.str "refused", .str "NoWord"]]) = M2 at l6 g6
    have le2 := Mem.le_trans le l6
    have gb2 : BookAt C M2 (.ref k) many P := by
      obtain ⟨a, b, e, g1, g2⟩ := gb
      exact ⟨a, b, e, l6 _ _ g1, l6 _ _ g2⟩
    have gp2 := l6 _ _ gp'
    unfold rd_law_steps_refused_3
    cases b with
    | false =>
      walk_at "rf"
      exact steps_fin gb2 ok (le2 _ _ hP) (of.le le2) (og.le le2) g6 (fun _ => ⟨rfl, rfl⟩) (fun s es hs => by rw [es, show stepD P.length (.int s) = true from isStepB_of hs] at eb; cases eb) hq le2
    | true =>
      obtain ⟨s, rfl, hs⟩ := stepD_int eb
      walk_at "rf"
      unfold rd_law_steps_refused_3t
      walk_at "rf"
      refine ⟨by omega, by omega, ?_⟩
      rw [rngD0]
      refine comp_map (fun d => match d with | .int x => .tup [.int (stepT P s x), .int (stepO P s x)] | d => d) trivial _ [] (fun d hd K hK => ?_) (by rw [List.length_nil, List.length_map, rngI_length]; exact sized (by omega)) ?_
      · obtain ⟨x, hx, rfl⟩ := List.mem_map.mp hd
        have hx := mem_rngI.mp hx
        walk_at "rf"
        exact ⟨many, P, pr, s, x, rfl, gp2, ok, rfl, hs, rfl, ⟨hx.1, hx.2⟩, hK⟩
      rw [List.nil_append, List.map_map]
      intro a8 h8
      have e8 : (rngI many).map ((fun d => match d with | .int x => D.tup [.int (stepT P s x), .int (stepO P s x)] | d => d) ∘ D.int) = (rngI many).map fun x => D.tup [.int (stepT P s x), .int (stepO P s x)] := rfl
      rw [e8]
      have l8 := Mem.le_set (o := .lst ((rngI many).map fun x => D.tup [.int (stepT P s x), .int (stepO P s x)])) h8
      have g8 : (M2.set a8 (.lst ((rngI many).map fun x => D.tup [.int (stepT P s x), .int (stepO P s x)]))) a8 = some (.lst ((rngI many).map fun x => D.tup [.int (stepT P s x), .int (stepO P s x)])) := Mem.set_same
      generalize M2.set a8 (.lst ((rngI many).map fun x => D.tup [.int (stepT P s x), .int (stepO P s x)])) = M3 at l8 g8
      unfold rd_law_steps_refused_3t1
      walk_at "rf"
      rw [itOf_r g8]
      dsimp only
      refine comp_map (fun d => match d with | .tup (x :: _) => x | d => d) g8 _ [] (fun d hd K hK => ?_) (by rw [List.length_nil, List.length_map, rngI_length]; exact sized (by omega)) ?_
      · obtain ⟨x, hx, rfl⟩ := List.mem_map.mp hd
        walk_at "rf"
        rw [ixD_t (at20 _ _)]
        exact hK
      rw [List.nil_append, List.map_map, show ((rngI many).map ((fun d : D => match d with | .tup (x :: _) => x | d => d) ∘ fun x => D.tup [.int (stepT P s x), .int (stepO P s x)])) = ((rngI many).map (stepT P s)).map D.int by rw [List.map_map]; rfl, stepTurn_map ok hs]
      refine ⟨by walk_at "sz", by walk_at "sz", by walk_at "sz", fun a7 h7 => ?_⟩
      have l7 := Mem.le_set (o := .lst [.tup [.str "told", .tup ((stepTurn P s).map D.int)], .tup [.str "refused", .str "NoRow"]]) h7
      have g7 : (M3.set a7 (.lst [.tup [.str "told", .tup ((stepTurn P s).map D.int)], .tup [.str "refused", .str "NoRow"]])) a7 = some (.lst [.tup [.str "told", .tup ((stepTurn P s).map D.int)], .tup [.str "refused", .str "NoRow"]]) := Mem.set_same
      have m7 : M3 a7 = none := h7
      have st7 : ∀ o o', (M3.set a7 o).set a7 o' = M3.set a7 o' := fun o o' => Mem.set_set
      have le3 : ∀ o, m.le (M3.set a7 o) := fun o => Mem.le_trans le2 (Mem.le_trans l8 (Mem.le_set h7))
      have gb3 : ∀ o, BookAt C (M3.set a7 o) (.ref k) many P := fun o => by
        obtain ⟨a, b, e, g1, g2⟩ := gb2
        exact ⟨a, b, e, Mem.le_set h7 _ _ (l8 _ _ g1), Mem.le_set h7 _ _ (l8 _ _ g2)⟩
      have g83 := l7 _ _ g8
      unfold rd_law_steps_refused_3t2
      walk_at "rf"
      refine ⟨_, _, (og.le (le3 _)).kn, rfl, rfl, ?_⟩
      have el : betw g 0 ((many : Int) - 1) = letD many g := rfl
      rw [el]
      cases eg : letD many g with
      | false =>
        walk_at "rf"
        exact steps_fin (gb3 _) ok (le3 _ _ _ hP) (of.le (le3 _)) (og.le (le3 _)) g7 (fun z => by rw [eb] at z; cases z) (fun s' es hs' => by cases es; exact ⟨rfl, fun _ => rfl, fun x ex hx => by rw [ex, letD_ok hx] at eg; cases eg⟩) hq (le3 _)
      | true =>
        obtain ⟨x, rfl, hx⟩ := letD_int eg
        walk_at "rf"
        have ax : atI ((rngI many).map fun x => D.tup [.int (stepT P s x), .int (stepO P s x)]) x = some (.tup [.int (stepT P s x), .int (stepO P s x)]) := at_rng hx
        rw [ixD_r g83 ax, ixD_t (at21 _ _)]
        walk_at "rf"
        refine ⟨by walk_at "sz", ?_⟩
        rw [setD_r g7 (k := 1) (show ixN 2 1 = some 1 by decide)]
        rw [st7]
        exact steps_fin (gb3 _) ok (le3 _ _ _ hP) (of.le (le3 _)) (og.le (le3 _)) Mem.set_same (fun z => by rw [eb] at z; cases z) (fun s' es hs' => by cases es; exact ⟨rfl, (fun z => by rw [eg] at z; cases z), fun x' ex hx' => by cases ex; rfl⟩) hq (le3 _)
  cases eb : betw f (-(P.length : Int)) P.length with
  | false =>
    walk_at "rf"
    exact rest false (stepD_nb eb)
  | true =>
    cases f with
    | int s =>
      walk_at "rf"
      refine rest _ ?_
      unfold betw at eb
      unfold stepD isStepB
      dsimp only at eb ⊢
      rw [eb, Bool.true_and]
    | _ => cases eb

/-! ### k06: the law -/
theorem OddD.keep {m M : Mem} {d : D} {a : Addr} (h : OddD m d) (n : d ≠ .ref a) (K : ∀ b o, b ≠ a → m b = some o → M b = some o) : OddD M d := by
  rcases h with h | h | h | h | h | ⟨b, e, g⟩ | ⟨b, e, g⟩ | h
  · exact .inl h
  · exact .inr (.inl h)
  · exact .inr (.inr (.inl h))
  · exact .inr (.inr (.inr (.inl h)))
  · exact .inr (.inr (.inr (.inr (.inl h))))
  · exact .inr (.inr (.inr (.inr (.inr (.inl ⟨b, e, K b _ (fun z => n (by rw [e, z])) g⟩)))))
  · exact .inr (.inr (.inr (.inr (.inr (.inr (.inl ⟨b, e, K b _ (fun z => n (by rw [e, z])) g⟩))))))
  · exact .inr (.inr (.inr (.inr (.inr (.inr (.inr h))))))
theorem NoTup.keep {m M : Mem} {d : D} {a : Addr} (h : NoTup m d) (n : d ≠ .ref a) (K : ∀ b o, b ≠ a → m b = some o → M b = some o) : NoTup M d := by
  by_cases hr : ∃ b, d = .ref b
  · obtain ⟨b, rfl⟩ := hr
    have nb : b ≠ a := fun z => n (by rw [z])
    have e : tyS m (.ref b) = tyS M (.ref b) := by
      show (match m b with | some (.lst _) => some "list" | some (.dK _) => some "dict" | some (.dF _) => some "dict" | _ => none) = (match M b with | some (.lst _) => some "list" | some (.dK _) => some "dict" | some (.dF _) => some "dict" | _ => none)
      cases g : m b with
      | some o => rw [K b _ nb g]
      | none =>
        exfalso
        have h1 := h.1
        unfold Lh.kn at h1
        rw [show tyS m (.ref b) = (match m b with | some (.lst _) => some "list" | some (.dK _) => some "dict" | some (.dF _) => some "dict" | _ => none) from rfl, g] at h1
        cases h1
    refine ⟨?_, ?_⟩
    · unfold Lh.kn; rw [← e]; exact h.1
    · have := h.2; unfold isA at this ⊢; rw [← e]; exact this
  · cases d with
    | ref b => exact absurd ⟨b, rfl⟩ hr
    | _ => exact h
theorem ThingT.keep {m M : Mem} {d : D} {a : Addr} (h : ThingT m d) (n : NoA a d) (K : ∀ b o, b ≠ a → m b = some o → M b = some o) : ThingT M d := by
  rcases h with ⟨xs, rfl, hl, hx⟩ | h | h
  · exact .inl ⟨xs, rfl, hl, fun x hx' => (hx x hx').keep (n.2 xs rfl x hx') K⟩
  · exact .inr (.inl h)
  · exact .inr (.inr (NoTup.keep h n.1 K))
theorem pick2 {x y : D} {i : Int} {m : Mem} {c : Addr} {q : DQ} (g : m c = some (.lst [x, y])) (h0 : 0 ≤ i) (h1 : i < 4) (hx : q x m) (hy : q y m) : ixD (.ref c) (.int (i / 3)) m q := by
  have : i / 3 = 0 ∨ i / 3 = 1 := by omega
  rcases this with e | e
  · rw [e, ixD_r g (i := 0) (atI_nat (j := 0) rfl)]; exact hx
  · rw [e, ixD_r g (i := 1) (atI_nat (j := 1) rfl)]; exact hy
theorem cut_abc : ∀ i : Fin 7, cutS "abcxyz" none (some (i.val : Int)) ∈ kept07 := by decide +kernel
structure Lw (m M : Mem) (a : Addr) (S G : D) : Prop where
  kp : Kp m M a
  oS : OddD M S
  nS : S ≠ .ref a
  oG : OddD M G
  nG : G ≠ .ref a
theorem Lw.step {m M N : Mem} {a : Addr} {S G : D} (h : Lw m M a S G) (kp : Kp m N a) (K : ∀ b o, b ≠ a → M b = some o → N b = some o) : Lw m N a S G := ⟨kp, h.oS.keep h.nS K, h.nS, h.oG.keep h.nG K, h.nG⟩
theorem keep_of {M N : Mem} {a : Addr} (h : ∀ b, b ≠ a → N b = M b) : ∀ b o, b ≠ a → M b = some o → N b = some o := fun b o hb e => by rw [h b hb]; exact e
/-- one drawn step: a number, or an odd thing -/
theorem draw2 {m M : Mem} {a : Addr} {k lo : Int} {ρ : DEnv} {tv : DTE} {we : DWX} {q : DQ} (K : Kp m M a) (hk : 0 < k ∧ k < 1000) (hl : 0 ≤ lo ∧ lo ≤ 100) (hv : ∀ M' (q : DQ), q (.ref a) M' → tv ρ M' q)
    (h : ∀ T N, Kp m N a → (∀ b o, b ≠ a → M b = some o → N b = some o) → OddD N T → T ≠ .ref a → q T N) :
    dOp ixD (dNew (dLst (dCons (dOp subD (dCall sp_law_next we (dCons tv (dCons (dC (.int k)) dNil))) (dC (.int lo))) (dCons (dCall sp_law_odd we (dCons tv dNil)) dNil)))) (dOp fdivD (dCall sp_law_next we (dCons tv (dCons (dC (.int 4)) dNil))) (dC (.int 3))) ρ M q := by
  walk_at "rf"
  refine hv _ _ ?_
  refine nx_kp K hk.1 (by omega) fun r M1 r0 r1 K1 same1 => ?_
  walk_at "rf"
  refine hv _ _ ?_
  obtain ⟨n1, g1⟩ := K1.cell
  refine ⟨a, n1, rfl, g1, fun T M2 KS oT nT => ⟨by walk_at "sz", fun c hc => ?_⟩⟩
  have K2 : Kp m M2 a := ⟨KS.cell, fun b o hb e => KS.keep b o hb (K1.keep b o hb e)⟩
  have nca := K2.ne hc
  have K3 := K2.new (o := .lst [.int (r - lo), T]) hc
  refine hv _ _ ?_
  refine nx_kp K3 (by omega) (by omega) fun i M4 i0 i1 K4 same4 => ?_
  walk_at "rf"
  have gc : M4 c = some (.lst [.int (r - lo), T]) := by rw [same4 c nca, Mem.set_same]
  have kk : ∀ b o, b ≠ a → M b = some o → M4 b = some o := fun b o hb e => by
    have e1 : M1 b = some o := by rw [same1 b hb]; exact e
    have e2 := KS.keep b o hb e1
    rw [same4 b hb]
    exact Mem.le_set hc _ _ e2
  have oT4 : OddD M4 T := (oT.le (Mem.le_set hc)).same nT same4
  exact ⟨⟨by omega, by omega⟩, pick2 gc i0 i1 (h _ _ K4 kk (odd_int (by omega) (by omega)) (fun z => nomatch z)) (h _ _ K4 kk oT4 nT)⟩
theorem rdok_law (C CT CR CW PS PT : Addr) {ccT ccS : Addr} {ds m q qe} (h : spLawT 63 [(ccT, PT, lamQ "_law_turns_refused"), (ccS, PS, lamQ "_law_steps_refused")] ds m q qe) :
    rd_law C CT CR CW PS PT (fun cls _ m => qe cls m) (defEnds q) (startD N_law ds) m := by
  obtain ⟨d, e0, ns, e1, hsc, hTs, hq⟩ := sp1_at h
  clear h
  subst e0 e1
  have hT : m PT = some (.tbl (lamQ "_law_turns_refused")) := hTs _ List.mem_cons_self
  have hS : m PS = some (.tbl (lamQ "_law_steps_refused")) := hTs _ (List.mem_cons_of_mem _ List.mem_cons_self)
  show rd_law C CT CR CW PS PT _ (defEnds q) [some (.rol (ns.map D.int)), none, none, none, none, none, none, none, none, none] m
  unfold rd_law
  walk_at "rf"
  have hmax : (if ((ns.map D.int).length : Int) > 1 then ((ns.map D.int).length : Int) else 1) ≤ 63 ∧ 0 ≤ (if ((ns.map D.int).length : Int) > 1 then ((ns.map D.int).length : Int) else 1) := by
    rw [List.length_map]
    split <;> omega
  rw [List.length_map] at hmax
  refine ⟨by omega, by omega, ?_⟩
  refine for_inv (fun items ρ m' => (∀ d ∈ items, ∃ i : Nat, d = .int (i : Nat)) ∧ m.le m' ∧ ∃ x1 x2 x3 x4 x5 x6 x7 x8 x9, ρ = [some (.rol (ns.map D.int)), x1, x2, x3, x4, x5, x6, x7, x8, x9]) (fun _ _ _ _ => trivial) (fun ρ m' hP => ?_) (fun d r ρ m' hP N hN => ?_) _ _ _ ?_
  · obtain ⟨_, l, x1, x2, x3, x4, x5, x6, x7, x8, x9, rfl⟩ := hP
    unfold rd_law_1
    walk_at "rf"
    exact defEnds_le l (hq _)
  · obtain ⟨hit, l, x1, x2, x3, x4, x5, x6, x7, x8, x9, rfl⟩ := hP
    obtain ⟨i, rfl⟩ := hit d List.mem_cons_self
    walk_at "rf"
    unfold rd_law_0f
    walk_at "rf"
    refine ⟨ns, i, rfl, rfl, fun n1 a ha => ?_⟩
    have K0 : Kp m' (m'.set a (.lst [.int n1])) a := ⟨⟨n1, Mem.set_same⟩, fun b o hb e => by rw [Mem.set_ne hb]; exact e⟩
    have hma : ∀ M, Kp m' M a → m'.le M := fun M K b o e => K.keep b o (fun z => by subst z; rw [ha] at e; cases e) e
    generalize m'.set a (.lst [.int n1]) = M0 at K0
    unfold rd_law_0f1 dSeq dAsg
    refine draw2 K0 (by omega) (by omega) (fun M' q hq => hq) fun S M1 K1 _ oS nS => ?_
    walk_at "rf"
    unfold rd_law_0f2 dSeq dAsg
    refine draw2 K1 (by omega) (by omega) (fun M' q hq => hq) fun G M2 K2 kk2 oG nG => ?_
    have L2 : Lw m' M2 a S G := ⟨K2, oS.keep nS kk2, nS, oG, nG⟩
    walk_at "rf"
    unfold rd_law_0f3
    walk_at "rf"
    obtain ⟨n2, g2⟩ := K2.cell
    refine ⟨a, n2, rfl, g2, fun T M3 KS oT nT => ?_⟩
    have K3 : Kp m' M3 a := ⟨KS.cell, fun b o hb e => KS.keep b o hb (K2.keep b o hb e)⟩
    have L3 := L2.step K3 KS.keep
    clear L2 K2 g2 KS oS oG nS nG
    unfold rd_law_0f4
    walk_at "rf"
    refine nx_kp K3 (by omega) (by omega) fun w M4 w0 w1 K4 same4 => ?_
    have L4 := L3.step K4 (keep_of same4)
    have oT4 := oT.keep nT (keep_of same4)
    walk_at "rf"
    obtain ⟨many, em⟩ : ∃ k : Nat, (2 : Int) + w = ((k : Nat) : Int) := ⟨(2 + w).toNat, by omega⟩
    have hm : 2 ≤ many ∧ many ≤ 4 := by omega
    rw [em]
    refine turn_kp K4 hm.2 fun us M5 hp K5 same5 => ?_
    have L5 := L4.step K5 (keep_of same5)
    have oT5 := oT4.keep nT (keep_of same5)
    obtain ⟨ok, ln⟩ := isTurn_of_perm hm.1 hm.2 hp
    clear L3 L4 K3 K4 oT oT4 same4 same5
    unfold rd_law_0f5
    walk_at "rf"
    refine ⟨hma M5 K5 _ _ (l _ _ hT), oT5, ⟨us, rfl, ok⟩, ?_⟩
    walk_at "rf"
    unfold rd_law_0f6
    walk_at "rf"
    refine nx_kp K5 (by omega) (by omega) fun num M6 u0 u1 K6 same6 => ?_
    have L6 := L5.step K6 (keep_of same6)
    unfold rd_law_0f7
    walk_at "rf"
    unfold dSlX
    walk_at "rf"
    refine nx_kp K6 (by omega) (by omega) fun cu M7 c0 c1 K7 same7 => ?_
    have L7 := L6.step K7 (keep_of same7)
    dsimp only
    rw [slX_s]
    refine ⟨by decide +kernel, num, _, rfl, u0, u1, rfl, ?_, ?_⟩
    · have := cut_abc ⟨cu.toNat, by omega⟩
      rw [show (((⟨cu.toNat, by omega⟩ : Fin 7).val : Nat) : Int) = cu by show ((cu.toNat : Nat) : Int) = cu; omega] at this
      exact this
    walk_at "rf"
    unfold rd_law_0f8
    walk_at "rf"
    obtain ⟨n7, g7⟩ := K7.cell
    refine ⟨a, n7, rfl, g7, fun many P n8 p okB hpn => ?_⟩
    have npa := K7.ne hpn
    have hp0 := hpn
    have K8 : Kp m' ((M7.set a (.lst [.int n8])).set p (.lst (P.map pairD))) a := (K7.step n8).new (by rw [Mem.set_ne npa]; exact hpn)
    have L8 : Lw m' ((M7.set a (.lst [.int n8])).set p (.lst (P.map pairD))) a S G := L7.step K8 fun b o hb e => by
      have nb : b ≠ p := Mem.live_ne e hp0
      rw [Mem.set_ne nb, Mem.set_ne hb]; exact e
    have gp : ((M7.set a (.lst [.int n8])).set p (.lst (P.map pairD))) p = some (.lst (P.map pairD)) := Mem.set_same
    generalize (M7.set a (.lst [.int n8])).set p (.lst (P.map pairD)) = M8 at K8 L8 gp
    walk_at "rf"
    refine ⟨rfl, ?_⟩
    unfold rd_law_0f9
    walk_at "rf"
    refine ⟨hma M8 K8 _ _ (l _ _ hS), many, P, p, rfl, rfl, gp, okB, L8.oS, L8.oG, ?_⟩
    walk_at "rf"
    exact dn_here (hN _ _ ⟨fun d hd => hit d (List.mem_cons_of_mem _ hd), Mem.le_trans l (hma M8 K8), _, _, _, _, _, _, _, _, _, rfl⟩)
  · exact ⟨fun d hd => by
      simp only [rngD, List.mem_map] at hd
      obtain ⟨k, _, rfl⟩ := hd
      exact ⟨k, by simp⟩, Mem.le_refl _, _, _, _, _, _, _, _, _, _, rfl⟩

def clsB : Stmt → List Stmt
  | .ClassDef (body := b) .. => b
  | _ => []
def topS (i : Nat) : Stmt := PySem.Challenge.pw_letterhand_k06_doors_of_turns_and_books.main.body.getD i (.Pass ⟨0, 0, 0, 0⟩)
abbrev s_NoName___init__ : Stmt := (clsB (topS 9)).getD 0 (.Pass ⟨0, 0, 0, 0⟩)
theorem sc_NoName___init__ : FnScope ["self", "name"] ["self", "name"] (defScope s_NoName___init__) := ⟨rfl, rfl, rfl, by decide +kernel, rfl, by decide +kernel, by decide +kernel⟩
abbrev s_InUse___init__ : Stmt := (clsB (topS 10)).getD 0 (.Pass ⟨0, 0, 0, 0⟩)
theorem sc_InUse___init__ : FnScope ["self", "name"] ["self", "name"] (defScope s_InUse___init__) := ⟨rfl, rfl, rfl, by decide +kernel, rfl, by decide +kernel, by decide +kernel⟩
abbrev s_NoText___init__ : Stmt := (clsB (topS 12)).getD 0 (.Pass ⟨0, 0, 0, 0⟩)
theorem sc_NoText___init__ : FnScope ["self", "at"] ["self", "at"] (defScope s_NoText___init__) := ⟨rfl, rfl, rfl, by decide +kernel, rfl, by decide +kernel, by decide +kernel⟩
abbrev s_is_whole : Stmt := topS 16
theorem sc_is_whole : FnScope ["thing"] ["thing"] (defScope s_is_whole) := ⟨rfl, rfl, rfl, by decide +kernel, rfl, by decide +kernel, by decide +kernel⟩
abbrev s_is_between : Stmt := topS 17
theorem sc_is_between : FnScope ["thing", "least", "most"] ["thing", "least", "most"] (defScope s_is_between) := ⟨rfl, rfl, rfl, by decide +kernel, rfl, by decide +kernel, by decide +kernel⟩
abbrev s_is_turn : Stmt := topS 18
theorem sc_is_turn : FnScope ["thing", "letter"] ["thing"] (defScope s_is_turn) := ⟨rfl, rfl, rfl, by decide +kernel, rfl, by decide +kernel, by decide +kernel⟩
abbrev s_need_turn : Stmt := topS 19
theorem sc_need_turn : FnScope ["thing"] ["thing"] (defScope s_need_turn) := ⟨rfl, rfl, rfl, by decide +kernel, rfl, by decide +kernel, by decide +kernel⟩
abbrev s_undone : Stmt := topS 20
theorem sc_undone : FnScope ["turn", "letter"] ["turn"] (defScope s_undone) := ⟨rfl, rfl, rfl, by decide +kernel, rfl, by decide +kernel, by decide +kernel⟩
abbrev s_turn_back : Stmt := topS 21
theorem sc_turn_back : FnScope ["turn"] ["turn"] (defScope s_turn_back) := ⟨rfl, rfl, rfl, by decide +kernel, rfl, by decide +kernel, by decide +kernel⟩
abbrev s_turn_after : Stmt := topS 22
theorem sc_turn_after : FnScope ["one", "other", "letter"] ["one", "other"] (defScope s_turn_after) := ⟨rfl, rfl, rfl, by decide +kernel, rfl, by decide +kernel, by decide +kernel⟩
abbrev s_turn_rings : Stmt := topS 23
theorem sc_turn_rings : FnScope ["turn", "rings", "left", "ring"] ["turn"] (defScope s_turn_rings) := ⟨rfl, rfl, rfl, by decide +kernel, rfl, by decide +kernel, by decide +kernel⟩
abbrev s_is_hand : Stmt := topS 26
theorem sc_is_hand : FnScope ["thing", "many", "hands", "step"] ["thing", "many", "hands"] (defScope s_is_hand) := ⟨rfl, rfl, rfl, by decide +kernel, rfl, by decide +kernel, by decide +kernel⟩
abbrev s_are_hands : Stmt := topS 27
theorem sc_are_hands : FnScope ["thing", "many", "one"] ["thing", "many"] (defScope s_are_hands) := ⟨rfl, rfl, rfl, by decide +kernel, rfl, by decide +kernel, by decide +kernel⟩
abbrev s_Book___init__ : Stmt := (clsB (topS 28)).getD 0 (.Pass ⟨0, 0, 0, 0⟩)
theorem sc_Book___init__ : FnScope ["self", "many", "hands"] ["self", "many", "hands"] (defScope s_Book___init__) := ⟨rfl, rfl, rfl, by decide +kernel, rfl, by decide +kernel, by decide +kernel⟩
abbrev s_Book_has_step : Stmt := (clsB (topS 28)).getD 7 (.Pass ⟨0, 0, 0, 0⟩)
theorem sc_Book_has_step : FnScope ["self", "thing"] ["self", "thing"] (defScope s_Book_has_step) := ⟨rfl, rfl, rfl, by decide +kernel, rfl, by decide +kernel, by decide +kernel⟩
abbrev s_Book_has_letter : Stmt := (clsB (topS 28)).getD 8 (.Pass ⟨0, 0, 0, 0⟩)
theorem sc_Book_has_letter : FnScope ["self", "thing"] ["self", "thing"] (defScope s_Book_has_letter) := ⟨rfl, rfl, rfl, by decide +kernel, rfl, by decide +kernel, by decide +kernel⟩
abbrev s_Book_turn : Stmt := (clsB (topS 28)).getD 9 (.Pass ⟨0, 0, 0, 0⟩)
theorem sc_Book_turn : FnScope ["self", "step", "turn"] ["self", "step"] (defScope s_Book_turn) := ⟨rfl, rfl, rfl, by decide +kernel, rfl, by decide +kernel, by decide +kernel⟩
abbrev s_Book_onward : Stmt := (clsB (topS 28)).getD 10 (.Pass ⟨0, 0, 0, 0⟩)
theorem sc_Book_onward : FnScope ["self", "step", "letter", "turn", "onward"] ["self", "step", "letter"] (defScope s_Book_onward) := ⟨rfl, rfl, rfl, by decide +kernel, rfl, by decide +kernel, by decide +kernel⟩
abbrev s_law_state : Stmt := topS 30
theorem sc_law_state : FnScope ["_law_script", "_law_k", "_law_cell", "_law_primes", "_law_found", "_law_j", "_law_prime", "_law_one"] ["_law_script", "_law_k"] (defScope s_law_state) := ⟨rfl, rfl, rfl, by decide +kernel, rfl, by decide +kernel, by decide +kernel⟩
abbrev s_law_next : Stmt := topS 31
theorem sc_law_next : FnScope ["_law_state_here", "_law_many", "_law_found"] ["_law_state_here", "_law_many"] (defScope s_law_next) := ⟨rfl, rfl, rfl, by decide +kernel, rfl, by decide +kernel, by decide +kernel⟩
abbrev s_law_turn : Stmt := topS 32
theorem sc_law_turn : FnScope ["_law_state_here", "_law_many", "_law_left", "_law_k"] ["_law_state_here", "_law_many"] (defScope s_law_turn) := ⟨rfl, rfl, rfl, by decide +kernel, rfl, by decide +kernel, by decide +kernel⟩
abbrev s_law_pairs : Stmt := topS 33
theorem sc_law_pairs : FnScope ["_law_state_here", "_law_many", "_law_hands", "_law_pairs_here", "_law_k", "_law_turn_here", "_law_j", "_law_onward"] ["_law_state_here"] (defScope s_law_pairs) := ⟨rfl, rfl, rfl, by decide +kernel, rfl, by decide +kernel, by decide +kernel⟩
abbrev s_law_goes : Stmt := topS 34
theorem sc_law_goes : FnScope ["_law_pairs_here", "_law_asked", "_law_sign", "_law_turn_here", "_law_onward", "_law_k", "_law_first"] ["_law_pairs_here", "_law_asked", "_law_sign"] (defScope s_law_goes) := ⟨rfl, rfl, rfl, by decide +kernel, rfl, by decide +kernel, by decide +kernel⟩
abbrev s_law_odd : Stmt := topS 35
theorem sc_law_odd : FnScope ["_law_state_here", "_law_some"] ["_law_state_here"] (defScope s_law_odd) := ⟨rfl, rfl, rfl, by decide +kernel, rfl, by decide +kernel, by decide +kernel⟩
abbrev s_law_thing : Stmt := topS 36
theorem sc_law_thing : FnScope ["_law_state_here", "_law_choice", "_law_at", "_law_odd_here", "_law_number", "_law_turn_here"] ["_law_state_here"] (defScope s_law_thing) := ⟨rfl, rfl, rfl, by decide +kernel, rfl, by decide +kernel, by decide +kernel⟩
abbrev s_law_is_turn : Stmt := topS 37
theorem sc_law_is_turn : FnScope ["_law_thing_here", "_law_one", "_law_k"] ["_law_thing_here"] (defScope s_law_is_turn) := ⟨rfl, rfl, rfl, by decide +kernel, rfl, by decide +kernel, by decide +kernel⟩
abbrev s_law_whole : Stmt := topS 38
theorem sc_law_whole : FnScope ["_law_thing_here", "_law_low", "_law_most"] ["_law_thing_here", "_law_low", "_law_most"] (defScope s_law_whole) := ⟨rfl, rfl, rfl, by decide +kernel, rfl, by decide +kernel, by decide +kernel⟩
abbrev s_law_told : Stmt := topS 39
theorem sc_law_told : FnScope ["_law_work", "_law_found", "_law_error", "e", "_law_marks", "_law_name", "_law_there"] ["_law_work"] (defScope s_law_told) := ⟨rfl, rfl, rfl, by decide +kernel, rfl, by decide +kernel, by decide +kernel⟩
abbrev s_law_turns_refused : Stmt := topS 40
def lamE0 : Expr → List LamSyn
  | .Lambda p b s _ => [⟨p, b, s⟩]
  | _ => []
def lamE1 : Expr → List LamSyn
  | .List es .. => es.flatMap lamE0
  | .Tuple es .. => es.flatMap lamE0
  | e => lamE0 e
def lamE2 : Expr → List LamSyn
  | .List es .. => es.flatMap lamE1
  | .Tuple es .. => es.flatMap lamE1
  | .Call _ es .. => es.flatMap lamE1
  | e => lamE0 e
def lamSt : Stmt → List LamSyn
  | .Assign _ e .. => lamE2 e
  | .Expr e .. => lamE2 e
  | .Return (some e) .. => lamE2 e
  | _ => []
abbrev l_law_turns_refused_0 : LamSyn := (((defBody s_law_turns_refused).flatMap lamSt)[0]?).getD ⟨defArgs s_law_turns_refused, .Name "" ⟨0, 0, 0, 0⟩, defScope s_law_turns_refused⟩
abbrev l_law_turns_refused_1 : LamSyn := (((defBody s_law_turns_refused).flatMap lamSt)[1]?).getD ⟨defArgs s_law_turns_refused, .Name "" ⟨0, 0, 0, 0⟩, defScope s_law_turns_refused⟩
abbrev l_law_turns_refused_2 : LamSyn := (((defBody s_law_turns_refused).flatMap lamSt)[2]?).getD ⟨defArgs s_law_turns_refused, .Name "" ⟨0, 0, 0, 0⟩, defScope s_law_turns_refused⟩
abbrev l_law_turns_refused_3 : LamSyn := (((defBody s_law_turns_refused).flatMap lamSt)[3]?).getD ⟨defArgs s_law_turns_refused, .Name "" ⟨0, 0, 0, 0⟩, defScope s_law_turns_refused⟩
abbrev l_law_turns_refused_4 : LamSyn := (((defBody s_law_turns_refused).flatMap lamSt)[4]?).getD ⟨defArgs s_law_turns_refused, .Name "" ⟨0, 0, 0, 0⟩, defScope s_law_turns_refused⟩
theorem sc_law_turns_refused : FnScope ["_law_thing_here", "_law_good", "_law_due", "_law_works", "_law_work", "_law_found", "_law_one"] ["_law_thing_here", "_law_good"] (defScope s_law_turns_refused) := ⟨rfl, rfl, rfl, by decide +kernel, rfl, by decide +kernel, by decide +kernel⟩
abbrev s_law_steps_refused : Stmt := topS 41
theorem sc_law_steps_refused : FnScope ["_law_many", "_law_pairs_here", "_law_asked", "_law_sign", "_law_book", "_law_there", "_law_due", "_law_one", "_law_made", "_law_found"] ["_law_many", "_law_pairs_here", "_law_asked", "_law_sign"] (defScope s_law_steps_refused) := ⟨rfl, rfl, rfl, by decide +kernel, rfl, by decide +kernel, by decide +kernel⟩
abbrev s_law_kept : Stmt := topS 42
theorem sc_law_kept : FnScope ["_law_number", "_law_name", "_law_some", "_law_k", "_law_one", "_law_marks"] ["_law_number", "_law_name"] (defScope s_law_kept) := ⟨rfl, rfl, rfl, by decide +kernel, rfl, by decide +kernel, by decide +kernel⟩
abbrev s_law : Stmt := topS 43
theorem sc_law : FnScope ["_law_script", "_law_k", "_law_state_here", "_law_asked", "_law_sign", "_law_thing_here", "_law_good", "_law_number", "_law_many", "_law_pairs_here"] ["_law_script"] (defScope s_law) := ⟨rfl, rfl, rfl, by decide +kernel, rfl, by decide +kernel, by decide +kernel⟩
section
variable {P : Program} {w : World} {K : PySem.W.Frag} {mg : Str → Option Value} {base : Heap}
def mk_NoName___init__ {C_NoName : Addr} {f : Addr} {fd : FuncData} (F : Fun K "__init__" "NoName.__init__" s_NoName___init__ f fd) (me : Meth K C_NoName "__init__" f) (g_NoName : mg "NoName" = some (.ref C_NoName)) (oe_NoName : OexC K C_NoName) (na_NoName_name : NoAttr K C_NoName "name") : InitAt P w K mg base 1 C_NoName "name" "name" :=
  initAt_of F sc_NoName___init__ oe_NoName na_NoName_name me (F.binds (ps := ["self", "name"]) fun _ _ _ _ _ _ us hl => match us, hl with | [_, _], _ => rfl) fun X hN hs hK => by
    subst hK
    exact pss_one (ps_ost (pe_var (by rw [hN]; rfl) (by rw [hs]; first | exact Or.inl rfl | exact Or.inr (Or.inl rfl) | exact Or.inr (Or.inr rfl))) (pe_var (by rw [hN]; rfl) (by rw [hs]; first | exact Or.inl rfl | exact Or.inr (Or.inl rfl) | exact Or.inr (Or.inr rfl))))
def mk_InUse___init__ {C_InUse : Addr} {f : Addr} {fd : FuncData} (F : Fun K "__init__" "InUse.__init__" s_InUse___init__ f fd) (me : Meth K C_InUse "__init__" f) (g_InUse : mg "InUse" = some (.ref C_InUse)) (oe_InUse : OexC K C_InUse) (na_InUse_name : NoAttr K C_InUse "name") : InitAt P w K mg base 1 C_InUse "name" "name" :=
  initAt_of F sc_InUse___init__ oe_InUse na_InUse_name me (F.binds (ps := ["self", "name"]) fun _ _ _ _ _ _ us hl => match us, hl with | [_, _], _ => rfl) fun X hN hs hK => by
    subst hK
    exact pss_one (ps_ost (pe_var (by rw [hN]; rfl) (by rw [hs]; first | exact Or.inl rfl | exact Or.inr (Or.inl rfl) | exact Or.inr (Or.inr rfl))) (pe_var (by rw [hN]; rfl) (by rw [hs]; first | exact Or.inl rfl | exact Or.inr (Or.inl rfl) | exact Or.inr (Or.inr rfl))))
def mk_NoText___init__ {C_NoText : Addr} {f : Addr} {fd : FuncData} (F : Fun K "__init__" "NoText.__init__" s_NoText___init__ f fd) (me : Meth K C_NoText "__init__" f) (g_NoText : mg "NoText" = some (.ref C_NoText)) (oe_NoText : OexC K C_NoText) (na_NoText_at : NoAttr K C_NoText "at") : InitAt P w K mg base 1 C_NoText "at" "at" :=
  initAt_of F sc_NoText___init__ oe_NoText na_NoText_at me (F.binds (ps := ["self", "at"]) fun _ _ _ _ _ _ us hl => match us, hl with | [_, _], _ => rfl) fun X hN hs hK => by
    subst hK
    exact pss_one (ps_ost (pe_var (by rw [hN]; rfl) (by rw [hs]; first | exact Or.inl rfl | exact Or.inr (Or.inl rfl) | exact Or.inr (Or.inr rfl))) (pe_var (by rw [hN]; rfl) (by rw [hs]; first | exact Or.inl rfl | exact Or.inr (Or.inl rfl) | exact Or.inr (Or.inr rfl))))
def mk_is_whole {f : Addr} {fd : FuncData} (F : Fun K "is_whole" "is_whole" s_is_whole f fd) (g : mg "is_whole" = some (.ref f)) (z_int : mg "int" = none) (z_isinstance : mg "isinstance" = none) (z_bool : mg "bool" = none) : DefAt P w K mg base 1 "is_whole" ["thing"] sp_is_whole where
  f := f
  fd := fd
  g := g
  kp := F.kp
  b := F.binds (ps := ["thing"]) fun _ _ _ _ _ _ us hl => match us, hl with | [_], _ => rfl
  ok := by
    have sc := sc_is_whole
    refine fnD_of F sc (fun h => sp1_len h) fun cdv A outer s H E B qe hr tk po => ?_
    refine ⟨rd_is_whole (fun cls _ m => qe cls m), (dss_one (ds_ret (de_and (de_callB c_isi (by rfl) z_isinstance (by decide +kernel) (da_cons (de_var 0) (da_cons (de_ty (by rfl) z_int (by decide +kernel)) da_nil))) (de_one (de_not (de_callB c_isi (by rfl) z_isinstance (by decide +kernel) (da_cons (de_var 0) (da_cons (de_ty (by rfl) z_bool (by decide +kernel)) da_nil)))))))), fun ds m q h => rdok_is_whole h⟩
def mk_is_between {f : Addr} {fd : FuncData} (F : Fun K "is_between" "is_between" s_is_between f fd) (g : mg "is_between" = some (.ref f)) (d_is_whole : DefAt P w K mg base 1 "is_whole" ["thing"] sp_is_whole) : DefAt P w K mg base 2 "is_between" ["thing", "least", "most"] sp_is_between where
  f := f
  fd := fd
  g := g
  kp := F.kp
  b := F.binds (ps := ["thing", "least", "most"]) fun _ _ _ _ _ _ us hl => match us, hl with | [_, _, _], _ => rfl
  ok := by
    have sc := sc_is_between
    refine fnD_of F sc (fun h => sp3_len h) fun cdv A outer s H E B qe hr tk po => ?_
    refine ⟨rd_is_between (fun cls _ m => qe cls m), (dss_one (ds_ret (de_and (de_callD d_is_whole (hr.mono (by decide)) (by rfl) tk (da_cons (de_var 0) da_nil)) (de_one (de_chain d_le d_le (de_var 1) (de_var 0) (de_var 2)))))), fun ds m q h => rdok_is_between h⟩
def mk_is_turn {f : Addr} {fd : FuncData} (F : Fun K "is_turn" "is_turn" s_is_turn f fd) (g : mg "is_turn" = some (.ref f)) (z_tuple : mg "tuple" = none) (z_isinstance : mg "isinstance" = none) (i_LEAST_MANY   : GI mg "LEAST_MANY" 2) (z_len : mg "len" = none) (i_MOST_MANY   : GI mg "MOST_MANY" 4) (d_is_between : DefAt P w K mg base 2 "is_between" ["thing", "least", "most"] sp_is_between) (z_all : mg "all" = none) (z_sorted : mg "sorted" = none) (z_list : mg "list" = none) (z_range : mg "range" = none) : DefAt P w K mg base 3 "is_turn" ["thing"] sp_is_turn where
  f := f
  fd := fd
  g := g
  kp := F.kp
  b := F.binds (ps := ["thing"]) fun _ _ _ _ _ _ us hl => match us, hl with | [_], _ => rfl
  ok := by
    have sc := sc_is_turn
    refine fnD_of F sc (fun h => sp1_len h) fun cdv A outer s H E B qe hr tk po => ?_
    refine ⟨rd_is_turn (fun cls _ m => qe cls m), (dss_cons (ds_if (dt_w (dw_or (dt_not (dt_truth (de_callB c_isi (by rfl) z_isinstance (by decide +kernel) (da_cons (de_var 0) (da_cons (de_ty (by rfl) z_tuple (by decide +kernel)) da_nil))))) (dw_or1 (dt_not (dt_chain d_le d_le (de_gi i_LEAST_MANY (by rfl)) (de_callB c_len (by rfl) z_len (by decide +kernel) (da_cons (de_var 0) da_nil)) (de_gi i_MOST_MANY (by rfl))))))) (dss_one (ds_ret de_bl)) dss_nil)
  (dss_cons (ds_if (dt_not (dt_truth (de_newB (n_all rfl) (by rfl) z_all (by decide +kernel) (dl_comp [("letter", 1)] rfl sc.nd (di_seq (de_var 0)) (blkOk_by (N := ["thing", "letter"]) (sc := defScope s_is_turn) (by decide +kernel)) (fun _ _ _ _ _ => (dg_name (i := 1) sc.nd)) (fun _ _ _ _ _ => dts_nil) (fun _ _ _ _ _ => (de_callD d_is_between (hr.mono (by decide)) (by rfl) takesN (da_cons (de_var 1) (da_cons de_int (da_cons (de_op d_sub (de_callB c_len (by rfl) z_len (by decide +kernel) (da_cons (de_var 0) da_nil)) de_int) da_nil))))))))) (dss_one (ds_ret de_bl)) dss_nil)
  (dss_one (ds_ret (de_eqNN hr.units (dl_callB l_sorted (by rfl) z_sorted (by decide +kernel) (de_var 0)) (dl_listRg1 rfl (by rfl) z_list (by rfl) z_range (de_callB c_len (by rfl) z_len (by decide +kernel) (da_cons (de_var 0) da_nil)))))))), fun ds m q h => rdok_is_turn h⟩
def mk_need_turn {C_NoTurn : Addr} {f : Addr} {fd : FuncData} (F : Fun K "need_turn" "need_turn" s_need_turn f fd) (g : mg "need_turn" = some (.ref f)) (g_NoTurn : mg "NoTurn" = some (.ref C_NoTurn)) (d_is_turn : DefAt P w K mg base 3 "is_turn" ["thing"] sp_is_turn) (x_NoTurn : ExcF K mg "NoTurn" C_NoTurn) : DefAt P w K mg base 4 "need_turn" ["thing"] (sp_need_turn C_NoTurn) where
  f := f
  fd := fd
  g := g
  kp := F.kp
  b := F.binds (ps := ["thing"]) fun _ _ _ _ _ _ us hl => match us, hl with | [_], _ => rfl
  ok := by
    have sc := sc_need_turn
    refine fnD_of F sc (fun h => sp1_len h) fun cdv A outer s H E B qe hr tk po => ?_
    refine ⟨rd_need_turn C_NoTurn (fun cls _ m => qe cls m), (dss_one (ds_if (dt_not (dt_truth (de_callD d_is_turn (hr.mono (by decide)) (by rfl) tk (da_cons (de_var 0) da_nil)))) (dss_one (ds_raise rfl tk (pmk_own PySem.F.excBase_ValueError x_NoTurn.q x_NoTurn.g x_NoTurn.k (raises_own x_NoTurn.b x_NoTurn.t) (by rfl)))) dss_nil)), fun ds m q h => rdok_need_turn C_NoTurn h⟩
def mk_undone {f : Addr} {fd : FuncData} (F : Fun K "undone" "undone" s_undone f fd) (g : mg "undone" = some (.ref f)) (z_len : mg "len" = none) (z_range : mg "range" = none) (z_tuple : mg "tuple" = none) : DefAt P w K mg base 1 "undone" ["turn"] sp_undone where
  f := f
  fd := fd
  g := g
  kp := F.kp
  b := F.binds (ps := ["turn"]) fun _ _ _ _ _ _ us hl => match us, hl with | [_], _ => rfl
  ok := by
    have sc := sc_undone
    refine fnD_of F sc (fun h => sp1_len h) fun cdv A outer s H E B qe hr tk po => ?_
    refine ⟨rd_undone (fun cls _ m => qe cls m), (dss_one (ds_ret (de_newTy n_tuple (by rfl) z_tuple (by decide +kernel) (dl_comp [("letter", 1)] rfl sc.nd (di_range1 (by rfl) z_range (de_callB c_len (by rfl) z_len (by decide +kernel) (da_cons (de_var 0) da_nil))) (blkOk_by (N := ["turn", "letter"]) (sc := defScope s_undone) (by decide +kernel)) (fun _ _ _ _ _ => (dg_name (i := 1) sc.nd)) (fun _ _ _ _ _ => dts_nil) (fun _ _ _ _ _ => (de_tix (de_var 0) (de_var 1))))))), fun ds m q h => rdok_undone h⟩
def mk_turn_back {C_NoTurn : Addr} {f : Addr} {fd : FuncData} (F : Fun K "turn_back" "turn_back" s_turn_back f fd) (g : mg "turn_back" = some (.ref f)) (g_NoTurn : mg "NoTurn" = some (.ref C_NoTurn)) (d_need_turn : DefAt P w K mg base 4 "need_turn" ["thing"] (sp_need_turn C_NoTurn)) (d_undone : DefAt P w K mg base 1 "undone" ["turn"] sp_undone) : DefAt P w K mg base 5 "turn_back" ["turn"] (sp_turn_back C_NoTurn) where
  f := f
  fd := fd
  g := g
  kp := F.kp
  b := F.binds (ps := ["turn"]) fun _ _ _ _ _ _ us hl => match us, hl with | [_], _ => rfl
  ok := by
    have sc := sc_turn_back
    refine fnD_of F sc (fun h => sp1_len h) fun cdv A outer s H E B qe hr tk po => ?_
    refine ⟨rd_turn_back C_NoTurn (fun cls _ m => qe cls m), (dss_cons (ds_expr (de_callD d_need_turn (hr.mono (by decide)) (by rfl) tk (da_cons (de_var 0) da_nil)))
  (dss_one (ds_ret (de_callD d_undone (hr.mono (by decide)) (by rfl) tk (da_cons (de_var 0) da_nil))))), fun ds m q h => rdok_turn_back C_NoTurn h⟩
def mk_turn_after {C_NoTurn : Addr} {f : Addr} {fd : FuncData} (F : Fun K "turn_after" "turn_after" s_turn_after f fd) (g : mg "turn_after" = some (.ref f)) (g_NoTurn : mg "NoTurn" = some (.ref C_NoTurn)) (d_need_turn : DefAt P w K mg base 4 "need_turn" ["thing"] (sp_need_turn C_NoTurn)) (z_len : mg "len" = none) (x_NoTurn : ExcF K mg "NoTurn" C_NoTurn) (z_tuple : mg "tuple" = none) : DefAt P w K mg base 5 "turn_after" ["one", "other"] (sp_turn_after C_NoTurn) where
  f := f
  fd := fd
  g := g
  kp := F.kp
  b := F.binds (ps := ["one", "other"]) fun _ _ _ _ _ _ us hl => match us, hl with | [_, _], _ => rfl
  ok := by
    have sc := sc_turn_after
    refine fnD_of F sc (fun h => sp2_len h) fun cdv A outer s H E B qe hr tk po => ?_
    refine ⟨rd_turn_after C_NoTurn (fun cls _ m => qe cls m), (dss_cons (ds_expr (de_callD d_need_turn (hr.mono (by decide)) (by rfl) tk (da_cons (de_var 0) da_nil)))
  (dss_cons (ds_expr (de_callD d_need_turn (hr.mono (by decide)) (by rfl) tk (da_cons (de_var 1) da_nil)))
  (dss_cons (ds_if (dt_cmp (d_ne hr.units) (de_callB c_len (by rfl) z_len (by decide +kernel) (da_cons (de_var 0) da_nil)) (de_callB c_len (by rfl) z_len (by decide +kernel) (da_cons (de_var 1) da_nil)) (nomark _)) (dss_one (ds_raise rfl tk (pmk_own PySem.F.excBase_ValueError x_NoTurn.q x_NoTurn.g x_NoTurn.k (raises_own x_NoTurn.b x_NoTurn.t) (by rfl)))) dss_nil)
  (dss_one (ds_ret (de_newTy n_tuple (by rfl) z_tuple (by decide +kernel) (dl_comp [("letter", 2)] rfl sc.nd (di_seq (de_var 0)) (blkOk_by (N := ["one", "other", "letter"]) (sc := defScope s_turn_after) (by decide +kernel)) (fun _ _ _ _ _ => (dg_name (i := 2) sc.nd)) (fun _ _ _ _ _ => dts_nil) (fun _ _ _ _ _ => (de_ix (de_var 1) (de_var 2)))))))))), fun ds m q h => rdok_turn_after C_NoTurn h⟩
def mk_turn_rings {C_NoTurn : Addr} {f : Addr} {fd : FuncData} (F : Fun K "turn_rings" "turn_rings" s_turn_rings f fd) (g : mg "turn_rings" = some (.ref f)) (g_NoTurn : mg "NoTurn" = some (.ref C_NoTurn)) (d_need_turn : DefAt P w K mg base 4 "need_turn" ["thing"] (sp_need_turn C_NoTurn)) (z_len : mg "len" = none) (z_list : mg "list" = none) (z_range : mg "range" = none) (z_tuple : mg "tuple" = none) : DefAt P w K mg base 5 "turn_rings" ["turn"] (sp_turn_rings C_NoTurn) where
  f := f
  fd := fd
  g := g
  kp := F.kp
  b := F.binds (ps := ["turn"]) fun _ _ _ _ _ _ us hl => match us, hl with | [_], _ => rfl
  ok := by
    have sc := sc_turn_rings
    refine fnD_of F sc (fun h => sp1_len h) fun cdv A outer s H E B qe hr tk po => ?_
    refine ⟨rd_turn_rings C_NoTurn (fun cls _ m => qe cls m), (dss_cons (ds_expr (de_callD d_need_turn (hr.mono (by decide)) (by rfl) tk (da_cons (de_var 0) da_nil)))
  (dss_cons (ds_set (i := 1) sc.nd (de_new (dl_lst da_nil)))
  (dss_cons (ds_set (i := 2) sc.nd (de_new (dl_listRg1 rfl (by rfl) z_list (by rfl) z_range (de_callB c_len (by rfl) z_len (by decide +kernel) (da_cons (de_var 0) da_nil)))))
  (dss_cons (ds_while po (dt_neNil hr.units (de_var 2)) (dss_cons (ds_set (i := 3) sc.nd (de_new (dl_lst (da_cons (de_bmL PySem.F.slot_list_pop PySem.F.type_list_pop m_popAt (de_var 2) (da_cons de_int da_nil)) da_nil))))
  (dss_cons (ds_while po (dt_cmp (d_ne hr.units) (de_ix (de_var 0) (de_ix (de_var 3) (de_un d_neg de_int))) (de_ix (de_var 3) de_int) (nomark _)) (dss_cons (ds_expr (de_bmL PySem.F.slot_list_append PySem.F.type_list_append m_append (de_var 3) (da_cons (de_ix (de_var 0) (de_ix (de_var 3) (de_un d_neg de_int))) da_nil)))
  (dss_one (ds_expr (de_remove rfl (de_var 2) (de_ix (de_var 3) (de_un d_neg de_int)))))))
  (dss_one (ds_expr (de_bmL PySem.F.slot_list_append PySem.F.type_list_append m_append (de_var 1) (da_cons (de_callTy c_tuple (by rfl) z_tuple (by decide +kernel) (da_cons (de_var 3) da_nil)) da_nil)))))))
  (dss_one (ds_ret (de_var 1))))))), fun ds m q h => rdok_turn_rings C_NoTurn h⟩
def mk_is_hand {f : Addr} {fd : FuncData} (F : Fun K "is_hand" "is_hand" s_is_hand f fd) (g : mg "is_hand" = some (.ref f)) (z_tuple : mg "tuple" = none) (z_isinstance : mg "isinstance" = none) (z_len : mg "len" = none) (d_is_turn : DefAt P w K mg base 3 "is_turn" ["thing"] sp_is_turn) (d_is_between : DefAt P w K mg base 2 "is_between" ["thing", "least", "most"] sp_is_between) (z_all : mg "all" = none) : DefAt P w K mg base 4 "is_hand" ["thing", "many", "hands"] sp_is_hand where
  f := f
  fd := fd
  g := g
  kp := F.kp
  b := F.binds (ps := ["thing", "many", "hands"]) fun _ _ _ _ _ _ us hl => match us, hl with | [_, _, _], _ => rfl
  ok := by
    have sc := sc_is_hand
    refine fnD_of F sc (fun h => sp3_len h) fun cdv A outer s H E B qe hr tk po => ?_
    refine ⟨rd_is_hand (fun cls _ m => qe cls m), (dss_cons (ds_if (dt_w (dw_or (dt_not (dt_truth (de_callB c_isi (by rfl) z_isinstance (by decide +kernel) (da_cons (de_var 0) (da_cons (de_ty (by rfl) z_tuple (by decide +kernel)) da_nil))))) (dw_or (dt_cmp (d_ne hr.units) (de_callB c_len (by rfl) z_len (by decide +kernel) (da_cons (de_var 0) da_nil)) de_int (nomark _)) (dw_or (dt_not (dt_truth (de_callD d_is_turn (hr.mono (by decide)) (by rfl) tk (da_cons (de_ix (de_var 0) de_int) da_nil)))) (dw_or1 (dt_cmp (d_ne hr.units) (de_callB c_len (by rfl) z_len (by decide +kernel) (da_cons (de_ix (de_var 0) de_int) da_nil)) (de_var 1) (nomark _))))))) (dss_one (ds_ret de_bl)) dss_nil)
  (dss_cons (ds_if (dt_w (dw_or (dt_not (dt_truth (de_callB c_isi (by rfl) z_isinstance (by decide +kernel) (da_cons (de_ix (de_var 0) de_int) (da_cons (de_ty (by rfl) z_tuple (by decide +kernel)) da_nil))))) (dw_or1 (dt_cmp (d_ne hr.units) (de_callB c_len (by rfl) z_len (by decide +kernel) (da_cons (de_ix (de_var 0) de_int) da_nil)) (de_var 1) (nomark _))))) (dss_one (ds_ret de_bl)) dss_nil)
  (dss_one (ds_ret (de_newB (n_all rfl) (by rfl) z_all (by decide +kernel) (dl_comp [("step", 3)] rfl sc.nd (di_seq (de_ix (de_var 0) de_int)) (blkOk_by (N := ["thing", "many", "hands", "step"]) (sc := defScope s_is_hand) (by decide +kernel)) (fun _ _ _ _ _ => (dg_name (i := 3) sc.nd)) (fun _ _ _ _ _ => dts_nil) (fun _ _ _ _ _ => (de_callD d_is_between (hr.mono (by decide)) (by rfl) takesN (da_cons (de_var 3) (da_cons (de_un d_neg (de_var 2)) (da_cons (de_var 2) da_nil))))))))))), fun ds m q h => rdok_is_hand h⟩
def mk_are_hands {f : Addr} {fd : FuncData} (F : Fun K "are_hands" "are_hands" s_are_hands f fd) (g : mg "are_hands" = some (.ref f)) (z_tuple : mg "tuple" = none) (z_list : mg "list" = none) (z_isinstance : mg "isinstance" = none) (z_len : mg "len" = none) (i_MOST_HANDS   : GI mg "MOST_HANDS" 6) (d_is_hand : DefAt P w K mg base 4 "is_hand" ["thing", "many", "hands"] sp_is_hand) (z_all : mg "all" = none) : DefAt P w K mg base 5 "are_hands" ["thing", "many"] sp_are_hands where
  f := f
  fd := fd
  g := g
  kp := F.kp
  b := F.binds (ps := ["thing", "many"]) fun _ _ _ _ _ _ us hl => match us, hl with | [_, _], _ => rfl
  ok := by
    have sc := sc_are_hands
    refine fnD_of F sc (fun h => sp2_len h) fun cdv A outer s H E B qe hr tk po => ?_
    refine ⟨rd_are_hands (fun cls _ m => qe cls m), (dss_cons (ds_if (dt_w (dw_or (dt_not (dt_truth (de_callB c_isi (by rfl) z_isinstance (by decide +kernel) (da_cons (de_var 0) (da_cons (de_tup (da_cons (de_ty (by rfl) z_list (by decide +kernel)) (da_cons (de_ty (by rfl) z_tuple (by decide +kernel)) da_nil))) da_nil))))) (dw_or1 (dt_cmp d_gt (de_callB c_len (by rfl) z_len (by decide +kernel) (da_cons (de_var 0) da_nil)) (de_gi i_MOST_HANDS (by rfl)) (nomark _))))) (dss_one (ds_ret de_bl)) dss_nil)
  (dss_one (ds_ret (de_newB (n_all rfl) (by rfl) z_all (by decide +kernel) (dl_comp [("one", 2)] rfl sc.nd (di_seq (de_var 0)) (blkOk_by (N := ["thing", "many", "one"]) (sc := defScope s_are_hands) (by decide +kernel)) (fun _ _ _ _ _ => (dg_name (i := 2) sc.nd)) (fun _ _ _ _ _ => dts_nil) (fun _ _ _ _ _ => (de_callD d_is_hand (hr.mono (by decide)) (by rfl) takesN (da_cons (de_var 2) (da_cons (de_var 1) (da_cons (de_callB c_len (by rfl) z_len (by decide +kernel) (da_cons (de_var 0) da_nil)) da_nil)))))))))), fun ds m q h => rdok_are_hands h⟩
def mk_Book___init__ {C_Book : Addr} {f : Addr} {fd : FuncData} (F : Fun K "__init__" "Book.__init__" s_Book___init__ f fd) (me : Meth K C_Book "__init__" f) (g_Book : mg "Book" = some (.ref C_Book)) (d_is_between : DefAt P w K mg base 2 "is_between" ["thing", "least", "most"] sp_is_between) (i_MOST_MANY   : GI mg "MOST_MANY" 4) (i_LEAST_MANY   : GI mg "LEAST_MANY" 2) (d_are_hands : DefAt P w K mg base 5 "are_hands" ["thing", "many"] sp_are_hands) (cl_Book : Cls K C_Book) (na_Book_many : NoAttr K C_Book "many") (na_Book_pairs : NoAttr K C_Book "pairs") (z_list : mg "list" = none) : MethAt P w K mg base 6 C_Book "__init__" ["self", "many", "hands"] (sp_Book___init__ C_Book) where
  f := f
  fd := fd
  me := me
  b := F.binds (ps := ["self", "many", "hands"]) fun _ _ _ _ _ _ us hl => match us, hl with | [_, _, _], _ => rfl
  ok := by
    have sc := sc_Book___init__
    refine fnD_of F sc (fun h => sp3_len h) fun cdv A outer s H E B qe hr tk po => ?_
    refine ⟨rd_Book___init__ C_Book (fun cls _ m => qe cls m), (dss_cons (ds_if (dt_w (dw_or (dt_not (dt_truth (de_callD d_is_between (hr.mono (by decide)) (by rfl) tk (da_cons (de_var 1) (da_cons (de_gi i_LEAST_MANY (by rfl)) (da_cons (de_gi i_MOST_MANY (by rfl)) da_nil)))))) (dw_or1 (dt_not (dt_truth (de_callD d_are_hands (hr.mono (by decide)) (by rfl) tk (da_cons (de_var 2) (da_cons (de_var 1) da_nil)))))))) (dss_one ds_never) dss_nil)
  (dss_cons (ds_fld cl_Book na_Book_many (de_var 0) (de_var 1))
  (dss_one (ds_fld cl_Book na_Book_pairs (de_var 0) (de_new (dl_callTy l_list (by rfl) z_list (by decide +kernel) (de_var 2))))))), fun ds m q h => rdok_Book___init__ C_Book h⟩
def mk_Book_has_step {C_Book : Addr} {f : Addr} {fd : FuncData} (F : Fun K "has_step" "Book.has_step" s_Book_has_step f fd) (me : Meth K C_Book "has_step" f) (g_Book : mg "Book" = some (.ref C_Book)) (d_is_between : DefAt P w K mg base 2 "is_between" ["thing", "least", "most"] sp_is_between) (cl_Book : Cls K C_Book) (na_Book_pairs : NoAttr K C_Book "pairs") (z_len : mg "len" = none) : MethAt P w K mg base 3 C_Book "has_step" ["self", "thing"] (sp_Book_has_step C_Book) where
  f := f
  fd := fd
  me := me
  b := F.binds (ps := ["self", "thing"]) fun _ _ _ _ _ _ us hl => match us, hl with | [_, _], _ => rfl
  ok := by
    have sc := sc_Book_has_step
    refine fnD_of F sc (fun h => sp2_len h) fun cdv A outer s H E B qe hr tk po => ?_
    refine ⟨rd_Book_has_step C_Book (fun cls _ m => qe cls m), (dss_one (ds_ret (de_and (de_callD d_is_between (hr.mono (by decide)) (by rfl) tk (da_cons (de_var 1) (da_cons (de_un d_neg (de_callB c_len (by rfl) z_len (by decide +kernel) (da_cons (de_fld cl_Book na_Book_pairs (de_var 0)) da_nil))) (da_cons (de_callB c_len (by rfl) z_len (by decide +kernel) (da_cons (de_fld cl_Book na_Book_pairs (de_var 0)) da_nil)) da_nil)))) (de_one (de_cmp (d_ne hr.units) (de_var 1) de_int (nomark _)))))), fun ds m q h => rdok_Book_has_step C_Book h⟩
def mk_Book_has_letter {C_Book : Addr} {f : Addr} {fd : FuncData} (F : Fun K "has_letter" "Book.has_letter" s_Book_has_letter f fd) (me : Meth K C_Book "has_letter" f) (g_Book : mg "Book" = some (.ref C_Book)) (d_is_between : DefAt P w K mg base 2 "is_between" ["thing", "least", "most"] sp_is_between) (cl_Book : Cls K C_Book) (na_Book_many : NoAttr K C_Book "many") : MethAt P w K mg base 3 C_Book "has_letter" ["self", "thing"] (sp_Book_has_letter C_Book) where
  f := f
  fd := fd
  me := me
  b := F.binds (ps := ["self", "thing"]) fun _ _ _ _ _ _ us hl => match us, hl with | [_, _], _ => rfl
  ok := by
    have sc := sc_Book_has_letter
    refine fnD_of F sc (fun h => sp2_len h) fun cdv A outer s H E B qe hr tk po => ?_
    refine ⟨rd_Book_has_letter C_Book (fun cls _ m => qe cls m), (dss_one (ds_ret (de_callD d_is_between (hr.mono (by decide)) (by rfl) tk (da_cons (de_var 1) (da_cons de_int (da_cons (de_op d_sub (de_fld cl_Book na_Book_many (de_var 0)) de_int) da_nil)))))), fun ds m q h => rdok_Book_has_letter C_Book h⟩
def mk_Book_turn {C_Book : Addr} {C_NoWord : Addr} {f : Addr} {fd : FuncData} (F : Fun K "turn" "Book.turn" s_Book_turn f fd) (me : Meth K C_Book "turn" f) (g_Book : mg "Book" = some (.ref C_Book)) (g_NoWord : mg "NoWord" = some (.ref C_NoWord)) (cl_Book : Cls K C_Book) (d_Book_has_step : MethAt P w K mg base 3 C_Book "has_step" ["self", "thing"] (sp_Book_has_step C_Book)) (x_NoWord : ExcF K mg "NoWord" C_NoWord) (na_Book_pairs : NoAttr K C_Book "pairs") (z_abs : mg "abs" = none) (d_undone : DefAt P w K mg base 1 "undone" ["turn"] sp_undone) : MethAt P w K mg base 4 C_Book "turn" ["self", "step"] (sp_Book_turn C_Book C_NoWord) where
  f := f
  fd := fd
  me := me
  b := F.binds (ps := ["self", "step"]) fun _ _ _ _ _ _ us hl => match us, hl with | [_, _], _ => rfl
  ok := by
    have sc := sc_Book_turn
    refine fnD_of F sc (fun h => sp2_len h) fun cdv A outer s H E B qe hr tk po => ?_
    refine ⟨rd_Book_turn C_Book C_NoWord (fun cls _ m => qe cls m), (dss_cons (ds_if (dt_not (dt_truth (de_meth d_Book_has_step cl_Book (hr.mono (by decide)) tk (de_var 0) (da_cons (de_var 1) da_nil)))) (dss_one (ds_raise rfl tk (pmk_own PySem.F.excBase_ValueError x_NoWord.q x_NoWord.g x_NoWord.k (raises_own x_NoWord.b x_NoWord.t) (by rfl)))) dss_nil)
  (dss_cons (ds_set (i := 2) sc.nd (de_ix (de_ix (de_fld cl_Book na_Book_pairs (de_var 0)) (de_op d_sub (de_callB c_abs (by rfl) z_abs (by decide +kernel) (da_cons (de_var 1) da_nil)) de_int)) de_int))
  (dss_one (ds_ret (de_ifExp (dt_cmp d_gt (de_var 1) de_int (nomark _)) (de_var 2) (de_callD d_undone (hr.mono (by decide)) (by rfl) tk (da_cons (de_var 2) da_nil))))))), fun ds m q h => rdok_Book_turn C_Book C_NoWord h⟩
def mk_Book_onward {C_Book : Addr} {C_NoRow : Addr} {C_NoWord : Addr} {f : Addr} {fd : FuncData} (F : Fun K "onward" "Book.onward" s_Book_onward f fd) (me : Meth K C_Book "onward" f) (g_Book : mg "Book" = some (.ref C_Book)) (g_NoRow : mg "NoRow" = some (.ref C_NoRow)) (g_NoWord : mg "NoWord" = some (.ref C_NoWord)) (cl_Book : Cls K C_Book) (d_Book_has_step : MethAt P w K mg base 3 C_Book "has_step" ["self", "thing"] (sp_Book_has_step C_Book)) (x_NoWord : ExcF K mg "NoWord" C_NoWord) (d_Book_has_letter : MethAt P w K mg base 3 C_Book "has_letter" ["self", "thing"] (sp_Book_has_letter C_Book)) (x_NoRow : ExcF K mg "NoRow" C_NoRow) (na_Book_pairs : NoAttr K C_Book "pairs") (z_abs : mg "abs" = none) : MethAt P w K mg base 4 C_Book "onward" ["self", "step", "letter"] (sp_Book_onward C_Book C_NoRow C_NoWord) where
  f := f
  fd := fd
  me := me
  b := F.binds (ps := ["self", "step", "letter"]) fun _ _ _ _ _ _ us hl => match us, hl with | [_, _, _], _ => rfl
  ok := by
    have sc := sc_Book_onward
    refine fnD_of F sc (fun h => sp3_len h) fun cdv A outer s H E B qe hr tk po => ?_
    refine ⟨rd_Book_onward C_Book C_NoRow C_NoWord (fun cls _ m => qe cls m), (dss_cons (ds_if (dt_not (dt_truth (de_meth d_Book_has_step cl_Book (hr.mono (by decide)) tk (de_var 0) (da_cons (de_var 1) da_nil)))) (dss_one (ds_raise rfl tk (pmk_own PySem.F.excBase_ValueError x_NoWord.q x_NoWord.g x_NoWord.k (raises_own x_NoWord.b x_NoWord.t) (by rfl)))) dss_nil)
  (dss_cons (ds_if (dt_not (dt_truth (de_meth d_Book_has_letter cl_Book (hr.mono (by decide)) tk (de_var 0) (da_cons (de_var 2) da_nil)))) (dss_one (ds_raise rfl tk (pmk_own PySem.F.excBase_ValueError x_NoRow.q x_NoRow.g x_NoRow.k (raises_own x_NoRow.b x_NoRow.t) (by rfl)))) dss_nil)
  (dss_cons (ds_asg (vs := [3, 4]) (de_ix (de_fld cl_Book na_Book_pairs (de_var 0)) (de_op d_sub (de_callB c_abs (by rfl) z_abs (by decide +kernel) (da_cons (de_var 1) da_nil)) de_int)) (dg_tup rfl (dgs_cons (dg_name (i := 3) sc.nd) (dgs_cons (dg_name (i := 4) sc.nd) dgs_nil))))
  (dss_one (ds_ret (de_ifExp (dt_cmp d_gt (de_var 1) de_int (nomark _)) (de_ix (de_var 4) (de_var 2)) (de_un d_neg (de_ix (de_var 4) (de_tix (de_var 3) (de_var 2)))))))))), fun ds m q h => rdok_Book_onward C_Book C_NoRow C_NoWord h⟩
def mk_law_state {f : Addr} {fd : FuncData} (F : Fun K "_law_state" "_law_state" s_law_state f fd) (g : mg "_law_state" = some (.ref f)) (z_len : mg "len" = none) (z_abs : mg "abs" = none) (z_enumerate : mg "enumerate" = none) : DefAt P w K mg base 1 "_law_state" ["_law_script", "_law_k"] sp_law_state where
  f := f
  fd := fd
  g := g
  kp := F.kp
  b := F.binds (ps := ["_law_script", "_law_k"]) fun _ _ _ _ _ _ us hl => match us, hl with | [_, _], _ => rfl
  ok := by
    have sc := sc_law_state
    refine fnD_of F sc (fun h => sp2_len h) fun cdv A outer s H E B qe hr tk po => ?_
    refine ⟨rd_law_state (fun cls _ m => qe cls m), (dss_cons (ds_set (i := 2) sc.nd (de_ifExp (dt_neNil hr.units (de_var 0)) (de_callB c_abs (by rfl) z_abs (by decide +kernel) (da_cons (de_ix (de_var 0) (de_op d_mod (de_var 1) (de_callB c_len (by rfl) z_len (by decide +kernel) (da_cons (de_var 0) da_nil)))) da_nil)) de_int))
  (dss_cons (ds_if (dt_w (dw_and (dt_cmp d_ge (de_var 2) (de_op d_pow de_int de_int) (nomark _)) (dw_and1 (dt_cmp d_lt (de_var 1) (de_callB c_len (by rfl) z_len (by decide +kernel) (da_cons (de_var 0) da_nil)) (nomark _))))) (dss_one (ds_ret (de_new (dl_lst (da_cons (de_op d_sub (de_var 2) (de_op d_pow de_int de_int)) da_nil))))) dss_nil)
  (dss_cons (ds_set (i := 3) sc.nd (de_new (dl_lst (da_cons de_int (da_cons de_int (da_cons de_int (da_cons de_int (da_cons de_int (da_cons de_int (da_cons de_int (da_cons de_int da_nil)))))))))))
  (dss_cons (ds_set (i := 3) sc.nd (de_op d_add (de_var 3) (de_new (dl_lst (da_cons de_int (da_cons de_int (da_cons de_int (da_cons de_int (da_cons de_int (da_cons de_int (da_cons de_int da_nil)))))))))))
  (dss_cons (ds_set (i := 4) sc.nd de_int)
  (dss_cons (ds_for (vs := [5, 6]) po rfl (di_enumL (by rfl) z_enumerate (de_var 3)) (dg_tup rfl (dgs_cons (dg_name (i := 5) sc.nd) (dgs_cons (dg_name (i := 6) sc.nd) dgs_nil))) (dss_cons (ds_set (i := 7) sc.nd (de_op d_mod (de_op d_add (de_op d_add (de_op d_add (de_var 2) (de_op d_mul de_int (de_var 1))) (de_op d_mul de_int (de_var 5))) de_int) (de_var 6)))
  (dss_one (ds_set (i := 4) sc.nd (de_op d_add (de_op d_mul (de_var 4) de_int) (de_op d_mod (de_op d_mul (de_var 7) (de_op d_add (de_op d_add (de_op d_mul (de_var 7) (de_var 7)) (de_op d_mul de_int (de_var 5))) de_int)) (de_var 6)))))))
  (dss_one (ds_ret (de_new (dl_lst (da_cons (de_var 4) da_nil))))))))))), fun ds m q h => rdok_law_state h⟩
def mk_law_next {f : Addr} {fd : FuncData} (F : Fun K "_law_next" "_law_next" s_law_next f fd) (g : mg "_law_next" = some (.ref f))  : DefAt P w K mg base 1 "_law_next" ["_law_state_here", "_law_many"] sp_law_next where
  f := f
  fd := fd
  g := g
  kp := F.kp
  b := F.binds (ps := ["_law_state_here", "_law_many"]) fun _ _ _ _ _ _ us hl => match us, hl with | [_, _], _ => rfl
  ok := by
    have sc := sc_law_next
    refine fnD_of F sc (fun h => sp2_len h) fun cdv A outer s H E B qe hr tk po => ?_
    refine ⟨rd_law_next (fun cls _ m => qe cls m), (dss_cons (ds_set (i := 2) sc.nd (de_op d_mod (de_ix (de_var 0) de_int) (de_var 1)))
  (dss_cons (ds_setIx (de_op d_fdiv (de_ix (de_var 0) de_int) (de_var 1)) (de_var 0) de_int)
  (dss_one (ds_ret (de_var 2))))), fun ds m q h => rdok_law_next h⟩
def mk_law_turn {f : Addr} {fd : FuncData} (F : Fun K "_law_turn" "_law_turn" s_law_turn f fd) (g : mg "_law_turn" = some (.ref f)) (z_list : mg "list" = none) (z_range : mg "range" = none) (d_law_next : DefAt P w K mg base 1 "_law_next" ["_law_state_here", "_law_many"] sp_law_next) (z_len : mg "len" = none) (z_tuple : mg "tuple" = none) : DefAt P w K mg base 2 "_law_turn" ["_law_state_here", "_law_many"] sp_law_turn where
  f := f
  fd := fd
  g := g
  kp := F.kp
  b := F.binds (ps := ["_law_state_here", "_law_many"]) fun _ _ _ _ _ _ us hl => match us, hl with | [_, _], _ => rfl
  ok := by
    have sc := sc_law_turn
    refine fnD_of F sc (fun h => sp2_len h) fun cdv A outer s H E B qe hr tk po => ?_
    refine ⟨rd_law_turn (fun cls _ m => qe cls m), (dss_cons (ds_set (i := 2) sc.nd (de_new (dl_listRg1 rfl (by rfl) z_list (by rfl) z_range (de_var 1))))
  (dss_one (ds_ret (de_newTy n_ftuple (by rfl) z_tuple (by decide +kernel) (dl_comp [("_law_k", 3)] rfl sc.nd (di_range1 (by rfl) z_range (de_var 1)) (blkOk_by (N := ["_law_state_here", "_law_many", "_law_left", "_law_k"]) (sc := defScope s_law_turn) (by decide +kernel)) (fun _ _ _ _ _ => (dg_name (i := 3) sc.nd)) (fun _ _ _ _ _ => dts_nil) (fun _ _ _ _ _ => (de_bmL PySem.F.slot_list_pop PySem.F.type_list_pop m_popAt (de_var 2) (da_cons (de_op d_mod (de_op d_add (de_callD d_law_next (hr.mono (by decide)) (by rfl) takesN (da_cons (de_var 0) (da_cons (de_callB c_len (by rfl) z_len (by decide +kernel) (da_cons (de_var 2) da_nil)) da_nil))) de_int) (de_callB c_len (by rfl) z_len (by decide +kernel) (da_cons (de_var 2) da_nil))) da_nil)))))))), fun ds m q h => rdok_law_turn h⟩
def mk_law_pairs {f : Addr} {fd : FuncData} (F : Fun K "_law_pairs" "_law_pairs" s_law_pairs f fd) (g : mg "_law_pairs" = some (.ref f)) (d_law_next : DefAt P w K mg base 1 "_law_next" ["_law_state_here", "_law_many"] sp_law_next) (z_range : mg "range" = none) (d_law_turn : DefAt P w K mg base 2 "_law_turn" ["_law_state_here", "_law_many"] sp_law_turn) (z_tuple : mg "tuple" = none) : DefAt P w K mg base 3 "_law_pairs" ["_law_state_here"] sp_law_pairs where
  f := f
  fd := fd
  g := g
  kp := F.kp
  b := F.binds (ps := ["_law_state_here"]) fun _ _ _ _ _ _ us hl => match us, hl with | [_], _ => rfl
  ok := by
    have sc := sc_law_pairs
    refine fnD_of F sc (fun h => sp1_len h) fun cdv A outer s H E B qe hr tk po => ?_
    refine ⟨rd_law_pairs (fun cls _ m => qe cls m), (dss_cons (ds_set (i := 1) sc.nd (de_ix (de_new (dl_lst (da_cons de_int (da_cons de_int (da_cons de_int (da_cons de_int da_nil)))))) (de_callD d_law_next (hr.mono (by decide)) (by rfl) tk (da_cons (de_var 0) (da_cons de_int da_nil)))))
  (dss_cons (ds_set (i := 2) sc.nd (de_ix (de_new (dl_lst (da_cons de_int (da_cons de_int (da_cons de_int (da_cons de_int (da_cons de_int (da_cons de_int (da_cons de_int (da_cons de_int da_nil)))))))))) (de_callD d_law_next (hr.mono (by decide)) (by rfl) tk (da_cons (de_var 0) (da_cons de_int da_nil)))))
  (dss_cons (ds_set (i := 3) sc.nd (de_new (dl_lst da_nil)))
  (dss_cons (ds_for (vs := [4]) po rfl (di_range1 (by rfl) z_range (de_var 2)) (dg_name (i := 4) sc.nd) (dss_cons (ds_set (i := 5) sc.nd (de_callD d_law_turn (hr.mono (by decide)) (by rfl) tk (da_cons (de_var 0) (da_cons (de_var 1) da_nil))))
  (dss_cons (ds_setLc (i := 7) [("_law_j", 6)] rfl sc.nd rfl rfl (sw_true rfl rfl rfl (by decide +kernel)) (di_range1 (by rfl) z_range (de_var 1)) (blkOk_by (N := ["_law_state_here", "_law_many", "_law_hands", "_law_pairs_here", "_law_k", "_law_turn_here", "_law_j", "_law_onward"]) (sc := defScope s_law_pairs) (by decide +kernel)) (fun _ _ _ _ _ => (dg_name (i := 6) sc.nd)) (fun _ _ _ _ _ => dts_nil) (fun _ _ _ _ _ => (de_op d_mul (de_callD d_law_next (hr.mono (by decide)) (by rfl) takesN (da_cons (de_var 0) (da_cons de_int da_nil))) (de_op d_sub (de_callD d_law_next (hr.mono (by decide)) (by rfl) takesN (da_cons (de_var 0) (da_cons (de_op d_add (de_op d_mul de_int (de_var 2)) de_int) da_nil))) (de_var 2)))))
  (dss_one (ds_expr (de_bmL PySem.F.slot_list_append PySem.F.type_list_append m_append (de_var 3) (da_cons (de_tup (da_cons (de_var 5) (da_cons (de_callTy c_tuple (by rfl) z_tuple (by decide +kernel) (da_cons (de_var 7) da_nil)) da_nil))) da_nil)))))))
  (dss_one (ds_ret (de_tup (da_cons (de_var 1) (da_cons (de_var 3) da_nil))))))))), fun ds m q h => rdok_law_pairs h⟩
def mk_law_goes {f : Addr} {fd : FuncData} (F : Fun K "_law_goes" "_law_goes" s_law_goes f fd) (g : mg "_law_goes" = some (.ref f)) (z_abs : mg "abs" = none) (z_len : mg "len" = none) (z_range : mg "range" = none) : DefAt P w K mg base 1 "_law_goes" ["_law_pairs_here", "_law_asked", "_law_sign"] sp_law_goes where
  f := f
  fd := fd
  g := g
  kp := F.kp
  b := F.binds (ps := ["_law_pairs_here", "_law_asked", "_law_sign"]) fun _ _ _ _ _ _ us hl => match us, hl with | [_, _, _], _ => rfl
  ok := by
    have sc := sc_law_goes
    refine fnD_of F sc (fun h => sp3_len h) fun cdv A outer s H E B qe hr tk po => ?_
    refine ⟨rd_law_goes (fun cls _ m => qe cls m), (dss_cons (ds_asg (vs := [3, 4]) (de_ix (de_var 0) (de_op d_sub (de_callB c_abs (by rfl) z_abs (by decide +kernel) (da_cons (de_var 1) da_nil)) de_int)) (dg_tup rfl (dgs_cons (dg_name (i := 3) sc.nd) (dgs_cons (dg_name (i := 4) sc.nd) dgs_nil))))
  (dss_cons (ds_if (dt_cmp d_gt (de_var 1) de_int (nomark _)) (dss_one (ds_ret (de_tup (da_cons (de_ix (de_var 3) (de_var 2)) (da_cons (de_ix (de_var 4) (de_var 2)) da_nil))))) dss_nil)
  (dss_cons (ds_set (i := 6) sc.nd (de_ix (de_new (dl_comp [("_law_k", 5)] rfl sc.nd (di_range1 (by rfl) z_range (de_callB c_len (by rfl) z_len (by decide +kernel) (da_cons (de_var 3) da_nil))) (blkOk_by (N := ["_law_pairs_here", "_law_asked", "_law_sign", "_law_turn_here", "_law_onward", "_law_k", "_law_first"]) (sc := defScope s_law_goes) (by decide +kernel)) (fun _ _ _ _ _ => (dg_name (i := 5) sc.nd)) (fun _ _ _ _ _ => (dts_one (dt_cmp (d_eq hr.units) (de_ix (de_var 3) (de_var 5)) (de_var 2) (nomark _)))) (fun _ _ _ _ _ => (de_var 5)))) de_int))
  (dss_one (ds_ret (de_tup (da_cons (de_var 6) (da_cons (de_un d_neg (de_ix (de_var 4) (de_var 6))) da_nil)))))))), fun ds m q h => rdok_law_goes h⟩
def mk_law_odd {f : Addr} {fd : FuncData} (F : Fun K "_law_odd" "_law_odd" s_law_odd f fd) (g : mg "_law_odd" = some (.ref f)) (d_law_next : DefAt P w K mg base 1 "_law_next" ["_law_state_here", "_law_many"] sp_law_next) : DefAt P w K mg base 2 "_law_odd" ["_law_state_here"] sp_law_odd where
  f := f
  fd := fd
  g := g
  kp := F.kp
  b := F.binds (ps := ["_law_state_here"]) fun _ _ _ _ _ _ us hl => match us, hl with | [_], _ => rfl
  ok := by
    have sc := sc_law_odd
    refine fnD_of F sc (fun h => sp1_len h) fun cdv A outer s H E B qe hr tk po => ?_
    refine ⟨rd_law_odd (fun cls _ m => qe cls m), (dss_cons (ds_set (i := 1) sc.nd (de_new (dl_lst (da_cons de_bl (da_cons de_bl (da_cons de_non (da_cons de_str (da_cons de_str (da_cons (de_tup (da_cons de_int da_nil)) (da_cons (de_new (dl_lst (da_cons de_int da_nil))) (da_cons de_dict0 (da_cons (de_op d_add (de_op d_pow de_int de_int) (de_callD d_law_next (hr.mono (by decide)) (by rfl) tk (da_cons (de_var 0) (da_cons (de_op d_pow de_int de_int) da_nil)))) (da_cons (de_un d_neg de_int) da_nil)))))))))))))
  (dss_one (ds_ret (de_ixG hr.units (de_var 1) (de_callD d_law_next (hr.mono (by decide)) (by rfl) tk (da_cons (de_var 0) (da_cons de_int da_nil))))))), fun ds m q h => rdok_law_odd h⟩
def mk_law_thing {f : Addr} {fd : FuncData} (F : Fun K "_law_thing" "_law_thing" s_law_thing f fd) (g : mg "_law_thing" = some (.ref f)) (d_law_next : DefAt P w K mg base 1 "_law_next" ["_law_state_here", "_law_many"] sp_law_next) (d_law_odd : DefAt P w K mg base 2 "_law_odd" ["_law_state_here"] sp_law_odd) (d_law_turn : DefAt P w K mg base 2 "_law_turn" ["_law_state_here", "_law_many"] sp_law_turn) (z_len : mg "len" = none) (z_list : mg "list" = none) : DefAt P w K mg base 3 "_law_thing" ["_law_state_here"] sp_law_thing where
  f := f
  fd := fd
  g := g
  kp := F.kp
  b := F.binds (ps := ["_law_state_here"]) fun _ _ _ _ _ _ us hl => match us, hl with | [_], _ => rfl
  ok := by
    have sc := sc_law_thing
    refine fnD_of F sc (fun h => sp1_len h) fun cdv A outer s H E B qe hr tk po => ?_
    refine ⟨rd_law_thing (fun cls _ m => qe cls m), (dss_cons (ds_set (i := 1) sc.nd (de_callD d_law_next (hr.mono (by decide)) (by rfl) tk (da_cons (de_var 0) (da_cons de_int da_nil))))
  (dss_cons (ds_set (i := 2) sc.nd (de_callD d_law_next (hr.mono (by decide)) (by rfl) tk (da_cons (de_var 0) (da_cons de_int da_nil))))
  (dss_cons (ds_set (i := 3) sc.nd (de_callD d_law_odd (hr.mono (by decide)) (by rfl) tk (da_cons (de_var 0) da_nil)))
  (dss_cons (ds_set (i := 4) sc.nd (de_op d_sub (de_callD d_law_next (hr.mono (by decide)) (by rfl) tk (da_cons (de_var 0) (da_cons de_int da_nil))) de_int))
  (dss_cons (ds_set (i := 5) sc.nd (de_callD d_law_turn (hr.mono (by decide)) (by rfl) tk (da_cons (de_var 0) (da_cons (de_op d_add de_int (de_callD d_law_next (hr.mono (by decide)) (by rfl) tk (da_cons (de_var 0) (da_cons de_int da_nil)))) da_nil))))
  (dss_cons (ds_set (i := 2) sc.nd (de_op d_mod (de_var 2) (de_callB c_len (by rfl) z_len (by decide +kernel) (da_cons (de_var 5) da_nil))))
  (dss_cons (ds_if (dt_cmp (d_eq hr.units) (de_var 1) de_int (nomark _)) (dss_one (ds_ret (de_op d_addF6 (de_op d_addF6 (de_sliceN (de_var 5) do_none (do_some (de_var 2))) (de_tup (da_cons (de_var 3) da_nil))) (de_sliceN (de_var 5) (do_some (de_op d_add (de_var 2) de_int)) do_none)))) dss_nil)
  (dss_cons (ds_if (dt_cmp (d_eq hr.units) (de_var 1) de_int (nomark _)) (dss_one (ds_ret (de_op d_addF6 (de_sliceN (de_var 5) do_none (do_some (de_var 2))) (de_sliceN (de_var 5) (do_some (de_op d_add (de_var 2) de_int)) do_none)))) dss_nil)
  (dss_cons (ds_if (dt_cmp (d_eq hr.units) (de_var 1) de_int (nomark _)) (dss_one (ds_ret (de_op d_addF6 (de_var 5) (de_tup (da_cons (de_var 4) da_nil))))) dss_nil)
  (dss_cons (ds_if (dt_cmp (d_eq hr.units) (de_var 1) de_int (nomark _)) (dss_one (ds_ret (de_ix (de_new (dl_lst (da_cons (de_var 3) (da_cons (de_new (dl_callTy l_list (by rfl) z_list (by decide +kernel) (de_var 5))) da_nil)))) (de_op d_mod (de_var 4) de_int)))) dss_nil)
  (dss_one (ds_ret (de_op d_addF6 (de_op d_addF6 (de_sliceN (de_var 5) do_none (do_some (de_var 2))) (de_tup (da_cons (de_var 4) da_nil))) (de_sliceN (de_var 5) (do_some (de_op d_add (de_var 2) de_int)) do_none)))))))))))))), fun ds m q h => rdok_law_thing h⟩
def mk_law_is_turn {f : Addr} {fd : FuncData} (F : Fun K "_law_is_turn" "_law_is_turn" s_law_is_turn f fd) (g : mg "_law_is_turn" = some (.ref f)) (z_tuple : mg "tuple" = none) (z_isinstance : mg "isinstance" = none) (z_len : mg "len" = none) (z_repr : mg "repr" = none) (z_sorted : mg "sorted" = none) (z_range : mg "range" = none) (z_str : mg "str" = none) : DefG P w K mg base 1 "_law_is_turn" ["_law_thing_here"] sp_law_is_turn where
  f := f
  fd := fd
  g := g
  kp := F.kp
  b := F.binds (ps := ["_law_thing_here"]) fun _ _ _ _ _ _ us hl => match us, hl with | [_], _ => rfl
  ok := by
    have sc := sc_law_is_turn
    refine fnDG_of F sc (fun h => sp1_len h) fun cdv A outer s H E B qe hr gd tk po => ?_
    refine ⟨rd_law_is_turn (fun cls _ m => qe cls m), (dss_cons (ds_if (dt_w (dw_or (dt_not (dt_truth (de_callB c_isi (by rfl) z_isinstance (by decide +kernel) (da_cons (de_var 0) (da_cons (de_ty (by rfl) z_tuple (by decide +kernel)) da_nil))))) (dw_or1 (dt_cmp (d_notIn hr.units) (de_callB c_len (by rfl) z_len (by decide +kernel) (da_cons (de_var 0) da_nil)) (de_tup (da_cons de_int (da_cons de_int (da_cons de_int da_nil)))) (by rfl))))) (dss_one (ds_ret de_bl)) dss_nil)
  (dss_one (ds_ret (de_eqNN hr.units (dl_newB nl_sortedS (by rfl) z_sorted (by decide +kernel) (dl_comp [("_law_one", 1)] rfl sc.nd (di_seq (de_var 0)) (blkOk_by (N := ["_law_thing_here", "_law_one", "_law_k"]) (sc := defScope s_law_is_turn) (by decide +kernel)) (fun _ _ _ _ _ => (dg_name (i := 1) sc.nd)) (fun _ _ _ _ _ => dts_nil) (fun _ _ _ _ _ => (de_callB (c_reprX gd hr.units) (by rfl) z_repr (by decide +kernel) (da_cons (de_var 1) da_nil))))) (dl_comp [("_law_k", 2)] rfl sc.nd (di_range1 (by rfl) z_range (de_callB c_len (by rfl) z_len (by decide +kernel) (da_cons (de_var 0) da_nil))) (blkOk_by (N := ["_law_thing_here", "_law_one", "_law_k"]) (sc := defScope s_law_is_turn) (by decide +kernel)) (fun _ _ _ _ _ => (dg_name (i := 2) sc.nd)) (fun _ _ _ _ _ => dts_nil) (fun _ _ _ _ _ => (de_callTy c_str (by rfl) z_str (by decide +kernel) (da_cons (de_var 2) da_nil)))))))), fun ds m q h => rdok_law_is_turn h⟩
def mk_law_whole {f : Addr} {fd : FuncData} (F : Fun K "_law_whole" "_law_whole" s_law_whole f fd) (g : mg "_law_whole" = some (.ref f)) (z_int : mg "int" = none) (z_isinstance : mg "isinstance" = none) (z_bool : mg "bool" = none) : DefAt P w K mg base 1 "_law_whole" ["_law_thing_here", "_law_low", "_law_most"] sp_law_whole where
  f := f
  fd := fd
  g := g
  kp := F.kp
  b := F.binds (ps := ["_law_thing_here", "_law_low", "_law_most"]) fun _ _ _ _ _ _ us hl => match us, hl with | [_, _, _], _ => rfl
  ok := by
    have sc := sc_law_whole
    refine fnD_of F sc (fun h => sp3_len h) fun cdv A outer s H E B qe hr tk po => ?_
    refine ⟨rd_law_whole (fun cls _ m => qe cls m), (dss_one (ds_ret (de_and (de_callB c_isi (by rfl) z_isinstance (by decide +kernel) (da_cons (de_var 0) (da_cons (de_ty (by rfl) z_int (by decide +kernel)) da_nil))) (de_and (de_not (de_callB c_isi (by rfl) z_isinstance (by decide +kernel) (da_cons (de_var 0) (da_cons (de_ty (by rfl) z_bool (by decide +kernel)) da_nil)))) (de_one (de_chain d_le d_le (de_var 1) (de_var 0) (de_var 2))))))), fun ds m q h => rdok_law_whole h⟩
theorem mk_law_told {X : Cx} {C_NoRow : Addr} {C_NoTurn : Addr} {C_NoWord : Addr} {C_HandError : Addr} {C_NoText : Addr} {C_NoDeed : Addr} {C_InUse : Addr} {C_NoName : Addr} {C_TooMany : Addr} {C_NoNumber : Addr} {C_NoMachine : Addr} {C_NoBook : Addr} {g : Addr} {cdv : Value} {kk : Nat} (hkk : 1 ≤ kk) (g_NoRow : X.mg "NoRow" = some (.ref C_NoRow)) (g_NoTurn : X.mg "NoTurn" = some (.ref C_NoTurn)) (g_NoWord : X.mg "NoWord" = some (.ref C_NoWord)) (g_HandError : X.mg "HandError" = some (.ref C_HandError)) (ex_NoRow_HandError : PySem.W.exmOne X.K (.ref C_NoRow) (.ref C_HandError) = some true) (ex_NoTurn_HandError : PySem.W.exmOne X.K (.ref C_NoTurn) (.ref C_HandError) = some true) (ex_NoWord_HandError : PySem.W.exmOne X.K (.ref C_NoWord) (.ref C_HandError) = some true) (g_NoText : X.mg "NoText" = some (.ref C_NoText)) (kt_NoneType_NoText : PySem.W.kitOne X.K (.type "NoneType") (.ref C_NoText) = some false) (ec_NoRow : ExcC X.K C_NoRow) (kt_NoRow_NoText : PySem.W.kitOne X.K (.ref C_NoRow) (.ref C_NoText) = some false) (ec_NoTurn : ExcC X.K C_NoTurn) (kt_NoTurn_NoText : PySem.W.kitOne X.K (.ref C_NoTurn) (.ref C_NoText) = some false) (ec_NoWord : ExcC X.K C_NoWord) (kt_NoWord_NoText : PySem.W.kitOne X.K (.ref C_NoWord) (.ref C_NoText) = some false) (z_isinstance : X.mg "isinstance" = none) (g_NoDeed : X.mg "NoDeed" = some (.ref C_NoDeed)) (kt_NoneType_NoDeed : PySem.W.kitOne X.K (.type "NoneType") (.ref C_NoDeed) = some false) (kt_NoRow_NoDeed : PySem.W.kitOne X.K (.ref C_NoRow) (.ref C_NoDeed) = some false) (kt_NoTurn_NoDeed : PySem.W.kitOne X.K (.ref C_NoTurn) (.ref C_NoDeed) = some false) (kt_NoWord_NoDeed : PySem.W.kitOne X.K (.ref C_NoWord) (.ref C_NoDeed) = some false) (g_InUse : X.mg "InUse" = some (.ref C_InUse)) (kt_NoneType_InUse : PySem.W.kitOne X.K (.type "NoneType") (.ref C_InUse) = some false) (kt_NoRow_InUse : PySem.W.kitOne X.K (.ref C_NoRow) (.ref C_InUse) = some false) (kt_NoTurn_InUse : PySem.W.kitOne X.K (.ref C_NoTurn) (.ref C_InUse) = some false) (kt_NoWord_InUse : PySem.W.kitOne X.K (.ref C_NoWord) (.ref C_InUse) = some false) (g_NoName : X.mg "NoName" = some (.ref C_NoName)) (kt_NoneType_NoName : PySem.W.kitOne X.K (.type "NoneType") (.ref C_NoName) = some false) (kt_NoRow_NoName : PySem.W.kitOne X.K (.ref C_NoRow) (.ref C_NoName) = some false) (kt_NoTurn_NoName : PySem.W.kitOne X.K (.ref C_NoTurn) (.ref C_NoName) = some false) (kt_NoWord_NoName : PySem.W.kitOne X.K (.ref C_NoWord) (.ref C_NoName) = some false) (g_TooMany : X.mg "TooMany" = some (.ref C_TooMany)) (kt_NoneType_TooMany : PySem.W.kitOne X.K (.type "NoneType") (.ref C_TooMany) = some false) (kt_NoRow_TooMany : PySem.W.kitOne X.K (.ref C_NoRow) (.ref C_TooMany) = some false) (kt_NoTurn_TooMany : PySem.W.kitOne X.K (.ref C_NoTurn) (.ref C_TooMany) = some false) (kt_NoWord_TooMany : PySem.W.kitOne X.K (.ref C_NoWord) (.ref C_TooMany) = some false) (g_NoNumber : X.mg "NoNumber" = some (.ref C_NoNumber)) (kt_NoneType_NoNumber : PySem.W.kitOne X.K (.type "NoneType") (.ref C_NoNumber) = some false) (kt_NoRow_NoNumber : PySem.W.kitOne X.K (.ref C_NoRow) (.ref C_NoNumber) = some false) (kt_NoTurn_NoNumber : PySem.W.kitOne X.K (.ref C_NoTurn) (.ref C_NoNumber) = some false) (kt_NoWord_NoNumber : PySem.W.kitOne X.K (.ref C_NoWord) (.ref C_NoNumber) = some false) (g_NoMachine : X.mg "NoMachine" = some (.ref C_NoMachine)) (kt_NoneType_NoMachine : PySem.W.kitOne X.K (.type "NoneType") (.ref C_NoMachine) = some false) (kt_NoRow_NoMachine : PySem.W.kitOne X.K (.ref C_NoRow) (.ref C_NoMachine) = some false) (kt_NoTurn_NoMachine : PySem.W.kitOne X.K (.ref C_NoTurn) (.ref C_NoMachine) = some false) (kt_NoWord_NoMachine : PySem.W.kitOne X.K (.ref C_NoWord) (.ref C_NoMachine) = some false) (kt_NoneType_NoRow : PySem.W.kitOne X.K (.type "NoneType") (.ref C_NoRow) = some false) (kt_NoRow_NoRow : PySem.W.kitOne X.K (.ref C_NoRow) (.ref C_NoRow) = some true) (kt_NoTurn_NoRow : PySem.W.kitOne X.K (.ref C_NoTurn) (.ref C_NoRow) = some false) (kt_NoWord_NoRow : PySem.W.kitOne X.K (.ref C_NoWord) (.ref C_NoRow) = some false) (kt_NoneType_NoWord : PySem.W.kitOne X.K (.type "NoneType") (.ref C_NoWord) = some false) (kt_NoRow_NoWord : PySem.W.kitOne X.K (.ref C_NoRow) (.ref C_NoWord) = some false) (kt_NoTurn_NoWord : PySem.W.kitOne X.K (.ref C_NoTurn) (.ref C_NoWord) = some false) (kt_NoWord_NoWord : PySem.W.kitOne X.K (.ref C_NoWord) (.ref C_NoWord) = some true) (g_NoBook : X.mg "NoBook" = some (.ref C_NoBook)) (kt_NoneType_NoBook : PySem.W.kitOne X.K (.type "NoneType") (.ref C_NoBook) = some false) (kt_NoRow_NoBook : PySem.W.kitOne X.K (.ref C_NoRow) (.ref C_NoBook) = some false) (kt_NoTurn_NoBook : PySem.W.kitOne X.K (.ref C_NoTurn) (.ref C_NoBook) = some false) (kt_NoWord_NoBook : PySem.W.kitOne X.K (.ref C_NoWord) (.ref C_NoBook) = some false) (kt_NoneType_NoTurn : PySem.W.kitOne X.K (.type "NoneType") (.ref C_NoTurn) = some false) (kt_NoRow_NoTurn : PySem.W.kitOne X.K (.ref C_NoRow) (.ref C_NoTurn) = some false) (kt_NoTurn_NoTurn : PySem.W.kitOne X.K (.ref C_NoTurn) (.ref C_NoTurn) = some true) (kt_NoWord_NoTurn : PySem.W.kitOne X.K (.ref C_NoWord) (.ref C_NoTurn) = some false) : GivesD X kk N_law_told "_law_told" (defScope s_law_told) g cdv (defBody s_law_told) "_law_work" (sp_law_told C_NoRow C_NoTurn C_NoWord) := by
  have sc := sc_law_told
  intro f s H dl m q hr gd act hsp
  replace hr := hr.mono hkk
  have st : Step H m H m := Step.refl _ _
  have po : ∀ {M : Model} {A : Around} {env : Env}, PassesOwn M A env (fun _ _ => False) := PassesOwn.never
  exact ⟨rd_law_told C_NoRow C_NoTurn C_NoWord C_HandError C_NoText C_NoDeed C_InUse C_NoName C_TooMany C_NoNumber C_NoMachine C_NoBook f dl (fun _ _ _ => False), (dss_cons (ds_set (i := 1) sc.nd de_non)
  (dss_cons (ds_set (i := 2) sc.nd de_non)
  (dss_cons (ds_tryKS (i := 3) rfl rfl rfl sc.nd (exOk_cons ex_NoRow_HandError (exOk_cons ex_NoTurn_HandError (exOk_cons ex_NoWord_HandError exOk_nil))) (takes0D fun _ _ _ h => h) (fun B we pn xe st tk po => (dss_one (ds_set (i := 1) sc.nd (act _ _ _ _ _ _ st tk)))) (fun B a pn => (dss_one (ds_set (i := 2) sc.nd (de_var 3)))) (by refine ⟨by rfl, by decide, .inl g_HandError⟩))
  (dss_cons (ds_if (dt_cmp d_isN (de_var 2) de_non (nomark _)) (dss_one (ds_ret (de_tup (da_cons de_str (da_cons (de_var 1) da_nil))))) dss_nil)
  (dss_cons (ds_set (i := 4) sc.nd (de_new (dl_lst (da_cons (de_tup (da_cons de_str (da_cons (de_callB (c_isiE (.ty kt_NoneType_NoTurn (.own ec_NoRow kt_NoRow_NoTurn (.own ec_NoTurn kt_NoTurn_NoTurn (.own ec_NoWord kt_NoWord_NoTurn CtOk.nil))))) (by rfl) z_isinstance (by decide +kernel) (da_cons (de_var 2) (da_cons (de_gref (by rfl) g_NoTurn) da_nil))) da_nil))) (da_cons (de_tup (da_cons de_str (da_cons (de_callB (c_isiE (.ty kt_NoneType_NoBook (.own ec_NoRow kt_NoRow_NoBook (.own ec_NoTurn kt_NoTurn_NoBook (.own ec_NoWord kt_NoWord_NoBook CtOk.nil))))) (by rfl) z_isinstance (by decide +kernel) (da_cons (de_var 2) (da_cons (de_gref (by rfl) g_NoBook) da_nil))) da_nil))) (da_cons (de_tup (da_cons de_str (da_cons (de_callB (c_isiE (.ty kt_NoneType_NoWord (.own ec_NoRow kt_NoRow_NoWord (.own ec_NoTurn kt_NoTurn_NoWord (.own ec_NoWord kt_NoWord_NoWord CtOk.nil))))) (by rfl) z_isinstance (by decide +kernel) (da_cons (de_var 2) (da_cons (de_gref (by rfl) g_NoWord) da_nil))) da_nil))) (da_cons (de_tup (da_cons de_str (da_cons (de_callB (c_isiE (.ty kt_NoneType_NoRow (.own ec_NoRow kt_NoRow_NoRow (.own ec_NoTurn kt_NoTurn_NoRow (.own ec_NoWord kt_NoWord_NoRow CtOk.nil))))) (by rfl) z_isinstance (by decide +kernel) (da_cons (de_var 2) (da_cons (de_gref (by rfl) g_NoRow) da_nil))) da_nil))) (da_cons (de_tup (da_cons de_str (da_cons (de_callB (c_isiE (.ty kt_NoneType_NoMachine (.own ec_NoRow kt_NoRow_NoMachine (.own ec_NoTurn kt_NoTurn_NoMachine (.own ec_NoWord kt_NoWord_NoMachine CtOk.nil))))) (by rfl) z_isinstance (by decide +kernel) (da_cons (de_var 2) (da_cons (de_gref (by rfl) g_NoMachine) da_nil))) da_nil))) (da_cons (de_tup (da_cons de_str (da_cons (de_callB (c_isiE (.ty kt_NoneType_NoNumber (.own ec_NoRow kt_NoRow_NoNumber (.own ec_NoTurn kt_NoTurn_NoNumber (.own ec_NoWord kt_NoWord_NoNumber CtOk.nil))))) (by rfl) z_isinstance (by decide +kernel) (da_cons (de_var 2) (da_cons (de_gref (by rfl) g_NoNumber) da_nil))) da_nil))) (da_cons (de_tup (da_cons de_str (da_cons (de_callB (c_isiE (.ty kt_NoneType_TooMany (.own ec_NoRow kt_NoRow_TooMany (.own ec_NoTurn kt_NoTurn_TooMany (.own ec_NoWord kt_NoWord_TooMany CtOk.nil))))) (by rfl) z_isinstance (by decide +kernel) (da_cons (de_var 2) (da_cons (de_gref (by rfl) g_TooMany) da_nil))) da_nil))) (da_cons (de_tup (da_cons de_str (da_cons (de_callB (c_isiE (.ty kt_NoneType_NoName (.own ec_NoRow kt_NoRow_NoName (.own ec_NoTurn kt_NoTurn_NoName (.own ec_NoWord kt_NoWord_NoName CtOk.nil))))) (by rfl) z_isinstance (by decide +kernel) (da_cons (de_var 2) (da_cons (de_gref (by rfl) g_NoName) da_nil))) da_nil))) (da_cons (de_tup (da_cons de_str (da_cons (de_callB (c_isiE (.ty kt_NoneType_InUse (.own ec_NoRow kt_NoRow_InUse (.own ec_NoTurn kt_NoTurn_InUse (.own ec_NoWord kt_NoWord_InUse CtOk.nil))))) (by rfl) z_isinstance (by decide +kernel) (da_cons (de_var 2) (da_cons (de_gref (by rfl) g_InUse) da_nil))) da_nil))) (da_cons (de_tup (da_cons de_str (da_cons (de_callB (c_isiE (.ty kt_NoneType_NoDeed (.own ec_NoRow kt_NoRow_NoDeed (.own ec_NoTurn kt_NoTurn_NoDeed (.own ec_NoWord kt_NoWord_NoDeed CtOk.nil))))) (by rfl) z_isinstance (by decide +kernel) (da_cons (de_var 2) (da_cons (de_gref (by rfl) g_NoDeed) da_nil))) da_nil))) (da_cons (de_tup (da_cons de_str (da_cons (de_callB (c_isiE (.ty kt_NoneType_NoText (.own ec_NoRow kt_NoRow_NoText (.own ec_NoTurn kt_NoTurn_NoText (.own ec_NoWord kt_NoWord_NoText CtOk.nil))))) (by rfl) z_isinstance (by decide +kernel) (da_cons (de_var 2) (da_cons (de_gref (by rfl) g_NoText) da_nil))) da_nil))) da_nil))))))))))))))
  (dss_one (ds_ret (de_tup (da_cons de_str (da_cons (de_join de_str (de_new (dl_comp [("_law_name", 5), ("_law_there", 6)] rfl sc.nd (di_seq (de_var 4)) (blkOk_by (N := ["_law_work", "_law_found", "_law_error", "e", "_law_marks", "_law_name", "_law_there"]) (sc := defScope s_law_told) (by decide +kernel)) (fun _ _ _ _ _ => (dg_tup rfl (dgs_cons (dg_name (i := 5) sc.nd) (dgs_cons (dg_name (i := 6) sc.nd) dgs_nil)))) (fun _ _ _ _ _ => (dts_one (dt_truth (de_var 6)))) (fun _ _ _ _ _ => (de_var 5))))) da_nil)))))))))), rdok_law_told C_NoRow C_NoTurn C_NoWord C_HandError C_NoText C_NoDeed C_InUse C_NoName C_TooMany C_NoNumber C_NoMachine C_NoBook f dl hsp⟩
def mk_law_turns_refused {C_NoTurn : Addr} {C_NoRow : Addr} {C_NoWord : Addr} {P_law_turns_refused : Addr} {cc_law_turns_refused : Addr} {g_law_told : Addr} {fd_law_told : FuncData} {f : Addr} {fd : FuncData} (F : Fun K "_law_turns_refused" "_law_turns_refused" s_law_turns_refused f fd) (g : mg "_law_turns_refused" = some (.ref f)) (g_NoTurn : mg "NoTurn" = some (.ref C_NoTurn)) (TB_law_turns_refused : TabB base mg cc_law_turns_refused P_law_turns_refused) (hcT_law_turns_refused : fd.code = .ref cc_law_turns_refused) (F_law_told : Fun K "_law_told" "_law_told" s_law_told g_law_told fd_law_told) (gm_law_told : mg "_law_told" = some (.ref g_law_told)) (b_law_told : Binds K fd_law_told ["_law_work"] []) (G_law_told : ∀ (X : Cx) (cdv : Value), X.K = K → X.mg = mg → GivesD X 7 N_law_told "_law_told" (defScope s_law_told) g_law_told cdv (defBody s_law_told) "_law_work" (sp_law_told C_NoRow C_NoTurn C_NoWord)) (g_NoRow : mg "NoRow" = some (.ref C_NoRow)) (g_NoWord : mg "NoWord" = some (.ref C_NoWord)) (d_turn_after : DefAt P w K mg base 5 "turn_after" ["one", "other"] (sp_turn_after C_NoTurn)) (d_turn_rings : DefAt P w K mg base 5 "turn_rings" ["turn"] (sp_turn_rings C_NoTurn)) (d_turn_back : DefAt P w K mg base 5 "turn_back" ["turn"] (sp_turn_back C_NoTurn)) (d_law_is_turn : DefG P w K mg base 1 "_law_is_turn" ["_law_thing_here"] sp_law_is_turn) : DefG P w K mg base 9 "_law_turns_refused" ["_law_thing_here", "_law_good"] (sp_law_turns_refused C_NoTurn P_law_turns_refused) where
  f := f
  fd := fd
  g := g
  kp := F.kp
  b := F.binds (ps := ["_law_thing_here", "_law_good"]) fun _ _ _ _ _ _ us hl => match us, hl with | [_, _], _ => rfl
  ok := by
    have sc := sc_law_turns_refused
    refine fnDG_ofC F sc (fun h => sp2_len h) fun cdv A outer s H E B qe hc hr gd tk po => ?_
    refine ⟨rd_law_turns_refused C_NoTurn C_NoRow C_NoWord P_law_turns_refused _ l_law_turns_refused_0 l_law_turns_refused_1 l_law_turns_refused_2 l_law_turns_refused_3 l_law_turns_refused_4 (fun cls _ m => qe cls m), (dss_cons (ds_set (i := 2) sc.nd (de_tup (da_cons de_str (da_cons de_str da_nil))))
  (dss_cons (ds_set (i := 3) sc.nd (de_new (dl_lst (da_cons (de_keepF TB_law_turns_refused (hc.symm.trans hcT_law_turns_refused) (lamS_by (sc := defScope s_law_turns_refused) (by decide +kernel))) da_nil))))
  (dss_cons (ds_expr (de_bmL PySem.F.slot_list_append PySem.F.type_list_append m_append (de_var 3) (da_cons (de_keepF TB_law_turns_refused (hc.symm.trans hcT_law_turns_refused) (lamS_by (sc := defScope s_law_turns_refused) (by decide +kernel))) da_nil)))
  (dss_cons (ds_expr (de_bmL PySem.F.slot_list_append PySem.F.type_list_append m_append (de_var 3) (da_cons (de_keepF TB_law_turns_refused (hc.symm.trans hcT_law_turns_refused) (lamS_by (sc := defScope s_law_turns_refused) (by decide +kernel))) da_nil)))
  (dss_cons (ds_expr (de_bmL PySem.F.slot_list_append PySem.F.type_list_append m_append (de_var 3) (da_cons (de_keepF TB_law_turns_refused (hc.symm.trans hcT_law_turns_refused) (lamS_by (sc := defScope s_law_turns_refused) (by decide +kernel))) da_nil)))
  (dss_cons (ds_expr (de_bmL PySem.F.slot_list_append PySem.F.type_list_append m_append (de_var 3) (da_cons (de_keepF TB_law_turns_refused (hc.symm.trans hcT_law_turns_refused) (lamS_by (sc := defScope s_law_turns_refused) (by decide +kernel))) da_nil)))
  (dss_cons (ds_setLcL (i := 5) [("_law_work", 4)] rfl sc.nd rfl rfl (sw_true rfl rfl rfl (by decide +kernel)) (di_seq (de_var 3)) (blkOk_by (N := ["_law_thing_here", "_law_good", "_law_due", "_law_works", "_law_work", "_law_found", "_law_one"]) (sc := defScope s_law_turns_refused) (by decide +kernel)) (fun _ _ _ _ _ => (dg_name (i := 4) sc.nd)) (fun _ _ _ _ _ => dts_nil) (fun _ _ _ _ _ _ _ I3 f3 => (de_tellBF I3 f3 (k := 6) F_law_told gm_law_told sc_law_told b_law_told (fun cdv => G_law_told _ cdv rfl rfl) hr gd (de_var 4) (all_cons ⟨lamS_by (sc := defScope s_law_turns_refused) (scope := l_law_turns_refused_0.scope) (by decide +kernel), (by intro _ _ _ _ _; rfl), fun _ _ _ _ _ _ _ _ we hr tk => (de_callD d_turn_back (hr.mono (by decide)) (by rfl) tk (da_cons (de_var 0) da_nil))⟩ (all_cons ⟨lamS_by (sc := defScope s_law_turns_refused) (scope := l_law_turns_refused_1.scope) (by decide +kernel), (by intro _ _ _ _ _; rfl), fun _ _ _ _ _ _ _ _ we hr tk => (de_callD d_turn_rings (hr.mono (by decide)) (by rfl) tk (da_cons (de_var 0) da_nil))⟩ (all_cons ⟨lamS_by (sc := defScope s_law_turns_refused) (scope := l_law_turns_refused_2.scope) (by decide +kernel), (by intro _ _ _ _ _; rfl), fun _ _ _ _ _ _ _ _ we hr tk => (de_callD d_turn_after (hr.mono (by decide)) (by rfl) tk (da_cons (de_var 0) (da_cons (de_var 1) da_nil)))⟩ (all_cons ⟨lamS_by (sc := defScope s_law_turns_refused) (scope := l_law_turns_refused_3.scope) (by decide +kernel), (by intro _ _ _ _ _; rfl), fun _ _ _ _ _ _ _ _ we hr tk => (de_callD d_turn_after (hr.mono (by decide)) (by rfl) tk (da_cons (de_var 1) (da_cons (de_var 0) da_nil)))⟩ (all_cons ⟨lamS_by (sc := defScope s_law_turns_refused) (scope := l_law_turns_refused_4.scope) (by decide +kernel), (by intro _ _ _ _ _; rfl), fun _ _ _ _ _ _ _ _ we hr tk => (de_callD d_turn_after (hr.mono (by decide)) (by rfl) tk (da_cons (de_var 0) (da_cons (de_var 0) da_nil)))⟩ (by simp)))))))))
  (dss_cons (ds_if (dt_truth (de_callG d_law_is_turn gd (hr.mono (by decide)) (by rfl) tk (da_cons (de_var 0) da_nil))) (dss_one (ds_ret (de_and (de_eqNN hr.units (dl_comp [("_law_one", 6)] rfl sc.nd (di_seq (de_slice (de_var 5) do_none (do_some de_int))) (blkOk_by (N := ["_law_thing_here", "_law_good", "_law_due", "_law_works", "_law_work", "_law_found", "_law_one"]) (sc := defScope s_law_turns_refused) (by decide +kernel)) (fun _ _ _ _ _ => (dg_name (i := 6) sc.nd)) (fun _ _ _ _ _ => dts_nil) (fun _ _ _ _ _ => (de_ix (de_var 6) de_int))) (dl_lst (da_cons de_str (da_cons de_str da_nil)))) (de_one (de_cmp (d_eq hr.units) (de_ix (de_ix (de_var 5) de_int) de_int) de_str (nomark _)))))) dss_nil)
  (dss_one (ds_ret (de_cmp (d_eq hr.units) (de_var 5) (de_op d_mul (de_new (dl_lst (da_cons (de_var 2) da_nil))) de_int) (nomark _)))))))))))), fun ds m q h => rdok_law_turns_refused C_NoTurn C_NoRow C_NoWord P_law_turns_refused _ l_law_turns_refused_0 l_law_turns_refused_1 l_law_turns_refused_2 l_law_turns_refused_3 l_law_turns_refused_4 h⟩
def mk_law_steps_refused {C_Book : Addr} {C_NoRow : Addr} {C_NoWord : Addr} {C_NoTurn : Addr} {P_law_steps_refused : Addr} {cc_law_steps_refused : Addr} {g_law_told : Addr} {fd_law_told : FuncData} {f : Addr} {fd : FuncData} (F : Fun K "_law_steps_refused" "_law_steps_refused" s_law_steps_refused f fd) (g : mg "_law_steps_refused" = some (.ref f)) (g_Book : mg "Book" = some (.ref C_Book)) (g_NoRow : mg "NoRow" = some (.ref C_NoRow)) (g_NoWord : mg "NoWord" = some (.ref C_NoWord)) (d_Book___init__ : MethAt P w K mg base 6 C_Book "__init__" ["self", "many", "hands"] (sp_Book___init__ C_Book)) (z_list : mg "list" = none) (d_law_whole : DefAt P w K mg base 1 "_law_whole" ["_law_thing_here", "_law_low", "_law_most"] sp_law_whole) (z_len : mg "len" = none) (z_range : mg "range" = none) (d_law_goes : DefAt P w K mg base 1 "_law_goes" ["_law_pairs_here", "_law_asked", "_law_sign"] sp_law_goes) (z_tuple : mg "tuple" = none) (F_law_told : Fun K "_law_told" "_law_told" s_law_told g_law_told fd_law_told) (gm_law_told : mg "_law_told" = some (.ref g_law_told)) (b_law_told : Binds K fd_law_told ["_law_work"] []) (G_law_told : ∀ (X : Cx) (cdv : Value), X.K = K → X.mg = mg → GivesD X 9 N_law_told "_law_told" (defScope s_law_told) g_law_told cdv (defBody s_law_told) "_law_work" (sp_law_told C_NoRow C_NoTurn C_NoWord)) (TB_law_steps_refused : TabB base mg cc_law_steps_refused P_law_steps_refused) (hcT_law_steps_refused : fd.code = .ref cc_law_steps_refused) (g_NoTurn : mg "NoTurn" = some (.ref C_NoTurn)) (cl_Book : Cls K C_Book) (d_Book_turn : MethAt P w K mg base 4 C_Book "turn" ["self", "step"] (sp_Book_turn C_Book C_NoWord)) (mb_Book_turn_0 : MkB K d_Book_turn.fd ["self", "step"] ["step"] [0]) (d_Book_onward : MethAt P w K mg base 4 C_Book "onward" ["self", "step", "letter"] (sp_Book_onward C_Book C_NoRow C_NoWord)) (mb_Book_onward_1_0 : MkB K d_Book_onward.fd ["self", "step", "letter"] ["letter", "step"] [1, 0]) (z_repr : mg "repr" = none) (mk_Book : Mk K C_Book d_Book___init__.f) : DefG P w K mg base 11 "_law_steps_refused" ["_law_many", "_law_pairs_here", "_law_asked", "_law_sign"] (sp_law_steps_refused C_Book C_NoRow C_NoWord P_law_steps_refused) where
  f := f
  fd := fd
  g := g
  kp := F.kp
  b := F.binds (ps := ["_law_many", "_law_pairs_here", "_law_asked", "_law_sign"]) fun _ _ _ _ _ _ us hl => match us, hl with | [_, _, _, _], _ => rfl
  ok := by
    have sc := sc_law_steps_refused
    refine fnDG_ofC F sc (fun h => sp4_len h) fun cdv A outer s H E B qe hc hr gd tk po => ?_
    refine ⟨rd_law_steps_refused C_Book C_NoRow C_NoWord C_NoTurn P_law_steps_refused (fun cls _ m => qe cls m), (dss_cons (ds_set (i := 4) sc.nd (de_make mk_Book d_Book___init__.ok d_Book___init__.b (hr.mono (by decide)) (by rfl) g_Book tk (da_cons (de_var 0) (da_cons (de_new (dl_callTy l_list (by rfl) z_list (by decide +kernel) (de_var 1))) da_nil))))
  (dss_cons (ds_set (i := 5) sc.nd (de_and (de_callD d_law_whole (hr.mono (by decide)) (by rfl) tk (da_cons (de_var 2) (da_cons (de_un d_neg (de_callB c_len (by rfl) z_len (by decide +kernel) (da_cons (de_var 1) da_nil))) (da_cons (de_callB c_len (by rfl) z_len (by decide +kernel) (da_cons (de_var 1) da_nil)) da_nil)))) (de_one (de_cmp (d_ne hr.units) (de_var 2) de_int (nomark _)))))
  (dss_cons (ds_set (i := 6) sc.nd (de_new (dl_lst (da_cons (de_tup (da_cons de_str (da_cons de_str da_nil))) (da_cons (de_tup (da_cons de_str (da_cons de_str da_nil))) da_nil)))))
  (dss_cons (ds_if (dt_truth (de_var 5)) (dss_cons (ds_setLc (i := 8) [("_law_one", 7)] rfl sc.nd rfl rfl (sw_true rfl rfl rfl (by decide +kernel)) (di_range1 (by rfl) z_range (de_var 0)) (blkOk_by (N := ["_law_many", "_law_pairs_here", "_law_asked", "_law_sign", "_law_book", "_law_there", "_law_due", "_law_one", "_law_made", "_law_found"]) (sc := defScope s_law_steps_refused) (by decide +kernel)) (fun _ _ _ _ _ => (dg_name (i := 7) sc.nd)) (fun _ _ _ _ _ => dts_nil) (fun _ _ _ _ _ => (de_callD d_law_goes (hr.mono (by decide)) (by rfl) takesN (da_cons (de_var 1) (da_cons (de_var 2) (da_cons (de_var 7) da_nil))))))
  (dss_cons (ds_set (i := 6) sc.nd (de_new (dl_lst (da_cons (de_tup (da_cons de_str (da_cons (de_newTy n_tuple (by rfl) z_tuple (by decide +kernel) (dl_comp [("_law_one", 7)] rfl sc.nd (di_seq (de_var 8)) (blkOk_by (N := ["_law_many", "_law_pairs_here", "_law_asked", "_law_sign", "_law_book", "_law_there", "_law_due", "_law_one", "_law_made", "_law_found"]) (sc := defScope s_law_steps_refused) (by decide +kernel)) (fun _ _ _ _ _ => (dg_name (i := 7) sc.nd)) (fun _ _ _ _ _ => dts_nil) (fun _ _ _ _ _ => (de_ix (de_var 7) de_int)))) da_nil))) (da_cons (de_tup (da_cons de_str (da_cons de_str da_nil))) da_nil)))))
  (dss_one (ds_if (dt_truth (de_callD d_law_whole (hr.mono (by decide)) (by rfl) tk (da_cons (de_var 3) (da_cons de_int (da_cons (de_op d_sub (de_var 0) de_int) da_nil))))) (dss_one (ds_setIx (de_tup (da_cons de_str (da_cons (de_ix (de_ix (de_var 8) (de_var 3)) de_int) da_nil))) (de_var 6) de_int)) dss_nil)))) dss_nil)
  (dss_cons (ds_set (i := 9) sc.nd (de_new (dl_lst (da_cons (de_lamF (k := 8) F_law_told gm_law_told sc_law_told b_law_told (fun cdv => G_law_told _ cdv rfl rfl) TB_law_steps_refused (hc.symm.trans hcT_law_steps_refused) hr gd (lamS_by (sc := defScope s_law_steps_refused) (by decide +kernel)) (fun _ _ _ _ _ _ _ _ we hr tk => (de_methK (ks := ["step"]) (ix := [0]) d_Book_turn mb_Book_turn_0 (by decide) cl_Book (hr.mono (by decide)) tk (de_var 4) (dk_cons (de_var 2) dk_nil)))) da_nil))))
  (dss_cons (ds_expr (de_bmL PySem.F.slot_list_append PySem.F.type_list_append m_append (de_var 9) (da_cons (de_lamF (k := 8) F_law_told gm_law_told sc_law_told b_law_told (fun cdv => G_law_told _ cdv rfl rfl) TB_law_steps_refused (hc.symm.trans hcT_law_steps_refused) hr gd (lamS_by (sc := defScope s_law_steps_refused) (by decide +kernel)) (fun _ _ _ _ _ _ _ _ we hr tk => (de_methK (ks := ["letter", "step"]) (ix := [1, 0]) d_Book_onward mb_Book_onward_1_0 (by decide) cl_Book (hr.mono (by decide)) tk (de_var 4) (dk_cons (de_var 3) (dk_cons (de_var 2) dk_nil))))) da_nil)))
  (dss_one (ds_ret (de_cmp (d_eq hr.units) (de_callB (c_reprX gd hr.units) (by rfl) z_repr (by decide +kernel) (da_cons (de_var 9) da_nil)) (de_callB (c_reprX gd hr.units) (by rfl) z_repr (by decide +kernel) (da_cons (de_var 6) da_nil)) (nomark _)))))))))), fun ds m q h => rdok_law_steps_refused C_Book C_NoRow C_NoWord C_NoTurn P_law_steps_refused h⟩
def mk_law_kept {C_InUse : Addr} {C_NoName : Addr} {C_NoText : Addr} {C_NoBook : Addr} {C_HandError : Addr} {f : Addr} {fd : FuncData} (F : Fun K "_law_kept" "_law_kept" s_law_kept f fd) (g : mg "_law_kept" = some (.ref f)) (g_InUse : mg "InUse" = some (.ref C_InUse)) (d_InUse___init__ : InitAt P w K mg base 1 C_InUse "name" "name") (g_NoName : mg "NoName" = some (.ref C_NoName)) (d_NoName___init__ : InitAt P w K mg base 1 C_NoName "name" "name") (g_NoText : mg "NoText" = some (.ref C_NoText)) (d_NoText___init__ : InitAt P w K mg base 1 C_NoText "at" "at") (xf_InUse : XfC K C_InUse) (na_InUse_name : NoAttr K C_InUse "name") (xf_NoName : XfC K C_NoName) (na_NoName_name : NoAttr K C_NoName "name") (xf_NoText : XfC K C_NoText) (na_NoText_at : NoAttr K C_NoText "at") (z_repr : mg "repr" = none) (z_enumerate : mg "enumerate" = none) (g_NoBook : mg "NoBook" = some (.ref C_NoBook)) (ec_NoText : ExcC K C_NoText) (kt_NoText_NoBook : PySem.W.kitOne K (.ref C_NoText) (.ref C_NoBook) = some false) (ec_NoName : ExcC K C_NoName) (kt_NoName_NoBook : PySem.W.kitOne K (.ref C_NoName) (.ref C_NoBook) = some false) (ec_InUse : ExcC K C_InUse) (kt_InUse_NoBook : PySem.W.kitOne K (.ref C_InUse) (.ref C_NoBook) = some false) (z_isinstance : mg "isinstance" = none) (kt_NoText_InUse : PySem.W.kitOne K (.ref C_NoText) (.ref C_InUse) = some false) (kt_NoName_InUse : PySem.W.kitOne K (.ref C_NoName) (.ref C_InUse) = some false) (kt_InUse_InUse : PySem.W.kitOne K (.ref C_InUse) (.ref C_InUse) = some true) (kt_NoText_NoName : PySem.W.kitOne K (.ref C_NoText) (.ref C_NoName) = some false) (kt_NoName_NoName : PySem.W.kitOne K (.ref C_NoName) (.ref C_NoName) = some true) (kt_InUse_NoName : PySem.W.kitOne K (.ref C_InUse) (.ref C_NoName) = some false) (kt_NoText_NoText : PySem.W.kitOne K (.ref C_NoText) (.ref C_NoText) = some true) (kt_NoName_NoText : PySem.W.kitOne K (.ref C_NoName) (.ref C_NoText) = some false) (kt_InUse_NoText : PySem.W.kitOne K (.ref C_InUse) (.ref C_NoText) = some false) (g_HandError : mg "HandError" = some (.ref C_HandError)) (kt_NoText_HandError : PySem.W.kitOne K (.ref C_NoText) (.ref C_HandError) = some true) (kt_NoName_HandError : PySem.W.kitOne K (.ref C_NoName) (.ref C_HandError) = some true) (kt_InUse_HandError : PySem.W.kitOne K (.ref C_InUse) (.ref C_HandError) = some true) (z_ValueError : mg "ValueError" = none) (kt_NoText_ValueError : PySem.W.kitOne K (.ref C_NoText) (.type "ValueError") = some true) (kt_NoName_ValueError : PySem.W.kitOne K (.ref C_NoName) (.type "ValueError") = some true) (kt_InUse_ValueError : PySem.W.kitOne K (.ref C_InUse) (.type "ValueError") = some true) : DefG P w K mg base 3 "_law_kept" ["_law_number", "_law_name"] sp_law_kept where
  f := f
  fd := fd
  g := g
  kp := F.kp
  b := F.binds (ps := ["_law_number", "_law_name"]) fun _ _ _ _ _ _ us hl => match us, hl with | [_, _], _ => rfl
  ok := by
    have sc := sc_law_kept
    refine fnDG_of F sc (fun h => sp2_len h) fun cdv A outer s H E B qe hr gd tk po => ?_
    refine ⟨rd_law_kept C_InUse C_NoName C_NoText C_NoBook C_HandError (fun cls _ m => qe cls m), (dss_cons (ds_set (i := 2) sc.nd (de_new (dl_lst (da_cons (de_newO d_NoText___init__ (hr.mono (by decide)) (by rfl) g_NoText (da_cons (de_var 0) da_nil)) (da_cons (de_newO d_NoName___init__ (hr.mono (by decide)) (by rfl) g_NoName (da_cons (de_var 1) da_nil)) (da_cons (de_newO d_InUse___init__ (hr.mono (by decide)) (by rfl) g_InUse (da_cons (de_var 1) da_nil)) da_nil))))))
  (dss_cons (ds_if (dt_cmp (d_ne hr.units) (de_newB (n_repr gd hr.units) (by rfl) z_repr (by decide +kernel) (dl_lst (da_cons (de_xfO xf_NoText na_NoText_at (de_ix (de_var 2) de_int)) (da_cons (de_xfO xf_NoName na_NoName_name (de_ix (de_var 2) de_int)) (da_cons (de_xfO xf_InUse na_InUse_name (de_ix (de_var 2) de_int)) da_nil))))) (de_newB (n_repr gd hr.units) (by rfl) z_repr (by decide +kernel) (dl_lst (da_cons (de_var 0) (da_cons (de_var 1) (da_cons (de_var 1) da_nil))))) (nomark _)) (dss_one (ds_ret de_bl)) dss_nil)
  (dss_cons (ds_for (vs := [3, 4]) po rfl (di_enum (by rfl) z_enumerate (de_var 2)) (dg_tup rfl (dgs_cons (dg_name (i := 3) sc.nd) (dgs_cons (dg_name (i := 4) sc.nd) dgs_nil))) (dss_cons (ds_set (i := 5) sc.nd (de_new (dl_lst (da_cons (de_callB (c_isiW (.own ec_NoText kt_NoText_NoText (.own ec_NoName kt_NoName_NoText (.own ec_InUse kt_InUse_NoText CtOk.nil)))) (by rfl) z_isinstance (by decide +kernel) (da_cons (de_var 4) (da_cons (de_gref (by rfl) g_NoText) da_nil))) (da_cons (de_callB (c_isiW (.own ec_NoText kt_NoText_NoName (.own ec_NoName kt_NoName_NoName (.own ec_InUse kt_InUse_NoName CtOk.nil)))) (by rfl) z_isinstance (by decide +kernel) (da_cons (de_var 4) (da_cons (de_gref (by rfl) g_NoName) da_nil))) (da_cons (de_callB (c_isiW (.own ec_NoText kt_NoText_InUse (.own ec_NoName kt_NoName_InUse (.own ec_InUse kt_InUse_InUse CtOk.nil)))) (by rfl) z_isinstance (by decide +kernel) (da_cons (de_var 4) (da_cons (de_gref (by rfl) g_InUse) da_nil))) (da_cons (de_callB (c_isiW (.own ec_NoText kt_NoText_NoBook (.own ec_NoName kt_NoName_NoBook (.own ec_InUse kt_InUse_NoBook CtOk.nil)))) (by rfl) z_isinstance (by decide +kernel) (da_cons (de_var 4) (da_cons (de_gref (by rfl) g_NoBook) da_nil))) da_nil)))))))
  (dss_cons (ds_if (dt_cmp (d_ne hr.units) (de_var 5) (de_new (dl_lst (da_cons (de_cmp (d_eq hr.units) (de_var 3) de_int (nomark _)) (da_cons (de_cmp (d_eq hr.units) (de_var 3) de_int (nomark _)) (da_cons (de_cmp (d_eq hr.units) (de_var 3) de_int (nomark _)) (da_cons de_bl da_nil)))))) (nomark _)) (dss_one (ds_ret de_bl)) dss_nil)
  (dss_one (ds_if (dt_w (dw_or (dt_not (dt_truth (de_callB (c_isiW (.own ec_NoText kt_NoText_HandError (.own ec_NoName kt_NoName_HandError (.own ec_InUse kt_InUse_HandError CtOk.nil)))) (by rfl) z_isinstance (by decide +kernel) (da_cons (de_var 4) (da_cons (de_gref (by rfl) g_HandError) da_nil))))) (dw_or1 (dt_not (dt_truth (de_callB (c_isiW (.own ec_NoText kt_NoText_ValueError (.own ec_NoName kt_NoName_ValueError (.own ec_InUse kt_InUse_ValueError CtOk.nil)))) (by rfl) z_isinstance (by decide +kernel) (da_cons (de_var 4) (da_cons (de_ty (by rfl) z_ValueError (by decide +kernel)) da_nil)))))))) (dss_one (ds_ret de_bl)) dss_nil)))))
  (dss_one (ds_ret de_bl))))), fun ds m q h => rdok_law_kept C_InUse C_NoName C_NoText C_NoBook C_HandError h⟩
def mk_law {C_Book : Addr} {C_NoTurn : Addr} {C_NoRow : Addr} {C_NoWord : Addr} {P_law_steps_refused : Addr} {P_law_turns_refused : Addr} {cc_law_turns_refused : Addr} {cc_law_steps_refused : Addr} {f : Addr} {fd : FuncData} (F : Fun K "law" "law" s_law f fd) (g : mg "law" = some (.ref f)) (g_Book : mg "Book" = some (.ref C_Book)) (z_len : mg "len" = none) (z_max : mg "max" = none) (z_range : mg "range" = none) (d_law_state : DefAt P w K mg base 1 "_law_state" ["_law_script", "_law_k"] sp_law_state) (d_law_odd : DefAt P w K mg base 2 "_law_odd" ["_law_state_here"] sp_law_odd) (d_law_next : DefAt P w K mg base 1 "_law_next" ["_law_state_here", "_law_many"] sp_law_next) (d_law_thing : DefAt P w K mg base 3 "_law_thing" ["_law_state_here"] sp_law_thing) (d_law_turn : DefAt P w K mg base 2 "_law_turn" ["_law_state_here", "_law_many"] sp_law_turn) (d_law_turns_refused : DefG P w K mg base 9 "_law_turns_refused" ["_law_thing_here", "_law_good"] (sp_law_turns_refused C_NoTurn P_law_turns_refused)) (g_NoTurn : mg "NoTurn" = some (.ref C_NoTurn)) (d_law_kept : DefG P w K mg base 3 "_law_kept" ["_law_number", "_law_name"] sp_law_kept) (d_law_pairs : DefAt P w K mg base 3 "_law_pairs" ["_law_state_here"] sp_law_pairs) (d_law_steps_refused : DefG P w K mg base 11 "_law_steps_refused" ["_law_many", "_law_pairs_here", "_law_asked", "_law_sign"] (sp_law_steps_refused C_Book C_NoRow C_NoWord P_law_steps_refused)) (g_NoRow : mg "NoRow" = some (.ref C_NoRow)) (g_NoWord : mg "NoWord" = some (.ref C_NoWord)) : DefG P w K mg base 12 "law" ["_law_script"] (spLawT 63 [(cc_law_turns_refused, P_law_turns_refused, lamQ "_law_turns_refused"), (cc_law_steps_refused, P_law_steps_refused, lamQ "_law_steps_refused")]) where
  f := f
  fd := fd
  g := g
  kp := F.kp
  b := F.binds (ps := ["_law_script"]) fun _ _ _ _ _ _ us hl => match us, hl with | [_], _ => rfl
  ok := by
    have sc := sc_law
    refine fnDG_of F sc (fun h => sp1_len h) fun cdv A outer s H E B qe hr gd tk po => ?_
    refine ⟨rd_law C_Book C_NoTurn C_NoRow C_NoWord P_law_steps_refused P_law_turns_refused (fun cls _ m => qe cls m), (dss_cons (ds_for (vs := [1]) po rfl (di_range1 (by rfl) z_range (de_callB (c_max2 rfl) (by rfl) z_max (by decide +kernel) (da_cons de_int (da_cons (de_callB c_len (by rfl) z_len (by decide +kernel) (da_cons (de_var 0) da_nil)) da_nil)))) (dg_name (i := 1) sc.nd) (dss_cons (ds_set (i := 2) sc.nd (de_callD d_law_state (hr.mono (by decide)) (by rfl) tk (da_cons (de_var 0) (da_cons (de_var 1) da_nil))))
  (dss_cons (ds_set (i := 3) sc.nd (de_ix (de_new (dl_lst (da_cons (de_op d_sub (de_callD d_law_next (hr.mono (by decide)) (by rfl) tk (da_cons (de_var 2) (da_cons de_int da_nil))) de_int) (da_cons (de_callD d_law_odd (hr.mono (by decide)) (by rfl) tk (da_cons (de_var 2) da_nil)) da_nil)))) (de_op d_fdiv (de_callD d_law_next (hr.mono (by decide)) (by rfl) tk (da_cons (de_var 2) (da_cons de_int da_nil))) de_int)))
  (dss_cons (ds_set (i := 4) sc.nd (de_ix (de_new (dl_lst (da_cons (de_op d_sub (de_callD d_law_next (hr.mono (by decide)) (by rfl) tk (da_cons (de_var 2) (da_cons de_int da_nil))) de_int) (da_cons (de_callD d_law_odd (hr.mono (by decide)) (by rfl) tk (da_cons (de_var 2) da_nil)) da_nil)))) (de_op d_fdiv (de_callD d_law_next (hr.mono (by decide)) (by rfl) tk (da_cons (de_var 2) (da_cons de_int da_nil))) de_int)))
  (dss_cons (ds_set (i := 5) sc.nd (de_callD d_law_thing (hr.mono (by decide)) (by rfl) tk (da_cons (de_var 2) da_nil)))
  (dss_cons (ds_set (i := 6) sc.nd (de_callD d_law_turn (hr.mono (by decide)) (by rfl) tk (da_cons (de_var 2) (da_cons (de_op d_add de_int (de_callD d_law_next (hr.mono (by decide)) (by rfl) tk (da_cons (de_var 2) (da_cons de_int da_nil)))) da_nil))))
  (dss_cons (ds_if (dt_not (dt_truth (de_callG d_law_turns_refused gd (hr.mono (by decide)) (by rfl) tk (da_cons (de_var 5) (da_cons (de_var 6) da_nil))))) (dss_one (ds_ret de_bl)) dss_nil)
  (dss_cons (ds_set (i := 7) sc.nd (de_callD d_law_next (hr.mono (by decide)) (by rfl) tk (da_cons (de_var 2) (da_cons de_int da_nil))))
  (dss_cons (ds_if (dt_not (dt_truth (de_callG d_law_kept gd (hr.mono (by decide)) (by rfl) tk (da_cons (de_var 7) (da_cons (de_sliceX de_str do_none (do_some (de_callD d_law_next (hr.mono (by decide)) (by rfl) tk (da_cons (de_var 2) (da_cons de_int da_nil))))) da_nil))))) (dss_one (ds_ret de_bl)) dss_nil)
  (dss_cons (ds_asg (vs := [8, 9]) (de_callD d_law_pairs (hr.mono (by decide)) (by rfl) tk (da_cons (de_var 2) da_nil)) (dg_tup rfl (dgs_cons (dg_name (i := 8) sc.nd) (dgs_cons (dg_name (i := 9) sc.nd) dgs_nil))))
  (dss_one (ds_if (dt_not (dt_truth (de_callG d_law_steps_refused gd (hr.mono (by decide)) (by rfl) tk (da_cons (de_var 8) (da_cons (de_var 9) (da_cons (de_var 3) (da_cons (de_var 4) da_nil))))))) (dss_one (ds_ret de_bl)) dss_nil))))))))))))
  (dss_one (ds_ret de_bl))), fun ds m q h => rdok_law C_Book C_NoTurn C_NoRow C_NoWord P_law_steps_refused P_law_turns_refused h⟩
end
theorem all_mk {l : PySem.W.OpenLaw} {w : World} {K : PySem.W.Frag} {h : Heap} {mg : Str → Option Value} {fa : Addr} (X : K.In h) (G : h.Ns mainGlobals mg) (hfa : mg "law" = some (.ref fa))
    {C_NoName : Addr}
    {C_InUse : Addr}
    {C_NoText : Addr}
    {C_NoTurn : Addr}
    {C_Book : Addr}
    {C_NoWord : Addr}
    {C_NoRow : Addr}
    {C_HandError : Addr}
    {C_NoDeed : Addr}
    {C_TooMany : Addr}
    {C_NoNumber : Addr}
    {C_NoMachine : Addr}
    {C_NoBook : Addr}
    {f0 : Addr} {od0 an0 : Option Addr} {sl0 : Array (Option Value)} {oc0 kV0 dc0 pm0 cd0 ct0 : Value}
    {f1 : Addr} {od1 an1 : Option Addr} {sl1 : Array (Option Value)} {oc1 kV1 dc1 pm1 cd1 ct1 : Value}
    {f2 : Addr} {od2 an2 : Option Addr} {sl2 : Array (Option Value)} {oc2 kV2 dc2 pm2 cd2 ct2 : Value}
    {f3 : Addr} {od3 an3 : Option Addr} {sl3 : Array (Option Value)} {oc3 kV3 dc3 pm3 cd3 ct3 : Value}
    {f4 : Addr} {od4 an4 : Option Addr} {sl4 : Array (Option Value)} {oc4 kV4 dc4 pm4 cd4 ct4 : Value}
    {f5 : Addr} {od5 an5 : Option Addr} {sl5 : Array (Option Value)} {oc5 kV5 dc5 pm5 cd5 ct5 : Value}
    {f6 : Addr} {od6 an6 : Option Addr} {sl6 : Array (Option Value)} {oc6 kV6 dc6 pm6 cd6 ct6 : Value}
    {f7 : Addr} {od7 an7 : Option Addr} {sl7 : Array (Option Value)} {oc7 kV7 dc7 pm7 cd7 ct7 : Value}
    {f8 : Addr} {od8 an8 : Option Addr} {sl8 : Array (Option Value)} {oc8 kV8 dc8 pm8 cd8 ct8 : Value}
    {f9 : Addr} {od9 an9 : Option Addr} {sl9 : Array (Option Value)} {oc9 kV9 dc9 pm9 cd9 ct9 : Value}
    {f10 : Addr} {od10 an10 : Option Addr} {sl10 : Array (Option Value)} {oc10 kV10 dc10 pm10 cd10 ct10 : Value}
    {f11 : Addr} {od11 an11 : Option Addr} {sl11 : Array (Option Value)} {oc11 kV11 dc11 pm11 cd11 ct11 : Value}
    {f12 : Addr} {od12 an12 : Option Addr} {sl12 : Array (Option Value)} {oc12 kV12 dc12 pm12 cd12 ct12 : Value}
    {f13 : Addr} {od13 an13 : Option Addr} {sl13 : Array (Option Value)} {oc13 kV13 dc13 pm13 cd13 ct13 : Value}
    {f14 : Addr} {od14 an14 : Option Addr} {sl14 : Array (Option Value)} {oc14 kV14 dc14 pm14 cd14 ct14 : Value}
    {f15 : Addr} {od15 an15 : Option Addr} {sl15 : Array (Option Value)} {oc15 kV15 dc15 pm15 cd15 ct15 : Value}
    {f16 : Addr} {od16 an16 : Option Addr} {sl16 : Array (Option Value)} {oc16 kV16 dc16 pm16 cd16 ct16 : Value}
    {f17 : Addr} {od17 an17 : Option Addr} {sl17 : Array (Option Value)} {oc17 kV17 dc17 pm17 cd17 ct17 : Value}
    {f18 : Addr} {od18 an18 : Option Addr} {sl18 : Array (Option Value)} {oc18 kV18 dc18 pm18 cd18 ct18 : Value}
    {f19 : Addr} {od19 an19 : Option Addr} {sl19 : Array (Option Value)} {oc19 kV19 dc19 pm19 cd19 ct19 : Value}
    {f20 : Addr} {od20 an20 : Option Addr} {sl20 : Array (Option Value)} {oc20 kV20 dc20 pm20 cd20 ct20 : Value}
    {f21 : Addr} {od21 an21 : Option Addr} {sl21 : Array (Option Value)} {oc21 kV21 dc21 pm21 cd21 ct21 : Value}
    {f22 : Addr} {od22 an22 : Option Addr} {sl22 : Array (Option Value)} {oc22 kV22 dc22 pm22 cd22 ct22 : Value}
    {f23 : Addr} {od23 an23 : Option Addr} {sl23 : Array (Option Value)} {oc23 kV23 dc23 pm23 cd23 ct23 : Value}
    {f24 : Addr} {od24 an24 : Option Addr} {sl24 : Array (Option Value)} {oc24 kV24 dc24 pm24 cd24 ct24 : Value}
    {f25 : Addr} {od25 an25 : Option Addr} {sl25 : Array (Option Value)} {oc25 kV25 dc25 pm25 cd25 ct25 : Value}
    {f26 : Addr} {od26 an26 : Option Addr} {sl26 : Array (Option Value)} {oc26 kV26 dc26 pm26 cd26 ct26 : Value}
    {f27 : Addr} {od27 an27 : Option Addr} {sl27 : Array (Option Value)} {oc27 kV27 dc27 pm27 cd27 ct27 : Value}
    {f28 : Addr} {od28 an28 : Option Addr} {sl28 : Array (Option Value)} {oc28 kV28 dc28 pm28 cd28 ct28 : Value}
    {f29 : Addr} {od29 an29 : Option Addr} {sl29 : Array (Option Value)} {oc29 kV29 dc29 pm29 cd29 ct29 : Value}
    {f30 : Addr} {od30 an30 : Option Addr} {sl30 : Array (Option Value)} {oc30 kV30 dc30 pm30 cd30 ct30 : Value}
    {f31 : Addr} {od31 an31 : Option Addr} {sl31 : Array (Option Value)} {oc31 kV31 dc31 pm31 cd31 ct31 : Value}
    {cc_law_turns_refused P_law_turns_refused : Addr} {ev28 : Value} {dv28 : Option Addr} {vv28 : Array Value} {sv28 : Array (Option Value)}
    {cc_law_steps_refused P_law_steps_refused : Addr} {ev29 : Value} {dv29 : Option Addr} {vv29 : Array Value} {sv29 : Array (Option Value)}
    {t_LEAST_MANY : Tok}
    {t_MOST_MANY : Tok}
    {t_MOST_HANDS : Tok}
    {onm_NoName oq_NoName : Str} {oN_NoName : Addr} {obs_NoName obm_NoName osub_NoName : List Value} {osn_NoName : List Str} {oab_NoName : Bool} {ocol_NoName : Option Bool} {odd_NoName : Option Addr} {ok0_NoName ok1_NoName ok2_NoName ok3_NoName ok5_NoName : Option Value}
    {onm_InUse oq_InUse : Str} {oN_InUse : Addr} {obs_InUse obm_InUse osub_InUse : List Value} {osn_InUse : List Str} {oab_InUse : Bool} {ocol_InUse : Option Bool} {odd_InUse : Option Addr} {ok0_InUse ok1_InUse ok2_InUse ok3_InUse ok5_InUse : Option Value}
    {onm_NoText oq_NoText : Str} {oN_NoText : Addr} {obs_NoText obm_NoText osub_NoText : List Value} {osn_NoText : List Str} {oab_NoText : Bool} {ocol_NoText : Option Bool} {odd_NoText : Option Addr} {ok0_NoText ok1_NoText ok2_NoText ok3_NoText ok5_NoText : Option Value}
    (g_NoName : PySem.W.nsIn K mainGlobals "NoName" = some (some (.ref C_NoName)))
    (g_InUse : PySem.W.nsIn K mainGlobals "InUse" = some (some (.ref C_InUse)))
    (g_NoText : PySem.W.nsIn K mainGlobals "NoText" = some (some (.ref C_NoText)))
    (g_NoTurn : PySem.W.nsIn K mainGlobals "NoTurn" = some (some (.ref C_NoTurn)))
    (g_Book : PySem.W.nsIn K mainGlobals "Book" = some (some (.ref C_Book)))
    (g_NoWord : PySem.W.nsIn K mainGlobals "NoWord" = some (some (.ref C_NoWord)))
    (g_NoRow : PySem.W.nsIn K mainGlobals "NoRow" = some (some (.ref C_NoRow)))
    (g_HandError : PySem.W.nsIn K mainGlobals "HandError" = some (some (.ref C_HandError)))
    (g_NoDeed : PySem.W.nsIn K mainGlobals "NoDeed" = some (some (.ref C_NoDeed)))
    (g_TooMany : PySem.W.nsIn K mainGlobals "TooMany" = some (some (.ref C_TooMany)))
    (g_NoNumber : PySem.W.nsIn K mainGlobals "NoNumber" = some (some (.ref C_NoNumber)))
    (g_NoMachine : PySem.W.nsIn K mainGlobals "NoMachine" = some (some (.ref C_NoMachine)))
    (g_NoBook : PySem.W.nsIn K mainGlobals "NoBook" = some (some (.ref C_NoBook)))
    (cl1_Book : PySem.W.plainGet K C_Book Str.empty = true) (cl2_Book : PySem.W.hasDictIn K C_Book = true) (cl3_Book : PySem.W.plainOver K C_Book = true) (cl4_Book : PySem.W.findIn K (.ref C_Book) "__setattr__" = some (some (.builtin "object.__setattr__")))
    (na_NoName_name : PySem.W.findIn K (.ref C_NoName) "name" = some none)
    (na_InUse_name : PySem.W.findIn K (.ref C_InUse) "name" = some none)
    (na_NoText_at : PySem.W.findIn K (.ref C_NoText) "at" = some none)
    (na_Book_many : PySem.W.findIn K (.ref C_Book) "many" = some none)
    (na_Book_pairs : PySem.W.findIn K (.ref C_Book) "pairs" = some none)
    (mk1_Book : PySem.W.makesIn K C_Book = true) (mk2_Book : PySem.W.keepIn K (.ref C_Book) = true)
    (a0 : PySem.W.findIn K (.ref C_NoName) "__init__" = some (some (.ref f0))) (l0 : K.lookup f0 = some ⟨oc0, od0, .func (PySem.W.fnOf "__init__" "NoName.__init__" (defArgs s_NoName___init__) (defBody s_NoName___init__) (defScope s_NoName___init__) .none kV0 dc0 pm0 an0 cd0 ct0), sl0⟩) (c0 : PySem.W.codeIn K cd0 "NoName.__init__" = true) (k0 : PySem.W.keepIn K (.ref f0) = true) (i0 : PySem.W.isFn K (.ref f0) = true)
    (a1 : PySem.W.findIn K (.ref C_InUse) "__init__" = some (some (.ref f1))) (l1 : K.lookup f1 = some ⟨oc1, od1, .func (PySem.W.fnOf "__init__" "InUse.__init__" (defArgs s_InUse___init__) (defBody s_InUse___init__) (defScope s_InUse___init__) .none kV1 dc1 pm1 an1 cd1 ct1), sl1⟩) (c1 : PySem.W.codeIn K cd1 "InUse.__init__" = true) (k1 : PySem.W.keepIn K (.ref f1) = true) (i1 : PySem.W.isFn K (.ref f1) = true)
    (a2 : PySem.W.findIn K (.ref C_NoText) "__init__" = some (some (.ref f2))) (l2 : K.lookup f2 = some ⟨oc2, od2, .func (PySem.W.fnOf "__init__" "NoText.__init__" (defArgs s_NoText___init__) (defBody s_NoText___init__) (defScope s_NoText___init__) .none kV2 dc2 pm2 an2 cd2 ct2), sl2⟩) (c2 : PySem.W.codeIn K cd2 "NoText.__init__" = true) (k2 : PySem.W.keepIn K (.ref f2) = true) (i2 : PySem.W.isFn K (.ref f2) = true)
    (a3 : PySem.W.nsIn K mainGlobals "is_whole" = some (some (.ref f3))) (l3 : K.lookup f3 = some ⟨oc3, od3, .func (PySem.W.fnOf "is_whole" "is_whole" (defArgs s_is_whole) (defBody s_is_whole) (defScope s_is_whole) .none kV3 dc3 pm3 an3 cd3 ct3), sl3⟩) (c3 : PySem.W.codeIn K cd3 "is_whole" = true) (k3 : PySem.W.keepIn K (.ref f3) = true)
    (a4 : PySem.W.nsIn K mainGlobals "is_between" = some (some (.ref f4))) (l4 : K.lookup f4 = some ⟨oc4, od4, .func (PySem.W.fnOf "is_between" "is_between" (defArgs s_is_between) (defBody s_is_between) (defScope s_is_between) .none kV4 dc4 pm4 an4 cd4 ct4), sl4⟩) (c4 : PySem.W.codeIn K cd4 "is_between" = true) (k4 : PySem.W.keepIn K (.ref f4) = true)
    (a5 : PySem.W.nsIn K mainGlobals "is_turn" = some (some (.ref f5))) (l5 : K.lookup f5 = some ⟨oc5, od5, .func (PySem.W.fnOf "is_turn" "is_turn" (defArgs s_is_turn) (defBody s_is_turn) (defScope s_is_turn) .none kV5 dc5 pm5 an5 cd5 ct5), sl5⟩) (c5 : PySem.W.codeIn K cd5 "is_turn" = true) (k5 : PySem.W.keepIn K (.ref f5) = true)
    (a6 : PySem.W.nsIn K mainGlobals "need_turn" = some (some (.ref f6))) (l6 : K.lookup f6 = some ⟨oc6, od6, .func (PySem.W.fnOf "need_turn" "need_turn" (defArgs s_need_turn) (defBody s_need_turn) (defScope s_need_turn) .none kV6 dc6 pm6 an6 cd6 ct6), sl6⟩) (c6 : PySem.W.codeIn K cd6 "need_turn" = true) (k6 : PySem.W.keepIn K (.ref f6) = true)
    (a7 : PySem.W.nsIn K mainGlobals "undone" = some (some (.ref f7))) (l7 : K.lookup f7 = some ⟨oc7, od7, .func (PySem.W.fnOf "undone" "undone" (defArgs s_undone) (defBody s_undone) (defScope s_undone) .none kV7 dc7 pm7 an7 cd7 ct7), sl7⟩) (c7 : PySem.W.codeIn K cd7 "undone" = true) (k7 : PySem.W.keepIn K (.ref f7) = true)
    (a8 : PySem.W.nsIn K mainGlobals "turn_back" = some (some (.ref f8))) (l8 : K.lookup f8 = some ⟨oc8, od8, .func (PySem.W.fnOf "turn_back" "turn_back" (defArgs s_turn_back) (defBody s_turn_back) (defScope s_turn_back) .none kV8 dc8 pm8 an8 cd8 ct8), sl8⟩) (c8 : PySem.W.codeIn K cd8 "turn_back" = true) (k8 : PySem.W.keepIn K (.ref f8) = true)
    (a9 : PySem.W.nsIn K mainGlobals "turn_after" = some (some (.ref f9))) (l9 : K.lookup f9 = some ⟨oc9, od9, .func (PySem.W.fnOf "turn_after" "turn_after" (defArgs s_turn_after) (defBody s_turn_after) (defScope s_turn_after) .none kV9 dc9 pm9 an9 cd9 ct9), sl9⟩) (c9 : PySem.W.codeIn K cd9 "turn_after" = true) (k9 : PySem.W.keepIn K (.ref f9) = true)
    (a10 : PySem.W.nsIn K mainGlobals "turn_rings" = some (some (.ref f10))) (l10 : K.lookup f10 = some ⟨oc10, od10, .func (PySem.W.fnOf "turn_rings" "turn_rings" (defArgs s_turn_rings) (defBody s_turn_rings) (defScope s_turn_rings) .none kV10 dc10 pm10 an10 cd10 ct10), sl10⟩) (c10 : PySem.W.codeIn K cd10 "turn_rings" = true) (k10 : PySem.W.keepIn K (.ref f10) = true)
    (a11 : PySem.W.nsIn K mainGlobals "is_hand" = some (some (.ref f11))) (l11 : K.lookup f11 = some ⟨oc11, od11, .func (PySem.W.fnOf "is_hand" "is_hand" (defArgs s_is_hand) (defBody s_is_hand) (defScope s_is_hand) .none kV11 dc11 pm11 an11 cd11 ct11), sl11⟩) (c11 : PySem.W.codeIn K cd11 "is_hand" = true) (k11 : PySem.W.keepIn K (.ref f11) = true)
    (a12 : PySem.W.nsIn K mainGlobals "are_hands" = some (some (.ref f12))) (l12 : K.lookup f12 = some ⟨oc12, od12, .func (PySem.W.fnOf "are_hands" "are_hands" (defArgs s_are_hands) (defBody s_are_hands) (defScope s_are_hands) .none kV12 dc12 pm12 an12 cd12 ct12), sl12⟩) (c12 : PySem.W.codeIn K cd12 "are_hands" = true) (k12 : PySem.W.keepIn K (.ref f12) = true)
    (a13 : PySem.W.findIn K (.ref C_Book) "__init__" = some (some (.ref f13))) (l13 : K.lookup f13 = some ⟨oc13, od13, .func (PySem.W.fnOf "__init__" "Book.__init__" (defArgs s_Book___init__) (defBody s_Book___init__) (defScope s_Book___init__) .none kV13 dc13 pm13 an13 cd13 ct13), sl13⟩) (c13 : PySem.W.codeIn K cd13 "Book.__init__" = true) (k13 : PySem.W.keepIn K (.ref f13) = true) (i13 : PySem.W.isFn K (.ref f13) = true)
    (a14 : PySem.W.findIn K (.ref C_Book) "has_step" = some (some (.ref f14))) (l14 : K.lookup f14 = some ⟨oc14, od14, .func (PySem.W.fnOf "has_step" "Book.has_step" (defArgs s_Book_has_step) (defBody s_Book_has_step) (defScope s_Book_has_step) .none kV14 dc14 pm14 an14 cd14 ct14), sl14⟩) (c14 : PySem.W.codeIn K cd14 "Book.has_step" = true) (k14 : PySem.W.keepIn K (.ref f14) = true) (i14 : PySem.W.isFn K (.ref f14) = true)
    (a15 : PySem.W.findIn K (.ref C_Book) "has_letter" = some (some (.ref f15))) (l15 : K.lookup f15 = some ⟨oc15, od15, .func (PySem.W.fnOf "has_letter" "Book.has_letter" (defArgs s_Book_has_letter) (defBody s_Book_has_letter) (defScope s_Book_has_letter) .none kV15 dc15 pm15 an15 cd15 ct15), sl15⟩) (c15 : PySem.W.codeIn K cd15 "Book.has_letter" = true) (k15 : PySem.W.keepIn K (.ref f15) = true) (i15 : PySem.W.isFn K (.ref f15) = true)
    (a16 : PySem.W.findIn K (.ref C_Book) "turn" = some (some (.ref f16))) (l16 : K.lookup f16 = some ⟨oc16, od16, .func (PySem.W.fnOf "turn" "Book.turn" (defArgs s_Book_turn) (defBody s_Book_turn) (defScope s_Book_turn) .none kV16 dc16 pm16 an16 cd16 ct16), sl16⟩) (c16 : PySem.W.codeIn K cd16 "Book.turn" = true) (k16 : PySem.W.keepIn K (.ref f16) = true) (i16 : PySem.W.isFn K (.ref f16) = true)
    (a17 : PySem.W.findIn K (.ref C_Book) "onward" = some (some (.ref f17))) (l17 : K.lookup f17 = some ⟨oc17, od17, .func (PySem.W.fnOf "onward" "Book.onward" (defArgs s_Book_onward) (defBody s_Book_onward) (defScope s_Book_onward) .none kV17 dc17 pm17 an17 cd17 ct17), sl17⟩) (c17 : PySem.W.codeIn K cd17 "Book.onward" = true) (k17 : PySem.W.keepIn K (.ref f17) = true) (i17 : PySem.W.isFn K (.ref f17) = true)
    (a18 : PySem.W.nsIn K mainGlobals "_law_state" = some (some (.ref f18))) (l18 : K.lookup f18 = some ⟨oc18, od18, .func (PySem.W.fnOf "_law_state" "_law_state" (defArgs s_law_state) (defBody s_law_state) (defScope s_law_state) .none kV18 dc18 pm18 an18 cd18 ct18), sl18⟩) (c18 : PySem.W.codeIn K cd18 "_law_state" = true) (k18 : PySem.W.keepIn K (.ref f18) = true)
    (a19 : PySem.W.nsIn K mainGlobals "_law_next" = some (some (.ref f19))) (l19 : K.lookup f19 = some ⟨oc19, od19, .func (PySem.W.fnOf "_law_next" "_law_next" (defArgs s_law_next) (defBody s_law_next) (defScope s_law_next) .none kV19 dc19 pm19 an19 cd19 ct19), sl19⟩) (c19 : PySem.W.codeIn K cd19 "_law_next" = true) (k19 : PySem.W.keepIn K (.ref f19) = true)
    (a20 : PySem.W.nsIn K mainGlobals "_law_turn" = some (some (.ref f20))) (l20 : K.lookup f20 = some ⟨oc20, od20, .func (PySem.W.fnOf "_law_turn" "_law_turn" (defArgs s_law_turn) (defBody s_law_turn) (defScope s_law_turn) .none kV20 dc20 pm20 an20 cd20 ct20), sl20⟩) (c20 : PySem.W.codeIn K cd20 "_law_turn" = true) (k20 : PySem.W.keepIn K (.ref f20) = true)
    (a21 : PySem.W.nsIn K mainGlobals "_law_pairs" = some (some (.ref f21))) (l21 : K.lookup f21 = some ⟨oc21, od21, .func (PySem.W.fnOf "_law_pairs" "_law_pairs" (defArgs s_law_pairs) (defBody s_law_pairs) (defScope s_law_pairs) .none kV21 dc21 pm21 an21 cd21 ct21), sl21⟩) (c21 : PySem.W.codeIn K cd21 "_law_pairs" = true) (k21 : PySem.W.keepIn K (.ref f21) = true)
    (a22 : PySem.W.nsIn K mainGlobals "_law_goes" = some (some (.ref f22))) (l22 : K.lookup f22 = some ⟨oc22, od22, .func (PySem.W.fnOf "_law_goes" "_law_goes" (defArgs s_law_goes) (defBody s_law_goes) (defScope s_law_goes) .none kV22 dc22 pm22 an22 cd22 ct22), sl22⟩) (c22 : PySem.W.codeIn K cd22 "_law_goes" = true) (k22 : PySem.W.keepIn K (.ref f22) = true)
    (a23 : PySem.W.nsIn K mainGlobals "_law_odd" = some (some (.ref f23))) (l23 : K.lookup f23 = some ⟨oc23, od23, .func (PySem.W.fnOf "_law_odd" "_law_odd" (defArgs s_law_odd) (defBody s_law_odd) (defScope s_law_odd) .none kV23 dc23 pm23 an23 cd23 ct23), sl23⟩) (c23 : PySem.W.codeIn K cd23 "_law_odd" = true) (k23 : PySem.W.keepIn K (.ref f23) = true)
    (a24 : PySem.W.nsIn K mainGlobals "_law_thing" = some (some (.ref f24))) (l24 : K.lookup f24 = some ⟨oc24, od24, .func (PySem.W.fnOf "_law_thing" "_law_thing" (defArgs s_law_thing) (defBody s_law_thing) (defScope s_law_thing) .none kV24 dc24 pm24 an24 cd24 ct24), sl24⟩) (c24 : PySem.W.codeIn K cd24 "_law_thing" = true) (k24 : PySem.W.keepIn K (.ref f24) = true)
    (a25 : PySem.W.nsIn K mainGlobals "_law_is_turn" = some (some (.ref f25))) (l25 : K.lookup f25 = some ⟨oc25, od25, .func (PySem.W.fnOf "_law_is_turn" "_law_is_turn" (defArgs s_law_is_turn) (defBody s_law_is_turn) (defScope s_law_is_turn) .none kV25 dc25 pm25 an25 cd25 ct25), sl25⟩) (c25 : PySem.W.codeIn K cd25 "_law_is_turn" = true) (k25 : PySem.W.keepIn K (.ref f25) = true)
    (a26 : PySem.W.nsIn K mainGlobals "_law_whole" = some (some (.ref f26))) (l26 : K.lookup f26 = some ⟨oc26, od26, .func (PySem.W.fnOf "_law_whole" "_law_whole" (defArgs s_law_whole) (defBody s_law_whole) (defScope s_law_whole) .none kV26 dc26 pm26 an26 cd26 ct26), sl26⟩) (c26 : PySem.W.codeIn K cd26 "_law_whole" = true) (k26 : PySem.W.keepIn K (.ref f26) = true)
    (a27 : PySem.W.nsIn K mainGlobals "_law_told" = some (some (.ref f27))) (l27 : K.lookup f27 = some ⟨oc27, od27, .func (PySem.W.fnOf "_law_told" "_law_told" (defArgs s_law_told) (defBody s_law_told) (defScope s_law_told) .none kV27 dc27 pm27 an27 cd27 ct27), sl27⟩) (c27 : PySem.W.codeIn K cd27 "_law_told" = true) (k27 : PySem.W.keepIn K (.ref f27) = true)
    (a28 : PySem.W.nsIn K mainGlobals "_law_turns_refused" = some (some (.ref f28))) (l28 : K.lookup f28 = some ⟨oc28, od28, .func (PySem.W.fnOf "_law_turns_refused" "_law_turns_refused" (defArgs s_law_turns_refused) (defBody s_law_turns_refused) (defScope s_law_turns_refused) .none kV28 dc28 pm28 an28 cd28 ct28), sl28⟩) (c28 : PySem.W.codeIn K cd28 "_law_turns_refused" = true) (k28 : PySem.W.keepIn K (.ref f28) = true)
    (a29 : PySem.W.nsIn K mainGlobals "_law_steps_refused" = some (some (.ref f29))) (l29 : K.lookup f29 = some ⟨oc29, od29, .func (PySem.W.fnOf "_law_steps_refused" "_law_steps_refused" (defArgs s_law_steps_refused) (defBody s_law_steps_refused) (defScope s_law_steps_refused) .none kV29 dc29 pm29 an29 cd29 ct29), sl29⟩) (c29 : PySem.W.codeIn K cd29 "_law_steps_refused" = true) (k29 : PySem.W.keepIn K (.ref f29) = true)
    (a30 : PySem.W.nsIn K mainGlobals "_law_kept" = some (some (.ref f30))) (l30 : K.lookup f30 = some ⟨oc30, od30, .func (PySem.W.fnOf "_law_kept" "_law_kept" (defArgs s_law_kept) (defBody s_law_kept) (defScope s_law_kept) .none kV30 dc30 pm30 an30 cd30 ct30), sl30⟩) (c30 : PySem.W.codeIn K cd30 "_law_kept" = true) (k30 : PySem.W.keepIn K (.ref f30) = true)
    (a31 : PySem.W.nsIn K mainGlobals "law" = some (some (.ref f31))) (l31 : K.lookup f31 = some ⟨oc31, od31, .func (PySem.W.fnOf "law" "law" (defArgs s_law) (defBody s_law) (defScope s_law) .none kV31 dc31 pm31 an31 cd31 ct31), sl31⟩) (c31 : PySem.W.codeIn K cd31 "law" = true) (k31 : PySem.W.keepIn K (.ref f31) = true)
    (ce28 : cd28 = .ref cc_law_turns_refused) (lc28 : K.lookup cc_law_turns_refused = some ⟨ev28, dv28, .fields vv28, sv28⟩) (lp28 : vv28[11]? = some (.ref P_law_turns_refused)) (np28 : K.lookup P_law_turns_refused = none)
    (ce29 : cd29 = .ref cc_law_steps_refused) (lc29 : K.lookup cc_law_steps_refused = some ⟨ev29, dv29, .fields vv29, sv29⟩) (lp29 : vv29[11]? = some (.ref P_law_steps_refused)) (np29 : K.lookup P_law_steps_refused = none)
    (ndT : [P_law_turns_refused, P_law_steps_refused].Nodup)
    (z_int : PySem.W.nsIn K mainGlobals "int" = some none)
    (z_isinstance : PySem.W.nsIn K mainGlobals "isinstance" = some none)
    (z_bool : PySem.W.nsIn K mainGlobals "bool" = some none)
    (z_tuple : PySem.W.nsIn K mainGlobals "tuple" = some none)
    (z_len : PySem.W.nsIn K mainGlobals "len" = some none)
    (z_all : PySem.W.nsIn K mainGlobals "all" = some none)
    (z_sorted : PySem.W.nsIn K mainGlobals "sorted" = some none)
    (z_list : PySem.W.nsIn K mainGlobals "list" = some none)
    (z_range : PySem.W.nsIn K mainGlobals "range" = some none)
    (z_abs : PySem.W.nsIn K mainGlobals "abs" = some none)
    (z_enumerate : PySem.W.nsIn K mainGlobals "enumerate" = some none)
    (z_repr : PySem.W.nsIn K mainGlobals "repr" = some none)
    (z_str : PySem.W.nsIn K mainGlobals "str" = some none)
    (z_ValueError : PySem.W.nsIn K mainGlobals "ValueError" = some none)
    (z_max : PySem.W.nsIn K mainGlobals "max" = some none)
    (i_LEAST_MANY : PySem.W.nsIn K mainGlobals "LEAST_MANY" = some (some (.int 2 t_LEAST_MANY)))
    (i_MOST_MANY : PySem.W.nsIn K mainGlobals "MOST_MANY" = some (some (.int 4 t_MOST_MANY)))
    (i_MOST_HANDS : PySem.W.nsIn K mainGlobals "MOST_HANDS" = some (some (.int 6 t_MOST_HANDS)))
    (ol_NoName : K.lookup C_NoName = some (excClassObj onm_NoName oq_NoName C_NoName oN_NoName obs_NoName obm_NoName true osn_NoName osub_NoName oab_NoName ocol_NoName odd_NoName ok0_NoName ok1_NoName ok2_NoName ok3_NoName ok5_NoName "ValueError.__new__")) (or_NoName : PySem.HandSPX.refsVE obm_NoName = true) (os_NoName : PySem.W.findIn K (.ref C_NoName) "__setattr__" = some (some (.builtin "object.__setattr__"))) (ob_NoName : PySem.W.subIn K (.ref C_NoName) (.type "BaseException") = some true) (ot_NoName : PySem.W.typeIn K (.ref C_NoName) = some (.type "type")) (ok_NoName : PySem.W.keepIn K (.ref C_NoName) = true)
    (ol_InUse : K.lookup C_InUse = some (excClassObj onm_InUse oq_InUse C_InUse oN_InUse obs_InUse obm_InUse true osn_InUse osub_InUse oab_InUse ocol_InUse odd_InUse ok0_InUse ok1_InUse ok2_InUse ok3_InUse ok5_InUse "ValueError.__new__")) (or_InUse : PySem.HandSPX.refsVE obm_InUse = true) (os_InUse : PySem.W.findIn K (.ref C_InUse) "__setattr__" = some (some (.builtin "object.__setattr__"))) (ob_InUse : PySem.W.subIn K (.ref C_InUse) (.type "BaseException") = some true) (ot_InUse : PySem.W.typeIn K (.ref C_InUse) = some (.type "type")) (ok_InUse : PySem.W.keepIn K (.ref C_InUse) = true)
    (ol_NoText : K.lookup C_NoText = some (excClassObj onm_NoText oq_NoText C_NoText oN_NoText obs_NoText obm_NoText true osn_NoText osub_NoText oab_NoText ocol_NoText odd_NoText ok0_NoText ok1_NoText ok2_NoText ok3_NoText ok5_NoText "ValueError.__new__")) (or_NoText : PySem.HandSPX.refsVE obm_NoText = true) (os_NoText : PySem.W.findIn K (.ref C_NoText) "__setattr__" = some (some (.builtin "object.__setattr__"))) (ob_NoText : PySem.W.subIn K (.ref C_NoText) (.type "BaseException") = some true) (ot_NoText : PySem.W.typeIn K (.ref C_NoText) = some (.type "type")) (ok_NoText : PySem.W.keepIn K (.ref C_NoText) = true)
    (xa_InUse : PySem.W.findIn K (.ref C_InUse) "__getattribute__" = some (some (.builtin "BaseException.__getattribute__"))) (xg_InUse : PySem.W.findIn K (.ref C_InUse) "__getattr__" = some none) (xu_InUse : PySem.W.subIn K (.ref C_InUse) (.type "BaseException") = some true) (xh_InUse : PySem.W.hasDictIn K C_InUse = true)
    (xa_NoName : PySem.W.findIn K (.ref C_NoName) "__getattribute__" = some (some (.builtin "BaseException.__getattribute__"))) (xg_NoName : PySem.W.findIn K (.ref C_NoName) "__getattr__" = some none) (xu_NoName : PySem.W.subIn K (.ref C_NoName) (.type "BaseException") = some true) (xh_NoName : PySem.W.hasDictIn K C_NoName = true)
    (xa_NoText : PySem.W.findIn K (.ref C_NoText) "__getattribute__" = some (some (.builtin "BaseException.__getattribute__"))) (xg_NoText : PySem.W.findIn K (.ref C_NoText) "__getattr__" = some none) (xu_NoText : PySem.W.subIn K (.ref C_NoText) (.type "BaseException") = some true) (xh_NoText : PySem.W.hasDictIn K C_NoText = true)
    (xq_NoTurn : PySem.W.excIn K C_NoTurn [.type "ValueError", .type "Exception", .type "BaseException", .type "object"] "ValueError.__new__" = true) (xk_NoTurn : PySem.W.keepIn K (.ref C_NoTurn) = true) (xb_NoTurn : PySem.W.subIn K (.ref C_NoTurn) (.type "BaseException") = some true) (xt_NoTurn : PySem.W.typeIn K (.ref C_NoTurn) = some (.type "type"))
    (xq_NoWord : PySem.W.excIn K C_NoWord [.type "ValueError", .type "Exception", .type "BaseException", .type "object"] "ValueError.__new__" = true) (xk_NoWord : PySem.W.keepIn K (.ref C_NoWord) = true) (xb_NoWord : PySem.W.subIn K (.ref C_NoWord) (.type "BaseException") = some true) (xt_NoWord : PySem.W.typeIn K (.ref C_NoWord) = some (.type "type"))
    (xq_NoRow : PySem.W.excIn K C_NoRow [.type "ValueError", .type "Exception", .type "BaseException", .type "object"] "ValueError.__new__" = true) (xk_NoRow : PySem.W.keepIn K (.ref C_NoRow) = true) (xb_NoRow : PySem.W.subIn K (.ref C_NoRow) (.type "BaseException") = some true) (xt_NoRow : PySem.W.typeIn K (.ref C_NoRow) = some (.type "type"))
    (ex_NoRow_HandError : PySem.W.exmOne K (.ref C_NoRow) (.ref C_HandError) = some true)
    (ex_NoTurn_HandError : PySem.W.exmOne K (.ref C_NoTurn) (.ref C_HandError) = some true)
    (ex_NoWord_HandError : PySem.W.exmOne K (.ref C_NoWord) (.ref C_HandError) = some true)
    (kt_NoneType_NoText : PySem.W.kitOne K (.type "NoneType") (.ref C_NoText) = some false)
    (echg_NoRow : PySem.W.findIn K (.ref C_NoRow) "__getattribute__" = some (some (.builtin "BaseException.__getattribute__")))
    (echk_NoRow : PySem.W.findIn K (.ref C_NoRow) "__getattr__" = some none)
    (echs_NoRow : PySem.W.subIn K (.ref C_NoRow) (.type "BaseException") = some true)
    (echd_NoRow : PySem.W.hasDictIn K C_NoRow = true)
    (echa_NoRow : PySem.W.findIn K (.ref C_NoRow) "__class__" = some (some (.builtin "object.__class__")))
    (echn_NoRow : PySem.W.specialIn K (.builtin "object.__class__") "__get__" = some (some (.builtin "getset_descriptor.__get__")))
    (echt_NoRow : PySem.W.takesIn K (.builtin "object.__class__") = some true)
    (echm_NoRow : PySem.W.mroIn K C_NoRow (.type "object") = some true)
    (kt_NoRow_NoText : PySem.W.kitOne K (.ref C_NoRow) (.ref C_NoText) = some false)
    (echg_NoTurn : PySem.W.findIn K (.ref C_NoTurn) "__getattribute__" = some (some (.builtin "BaseException.__getattribute__")))
    (echk_NoTurn : PySem.W.findIn K (.ref C_NoTurn) "__getattr__" = some none)
    (echs_NoTurn : PySem.W.subIn K (.ref C_NoTurn) (.type "BaseException") = some true)
    (echd_NoTurn : PySem.W.hasDictIn K C_NoTurn = true)
    (echa_NoTurn : PySem.W.findIn K (.ref C_NoTurn) "__class__" = some (some (.builtin "object.__class__")))
    (echn_NoTurn : PySem.W.specialIn K (.builtin "object.__class__") "__get__" = some (some (.builtin "getset_descriptor.__get__")))
    (echt_NoTurn : PySem.W.takesIn K (.builtin "object.__class__") = some true)
    (echm_NoTurn : PySem.W.mroIn K C_NoTurn (.type "object") = some true)
    (kt_NoTurn_NoText : PySem.W.kitOne K (.ref C_NoTurn) (.ref C_NoText) = some false)
    (echg_NoWord : PySem.W.findIn K (.ref C_NoWord) "__getattribute__" = some (some (.builtin "BaseException.__getattribute__")))
    (echk_NoWord : PySem.W.findIn K (.ref C_NoWord) "__getattr__" = some none)
    (echs_NoWord : PySem.W.subIn K (.ref C_NoWord) (.type "BaseException") = some true)
    (echd_NoWord : PySem.W.hasDictIn K C_NoWord = true)
    (echa_NoWord : PySem.W.findIn K (.ref C_NoWord) "__class__" = some (some (.builtin "object.__class__")))
    (echn_NoWord : PySem.W.specialIn K (.builtin "object.__class__") "__get__" = some (some (.builtin "getset_descriptor.__get__")))
    (echt_NoWord : PySem.W.takesIn K (.builtin "object.__class__") = some true)
    (echm_NoWord : PySem.W.mroIn K C_NoWord (.type "object") = some true)
    (kt_NoWord_NoText : PySem.W.kitOne K (.ref C_NoWord) (.ref C_NoText) = some false)
    (kt_NoneType_NoDeed : PySem.W.kitOne K (.type "NoneType") (.ref C_NoDeed) = some false)
    (kt_NoRow_NoDeed : PySem.W.kitOne K (.ref C_NoRow) (.ref C_NoDeed) = some false)
    (kt_NoTurn_NoDeed : PySem.W.kitOne K (.ref C_NoTurn) (.ref C_NoDeed) = some false)
    (kt_NoWord_NoDeed : PySem.W.kitOne K (.ref C_NoWord) (.ref C_NoDeed) = some false)
    (kt_NoneType_InUse : PySem.W.kitOne K (.type "NoneType") (.ref C_InUse) = some false)
    (kt_NoRow_InUse : PySem.W.kitOne K (.ref C_NoRow) (.ref C_InUse) = some false)
    (kt_NoTurn_InUse : PySem.W.kitOne K (.ref C_NoTurn) (.ref C_InUse) = some false)
    (kt_NoWord_InUse : PySem.W.kitOne K (.ref C_NoWord) (.ref C_InUse) = some false)
    (kt_NoneType_NoName : PySem.W.kitOne K (.type "NoneType") (.ref C_NoName) = some false)
    (kt_NoRow_NoName : PySem.W.kitOne K (.ref C_NoRow) (.ref C_NoName) = some false)
    (kt_NoTurn_NoName : PySem.W.kitOne K (.ref C_NoTurn) (.ref C_NoName) = some false)
    (kt_NoWord_NoName : PySem.W.kitOne K (.ref C_NoWord) (.ref C_NoName) = some false)
    (kt_NoneType_TooMany : PySem.W.kitOne K (.type "NoneType") (.ref C_TooMany) = some false)
    (kt_NoRow_TooMany : PySem.W.kitOne K (.ref C_NoRow) (.ref C_TooMany) = some false)
    (kt_NoTurn_TooMany : PySem.W.kitOne K (.ref C_NoTurn) (.ref C_TooMany) = some false)
    (kt_NoWord_TooMany : PySem.W.kitOne K (.ref C_NoWord) (.ref C_TooMany) = some false)
    (kt_NoneType_NoNumber : PySem.W.kitOne K (.type "NoneType") (.ref C_NoNumber) = some false)
    (kt_NoRow_NoNumber : PySem.W.kitOne K (.ref C_NoRow) (.ref C_NoNumber) = some false)
    (kt_NoTurn_NoNumber : PySem.W.kitOne K (.ref C_NoTurn) (.ref C_NoNumber) = some false)
    (kt_NoWord_NoNumber : PySem.W.kitOne K (.ref C_NoWord) (.ref C_NoNumber) = some false)
    (kt_NoneType_NoMachine : PySem.W.kitOne K (.type "NoneType") (.ref C_NoMachine) = some false)
    (kt_NoRow_NoMachine : PySem.W.kitOne K (.ref C_NoRow) (.ref C_NoMachine) = some false)
    (kt_NoTurn_NoMachine : PySem.W.kitOne K (.ref C_NoTurn) (.ref C_NoMachine) = some false)
    (kt_NoWord_NoMachine : PySem.W.kitOne K (.ref C_NoWord) (.ref C_NoMachine) = some false)
    (kt_NoneType_NoRow : PySem.W.kitOne K (.type "NoneType") (.ref C_NoRow) = some false)
    (kt_NoRow_NoRow : PySem.W.kitOne K (.ref C_NoRow) (.ref C_NoRow) = some true)
    (kt_NoTurn_NoRow : PySem.W.kitOne K (.ref C_NoTurn) (.ref C_NoRow) = some false)
    (kt_NoWord_NoRow : PySem.W.kitOne K (.ref C_NoWord) (.ref C_NoRow) = some false)
    (kt_NoneType_NoWord : PySem.W.kitOne K (.type "NoneType") (.ref C_NoWord) = some false)
    (kt_NoRow_NoWord : PySem.W.kitOne K (.ref C_NoRow) (.ref C_NoWord) = some false)
    (kt_NoTurn_NoWord : PySem.W.kitOne K (.ref C_NoTurn) (.ref C_NoWord) = some false)
    (kt_NoWord_NoWord : PySem.W.kitOne K (.ref C_NoWord) (.ref C_NoWord) = some true)
    (kt_NoneType_NoBook : PySem.W.kitOne K (.type "NoneType") (.ref C_NoBook) = some false)
    (kt_NoRow_NoBook : PySem.W.kitOne K (.ref C_NoRow) (.ref C_NoBook) = some false)
    (kt_NoTurn_NoBook : PySem.W.kitOne K (.ref C_NoTurn) (.ref C_NoBook) = some false)
    (kt_NoWord_NoBook : PySem.W.kitOne K (.ref C_NoWord) (.ref C_NoBook) = some false)
    (kt_NoneType_NoTurn : PySem.W.kitOne K (.type "NoneType") (.ref C_NoTurn) = some false)
    (kt_NoRow_NoTurn : PySem.W.kitOne K (.ref C_NoRow) (.ref C_NoTurn) = some false)
    (kt_NoTurn_NoTurn : PySem.W.kitOne K (.ref C_NoTurn) (.ref C_NoTurn) = some true)
    (kt_NoWord_NoTurn : PySem.W.kitOne K (.ref C_NoWord) (.ref C_NoTurn) = some false)
    (echg_NoText : PySem.W.findIn K (.ref C_NoText) "__getattribute__" = some (some (.builtin "BaseException.__getattribute__")))
    (echk_NoText : PySem.W.findIn K (.ref C_NoText) "__getattr__" = some none)
    (echs_NoText : PySem.W.subIn K (.ref C_NoText) (.type "BaseException") = some true)
    (echd_NoText : PySem.W.hasDictIn K C_NoText = true)
    (echa_NoText : PySem.W.findIn K (.ref C_NoText) "__class__" = some (some (.builtin "object.__class__")))
    (echn_NoText : PySem.W.specialIn K (.builtin "object.__class__") "__get__" = some (some (.builtin "getset_descriptor.__get__")))
    (echt_NoText : PySem.W.takesIn K (.builtin "object.__class__") = some true)
    (echm_NoText : PySem.W.mroIn K C_NoText (.type "object") = some true)
    (kt_NoText_NoBook : PySem.W.kitOne K (.ref C_NoText) (.ref C_NoBook) = some false)
    (echg_NoName : PySem.W.findIn K (.ref C_NoName) "__getattribute__" = some (some (.builtin "BaseException.__getattribute__")))
    (echk_NoName : PySem.W.findIn K (.ref C_NoName) "__getattr__" = some none)
    (echs_NoName : PySem.W.subIn K (.ref C_NoName) (.type "BaseException") = some true)
    (echd_NoName : PySem.W.hasDictIn K C_NoName = true)
    (echa_NoName : PySem.W.findIn K (.ref C_NoName) "__class__" = some (some (.builtin "object.__class__")))
    (echn_NoName : PySem.W.specialIn K (.builtin "object.__class__") "__get__" = some (some (.builtin "getset_descriptor.__get__")))
    (echt_NoName : PySem.W.takesIn K (.builtin "object.__class__") = some true)
    (echm_NoName : PySem.W.mroIn K C_NoName (.type "object") = some true)
    (kt_NoName_NoBook : PySem.W.kitOne K (.ref C_NoName) (.ref C_NoBook) = some false)
    (echg_InUse : PySem.W.findIn K (.ref C_InUse) "__getattribute__" = some (some (.builtin "BaseException.__getattribute__")))
    (echk_InUse : PySem.W.findIn K (.ref C_InUse) "__getattr__" = some none)
    (echs_InUse : PySem.W.subIn K (.ref C_InUse) (.type "BaseException") = some true)
    (echd_InUse : PySem.W.hasDictIn K C_InUse = true)
    (echa_InUse : PySem.W.findIn K (.ref C_InUse) "__class__" = some (some (.builtin "object.__class__")))
    (echn_InUse : PySem.W.specialIn K (.builtin "object.__class__") "__get__" = some (some (.builtin "getset_descriptor.__get__")))
    (echt_InUse : PySem.W.takesIn K (.builtin "object.__class__") = some true)
    (echm_InUse : PySem.W.mroIn K C_InUse (.type "object") = some true)
    (kt_InUse_NoBook : PySem.W.kitOne K (.ref C_InUse) (.ref C_NoBook) = some false)
    (kt_NoText_InUse : PySem.W.kitOne K (.ref C_NoText) (.ref C_InUse) = some false)
    (kt_NoName_InUse : PySem.W.kitOne K (.ref C_NoName) (.ref C_InUse) = some false)
    (kt_InUse_InUse : PySem.W.kitOne K (.ref C_InUse) (.ref C_InUse) = some true)
    (kt_NoText_NoName : PySem.W.kitOne K (.ref C_NoText) (.ref C_NoName) = some false)
    (kt_NoName_NoName : PySem.W.kitOne K (.ref C_NoName) (.ref C_NoName) = some true)
    (kt_InUse_NoName : PySem.W.kitOne K (.ref C_InUse) (.ref C_NoName) = some false)
    (kt_NoText_NoText : PySem.W.kitOne K (.ref C_NoText) (.ref C_NoText) = some true)
    (kt_NoName_NoText : PySem.W.kitOne K (.ref C_NoName) (.ref C_NoText) = some false)
    (kt_InUse_NoText : PySem.W.kitOne K (.ref C_InUse) (.ref C_NoText) = some false)
    (kt_NoText_HandError : PySem.W.kitOne K (.ref C_NoText) (.ref C_HandError) = some true)
    (kt_NoName_HandError : PySem.W.kitOne K (.ref C_NoName) (.ref C_HandError) = some true)
    (kt_InUse_HandError : PySem.W.kitOne K (.ref C_InUse) (.ref C_HandError) = some true)
    (kt_NoText_ValueError : PySem.W.kitOne K (.ref C_NoText) (.type "ValueError") = some true)
    (kt_NoName_ValueError : PySem.W.kitOne K (.ref C_NoName) (.type "ValueError") = some true)
    (kt_InUse_ValueError : PySem.W.kitOne K (.ref C_InUse) (.type "ValueError") = some true) (own : ∀ nm ∈ [("_law_turns_refused" : Str), ("_law_steps_refused" : Str)], OwnT K mg h nm) :
    ∃ (fd : FuncData) (T : List Tb), (T.map (·.2.1)).Nodup ∧ (∀ t ∈ T, h.get? t.2.1 = some emptyTab) ∧ (∀ t ∈ T, K.lookup t.2.1 = none) ∧ (∀ t ∈ T, PySem.W.CodeHd h t.1 t.2.1) ∧ (∀ (s : Shared) (v : Value), BindsTo s fd ⟨[v], []⟩ [("_law_script", v)]) ∧ ∀ base : Heap, K.In base → base.Ns mainGlobals mg → (∀ t ∈ T, TabB base mg t.1 t.2.1) → FnDG l.prog w K mg base 12 fa fd ["_law_script"] (spLawT 63 T) := by
  have e := hfa.symm.trans (PySem.W.mg_of X G a31)
  cases e
  have F0 := fun_mk (st := s_NoName___init__) l0 c0 k0
  have F1 := fun_mk (st := s_InUse___init__) l1 c1 k1
  have F2 := fun_mk (st := s_NoText___init__) l2 c2 k2
  have F3 := fun_mk (st := s_is_whole) l3 c3 k3
  have F4 := fun_mk (st := s_is_between) l4 c4 k4
  have F5 := fun_mk (st := s_is_turn) l5 c5 k5
  have F6 := fun_mk (st := s_need_turn) l6 c6 k6
  have F7 := fun_mk (st := s_undone) l7 c7 k7
  have F8 := fun_mk (st := s_turn_back) l8 c8 k8
  have F9 := fun_mk (st := s_turn_after) l9 c9 k9
  have F10 := fun_mk (st := s_turn_rings) l10 c10 k10
  have F11 := fun_mk (st := s_is_hand) l11 c11 k11
  have F12 := fun_mk (st := s_are_hands) l12 c12 k12
  have F13 := fun_mk (st := s_Book___init__) l13 c13 k13
  have F14 := fun_mk (st := s_Book_has_step) l14 c14 k14
  have F15 := fun_mk (st := s_Book_has_letter) l15 c15 k15
  have F16 := fun_mk (st := s_Book_turn) l16 c16 k16
  have F17 := fun_mk (st := s_Book_onward) l17 c17 k17
  have F18 := fun_mk (st := s_law_state) l18 c18 k18
  have F19 := fun_mk (st := s_law_next) l19 c19 k19
  have F20 := fun_mk (st := s_law_turn) l20 c20 k20
  have F21 := fun_mk (st := s_law_pairs) l21 c21 k21
  have F22 := fun_mk (st := s_law_goes) l22 c22 k22
  have F23 := fun_mk (st := s_law_odd) l23 c23 k23
  have F24 := fun_mk (st := s_law_thing) l24 c24 k24
  have F25 := fun_mk (st := s_law_is_turn) l25 c25 k25
  have F26 := fun_mk (st := s_law_whole) l26 c26 k26
  have F27 := fun_mk (st := s_law_told) l27 c27 k27
  have F28 := fun_mk (st := s_law_turns_refused) l28 c28 k28
  have F29 := fun_mk (st := s_law_steps_refused) l29 c29 k29
  have F30 := fun_mk (st := s_law_kept) l30 c30 k30
  have F31 := fun_mk (st := s_law) l31 c31 k31
  have z_int := PySem.W.mg_none_of X G z_int
  have z_isinstance := PySem.W.mg_none_of X G z_isinstance
  have z_bool := PySem.W.mg_none_of X G z_bool
  have z_tuple := PySem.W.mg_none_of X G z_tuple
  have z_len := PySem.W.mg_none_of X G z_len
  have z_all := PySem.W.mg_none_of X G z_all
  have z_sorted := PySem.W.mg_none_of X G z_sorted
  have z_list := PySem.W.mg_none_of X G z_list
  have z_range := PySem.W.mg_none_of X G z_range
  have z_abs := PySem.W.mg_none_of X G z_abs
  have z_enumerate := PySem.W.mg_none_of X G z_enumerate
  have z_repr := PySem.W.mg_none_of X G z_repr
  have z_str := PySem.W.mg_none_of X G z_str
  have z_ValueError := PySem.W.mg_none_of X G z_ValueError
  have z_max := PySem.W.mg_none_of X G z_max
  have i_LEAST_MANY : GI mg "LEAST_MANY" 2 := ⟨_, PySem.W.mg_of X G i_LEAST_MANY⟩
  have i_MOST_MANY : GI mg "MOST_MANY" 4 := ⟨_, PySem.W.mg_of X G i_MOST_MANY⟩
  have i_MOST_HANDS : GI mg "MOST_HANDS" 6 := ⟨_, PySem.W.mg_of X G i_MOST_HANDS⟩
  have g_NoName := PySem.W.mg_of X G g_NoName
  have g_InUse := PySem.W.mg_of X G g_InUse
  have g_NoText := PySem.W.mg_of X G g_NoText
  have g_NoTurn := PySem.W.mg_of X G g_NoTurn
  have g_Book := PySem.W.mg_of X G g_Book
  have g_NoWord := PySem.W.mg_of X G g_NoWord
  have g_NoRow := PySem.W.mg_of X G g_NoRow
  have g_HandError := PySem.W.mg_of X G g_HandError
  have g_NoDeed := PySem.W.mg_of X G g_NoDeed
  have g_TooMany := PySem.W.mg_of X G g_TooMany
  have g_NoNumber := PySem.W.mg_of X G g_NoNumber
  have g_NoMachine := PySem.W.mg_of X G g_NoMachine
  have g_NoBook := PySem.W.mg_of X G g_NoBook
  have oe_NoName : OexC K C_NoName := ⟨⟨_, _, _, _, _, _, _, _, _, _, _, _, _, _, _, ol_NoName, or_NoName⟩, os_NoName, ob_NoName, ot_NoName, ok_NoName⟩
  have oe_InUse : OexC K C_InUse := ⟨⟨_, _, _, _, _, _, _, _, _, _, _, _, _, _, _, ol_InUse, or_InUse⟩, os_InUse, ob_InUse, ot_InUse, ok_InUse⟩
  have oe_NoText : OexC K C_NoText := ⟨⟨_, _, _, _, _, _, _, _, _, _, _, _, _, _, _, ol_NoText, or_NoText⟩, os_NoText, ob_NoText, ot_NoText, ok_NoText⟩
  have xf_InUse : XfC K C_InUse := ⟨xa_InUse, xg_InUse, xu_InUse, xh_InUse⟩
  have xf_NoName : XfC K C_NoName := ⟨xa_NoName, xg_NoName, xu_NoName, xh_NoName⟩
  have xf_NoText : XfC K C_NoText := ⟨xa_NoText, xg_NoText, xu_NoText, xh_NoText⟩
  have cl_Book : Cls K C_Book := ⟨cl1_Book, cl2_Book, cl3_Book, cl4_Book⟩
  have x_NoTurn : ExcF K mg "NoTurn" C_NoTurn := ⟨xq_NoTurn, g_NoTurn, xk_NoTurn, xb_NoTurn, xt_NoTurn⟩
  have x_NoWord : ExcF K mg "NoWord" C_NoWord := ⟨xq_NoWord, g_NoWord, xk_NoWord, xb_NoWord, xt_NoWord⟩
  have x_NoRow : ExcF K mg "NoRow" C_NoRow := ⟨xq_NoRow, g_NoRow, xk_NoRow, xb_NoRow, xt_NoRow⟩
  have ow28 := own "_law_turns_refused" (by simp) _ cc_law_turns_refused P_law_turns_refused _ _ _ _ _ _ (PySem.W.mg_of X G a28) l28 rfl ce28 lc28 lp28
  have ow29 := own "_law_steps_refused" (by simp) _ cc_law_steps_refused P_law_steps_refused _ _ _ _ _ _ (PySem.W.mg_of X G a29) l29 rfl ce29 lc29 lp29
  refine ⟨PySem.W.fnOf "law" "law" (defArgs s_law) (defBody s_law) (defScope s_law) .none kV31 dc31 pm31 an31 cd31 ct31, [(cc_law_turns_refused, P_law_turns_refused, lamQ "_law_turns_refused"), (cc_law_steps_refused, P_law_steps_refused, lamQ "_law_steps_refused")], ndT, (all_cons ow28.1 (all_cons ow29.1 (fun _ z => nomatch z))), (all_cons np28 (all_cons np29 (fun _ z => nomatch z))), (all_cons ow28.2 (all_cons ow29.2 (fun _ z => nomatch z))), fun s v => .of_eq rfl, fun base _ _ TB => ?_⟩
  let d_NoName___init__ := mk_NoName___init__ (P := l.prog) (w := w) (mg := mg) (base := base) F0 ⟨a0, i0, k0⟩ g_NoName oe_NoName na_NoName_name
  let d_InUse___init__ := mk_InUse___init__ (P := l.prog) (w := w) (mg := mg) (base := base) F1 ⟨a1, i1, k1⟩ g_InUse oe_InUse na_InUse_name
  let d_NoText___init__ := mk_NoText___init__ (P := l.prog) (w := w) (mg := mg) (base := base) F2 ⟨a2, i2, k2⟩ g_NoText oe_NoText na_NoText_at
  let d_is_whole := mk_is_whole (P := l.prog) (w := w) (base := base) F3 (PySem.W.mg_of X G a3) z_int z_isinstance z_bool
  let d_undone := mk_undone (P := l.prog) (w := w) (base := base) F7 (PySem.W.mg_of X G a7) z_len z_range z_tuple
  let d_law_state := mk_law_state (P := l.prog) (w := w) (base := base) F18 (PySem.W.mg_of X G a18) z_len z_abs z_enumerate
  let d_law_next := mk_law_next (P := l.prog) (w := w) (base := base) F19 (PySem.W.mg_of X G a19) 
  let d_law_goes := mk_law_goes (P := l.prog) (w := w) (base := base) F22 (PySem.W.mg_of X G a22) z_abs z_len z_range
  let d_law_is_turn := mk_law_is_turn (P := l.prog) (w := w) (base := base) F25 (PySem.W.mg_of X G a25) z_tuple z_isinstance z_len z_repr z_sorted z_range z_str
  let d_law_whole := mk_law_whole (P := l.prog) (w := w) (base := base) F26 (PySem.W.mg_of X G a26) z_int z_isinstance z_bool
  let d_is_between := mk_is_between (P := l.prog) (w := w) (base := base) F4 (PySem.W.mg_of X G a4) d_is_whole
  let d_law_turn := mk_law_turn (P := l.prog) (w := w) (base := base) F20 (PySem.W.mg_of X G a20) z_list z_range d_law_next z_len z_tuple
  let d_law_odd := mk_law_odd (P := l.prog) (w := w) (base := base) F23 (PySem.W.mg_of X G a23) d_law_next
  let d_is_turn := mk_is_turn (P := l.prog) (w := w) (base := base) F5 (PySem.W.mg_of X G a5) z_tuple z_isinstance i_LEAST_MANY z_len i_MOST_MANY d_is_between z_all z_sorted z_list z_range
  let d_Book_has_step := mk_Book_has_step (P := l.prog) (w := w) (mg := mg) (base := base) F14 ⟨a14, i14, k14⟩ g_Book d_is_between cl_Book na_Book_pairs z_len
  let d_Book_has_letter := mk_Book_has_letter (P := l.prog) (w := w) (mg := mg) (base := base) F15 ⟨a15, i15, k15⟩ g_Book d_is_between cl_Book na_Book_many
  let d_law_pairs := mk_law_pairs (P := l.prog) (w := w) (base := base) F21 (PySem.W.mg_of X G a21) d_law_next z_range d_law_turn z_tuple
  let d_law_thing := mk_law_thing (P := l.prog) (w := w) (base := base) F24 (PySem.W.mg_of X G a24) d_law_next d_law_odd d_law_turn z_len z_list
  let d_law_kept := mk_law_kept (P := l.prog) (w := w) (base := base) F30 (PySem.W.mg_of X G a30) g_InUse d_InUse___init__ g_NoName d_NoName___init__ g_NoText d_NoText___init__ xf_InUse na_InUse_name xf_NoName na_NoName_name xf_NoText na_NoText_at z_repr z_enumerate g_NoBook ⟨echg_NoText, echk_NoText, echs_NoText, echd_NoText, echa_NoText, echn_NoText, echt_NoText, echm_NoText⟩ kt_NoText_NoBook ⟨echg_NoName, echk_NoName, echs_NoName, echd_NoName, echa_NoName, echn_NoName, echt_NoName, echm_NoName⟩ kt_NoName_NoBook ⟨echg_InUse, echk_InUse, echs_InUse, echd_InUse, echa_InUse, echn_InUse, echt_InUse, echm_InUse⟩ kt_InUse_NoBook z_isinstance kt_NoText_InUse kt_NoName_InUse kt_InUse_InUse kt_NoText_NoName kt_NoName_NoName kt_InUse_NoName kt_NoText_NoText kt_NoName_NoText kt_InUse_NoText g_HandError kt_NoText_HandError kt_NoName_HandError kt_InUse_HandError z_ValueError kt_NoText_ValueError kt_NoName_ValueError kt_InUse_ValueError
  let d_need_turn := mk_need_turn (P := l.prog) (w := w) (base := base) F6 (PySem.W.mg_of X G a6) g_NoTurn d_is_turn x_NoTurn
  let d_is_hand := mk_is_hand (P := l.prog) (w := w) (base := base) F11 (PySem.W.mg_of X G a11) z_tuple z_isinstance z_len d_is_turn d_is_between z_all
  let d_Book_turn := mk_Book_turn (P := l.prog) (w := w) (mg := mg) (base := base) F16 ⟨a16, i16, k16⟩ g_Book g_NoWord cl_Book d_Book_has_step x_NoWord na_Book_pairs z_abs d_undone
  let d_Book_onward := mk_Book_onward (P := l.prog) (w := w) (mg := mg) (base := base) F17 ⟨a17, i17, k17⟩ g_Book g_NoRow g_NoWord cl_Book d_Book_has_step x_NoWord d_Book_has_letter x_NoRow na_Book_pairs z_abs
  let d_turn_back := mk_turn_back (P := l.prog) (w := w) (base := base) F8 (PySem.W.mg_of X G a8) g_NoTurn d_need_turn d_undone
  let d_turn_after := mk_turn_after (P := l.prog) (w := w) (base := base) F9 (PySem.W.mg_of X G a9) g_NoTurn d_need_turn z_len x_NoTurn z_tuple
  let d_turn_rings := mk_turn_rings (P := l.prog) (w := w) (base := base) F10 (PySem.W.mg_of X G a10) g_NoTurn d_need_turn z_len z_list z_range z_tuple
  let d_are_hands := mk_are_hands (P := l.prog) (w := w) (base := base) F12 (PySem.W.mg_of X G a12) z_tuple z_list z_isinstance z_len i_MOST_HANDS d_is_hand z_all
  let d_Book___init__ := mk_Book___init__ (P := l.prog) (w := w) (mg := mg) (base := base) F13 ⟨a13, i13, k13⟩ g_Book d_is_between i_MOST_MANY i_LEAST_MANY d_are_hands cl_Book na_Book_many na_Book_pairs z_list
  let d_law_turns_refused := mk_law_turns_refused (P := l.prog) (w := w) (base := base) F28 (PySem.W.mg_of X G a28) g_NoTurn (TB (cc_law_turns_refused, P_law_turns_refused, lamQ "_law_turns_refused") (by simp)) ce28 F27 (PySem.W.mg_of X G a27) (F27.binds (ps := ["_law_work"]) fun _ _ _ _ _ _ us hl => match us, hl with | [_], _ => rfl) (fun X2 cdv h1 h2 => by cases h1; cases h2; exact mk_law_told (X := X2) (by decide) g_NoRow g_NoTurn g_NoWord g_HandError ex_NoRow_HandError ex_NoTurn_HandError ex_NoWord_HandError g_NoText kt_NoneType_NoText ⟨echg_NoRow, echk_NoRow, echs_NoRow, echd_NoRow, echa_NoRow, echn_NoRow, echt_NoRow, echm_NoRow⟩ kt_NoRow_NoText ⟨echg_NoTurn, echk_NoTurn, echs_NoTurn, echd_NoTurn, echa_NoTurn, echn_NoTurn, echt_NoTurn, echm_NoTurn⟩ kt_NoTurn_NoText ⟨echg_NoWord, echk_NoWord, echs_NoWord, echd_NoWord, echa_NoWord, echn_NoWord, echt_NoWord, echm_NoWord⟩ kt_NoWord_NoText z_isinstance g_NoDeed kt_NoneType_NoDeed kt_NoRow_NoDeed kt_NoTurn_NoDeed kt_NoWord_NoDeed g_InUse kt_NoneType_InUse kt_NoRow_InUse kt_NoTurn_InUse kt_NoWord_InUse g_NoName kt_NoneType_NoName kt_NoRow_NoName kt_NoTurn_NoName kt_NoWord_NoName g_TooMany kt_NoneType_TooMany kt_NoRow_TooMany kt_NoTurn_TooMany kt_NoWord_TooMany g_NoNumber kt_NoneType_NoNumber kt_NoRow_NoNumber kt_NoTurn_NoNumber kt_NoWord_NoNumber g_NoMachine kt_NoneType_NoMachine kt_NoRow_NoMachine kt_NoTurn_NoMachine kt_NoWord_NoMachine kt_NoneType_NoRow kt_NoRow_NoRow kt_NoTurn_NoRow kt_NoWord_NoRow kt_NoneType_NoWord kt_NoRow_NoWord kt_NoTurn_NoWord kt_NoWord_NoWord g_NoBook kt_NoneType_NoBook kt_NoRow_NoBook kt_NoTurn_NoBook kt_NoWord_NoBook kt_NoneType_NoTurn kt_NoRow_NoTurn kt_NoTurn_NoTurn kt_NoWord_NoTurn) g_NoRow g_NoWord d_turn_after d_turn_rings d_turn_back d_law_is_turn
  let d_law_steps_refused := mk_law_steps_refused (P := l.prog) (w := w) (base := base) F29 (PySem.W.mg_of X G a29) g_Book g_NoRow g_NoWord d_Book___init__ z_list d_law_whole z_len z_range d_law_goes z_tuple F27 (PySem.W.mg_of X G a27) (F27.binds (ps := ["_law_work"]) fun _ _ _ _ _ _ us hl => match us, hl with | [_], _ => rfl) (fun X2 cdv h1 h2 => by cases h1; cases h2; exact mk_law_told (X := X2) (by decide) g_NoRow g_NoTurn g_NoWord g_HandError ex_NoRow_HandError ex_NoTurn_HandError ex_NoWord_HandError g_NoText kt_NoneType_NoText ⟨echg_NoRow, echk_NoRow, echs_NoRow, echd_NoRow, echa_NoRow, echn_NoRow, echt_NoRow, echm_NoRow⟩ kt_NoRow_NoText ⟨echg_NoTurn, echk_NoTurn, echs_NoTurn, echd_NoTurn, echa_NoTurn, echn_NoTurn, echt_NoTurn, echm_NoTurn⟩ kt_NoTurn_NoText ⟨echg_NoWord, echk_NoWord, echs_NoWord, echd_NoWord, echa_NoWord, echn_NoWord, echt_NoWord, echm_NoWord⟩ kt_NoWord_NoText z_isinstance g_NoDeed kt_NoneType_NoDeed kt_NoRow_NoDeed kt_NoTurn_NoDeed kt_NoWord_NoDeed g_InUse kt_NoneType_InUse kt_NoRow_InUse kt_NoTurn_InUse kt_NoWord_InUse g_NoName kt_NoneType_NoName kt_NoRow_NoName kt_NoTurn_NoName kt_NoWord_NoName g_TooMany kt_NoneType_TooMany kt_NoRow_TooMany kt_NoTurn_TooMany kt_NoWord_TooMany g_NoNumber kt_NoneType_NoNumber kt_NoRow_NoNumber kt_NoTurn_NoNumber kt_NoWord_NoNumber g_NoMachine kt_NoneType_NoMachine kt_NoRow_NoMachine kt_NoTurn_NoMachine kt_NoWord_NoMachine kt_NoneType_NoRow kt_NoRow_NoRow kt_NoTurn_NoRow kt_NoWord_NoRow kt_NoneType_NoWord kt_NoRow_NoWord kt_NoTurn_NoWord kt_NoWord_NoWord g_NoBook kt_NoneType_NoBook kt_NoRow_NoBook kt_NoTurn_NoBook kt_NoWord_NoBook kt_NoneType_NoTurn kt_NoRow_NoTurn kt_NoTurn_NoTurn kt_NoWord_NoTurn) (TB (cc_law_steps_refused, P_law_steps_refused, lamQ "_law_steps_refused") (by simp)) ce29 g_NoTurn cl_Book d_Book_turn (mkB_of (ix := [0]) F16 fun _ _ _ _ _ _ _ ws hl => match ws, hl with | [_], _ => rfl) d_Book_onward (mkB_of (ix := [1, 0]) F17 fun _ _ _ _ _ _ _ ws hl => match ws, hl with | [_, _], _ => rfl) z_repr ⟨mk1_Book, a13, i13, mk2_Book⟩
  exact (mk_law (P := l.prog) (w := w) (base := base) F31 (PySem.W.mg_of X G a31) g_Book z_len z_max z_range d_law_state d_law_odd d_law_next d_law_thing d_law_turn d_law_turns_refused g_NoTurn d_law_kept d_law_pairs d_law_steps_refused g_NoRow g_NoWord).ok
end
end L2.Lh
open PySem PySem.W PyProof.Rows
set_option maxHeartbeats 0 in
theorem PySem.Challenge.cw_letterhand_k06_doors_of_turns_and_books_holds : PySem.Challenge.rw_letterhand_k06_doors_of_turns_and_books.Holds := by
  w_on; o_law; k_head; (case hw => w_witness2)
  k_fill
  refine L2.Lh.walkGT (l := PySem.Challenge.rw_letterhand_k06_doors_of_turns_and_books) (n := 63) (k := 12) (x := "_law_script") [("_law_turns_refused" : Str), ("_law_steps_refused" : Str)] rfl (by decide) rfl ⟨rfl, by decide, by decide⟩ (by decide +kernel) (by first | exact fun w h Y => PySem.W.km_in_of Y | exact fun w h Y => PySem.W.kIn_of Y) ?F
  case F =>
    intro w mg fa h KX G hmg own
    refine' L2.Lh.all_mk KX G hmg ?g_NoName ?g_InUse ?g_NoText ?g_NoTurn ?g_Book ?g_NoWord ?g_NoRow ?g_HandError ?g_NoDeed ?g_TooMany ?g_NoNumber ?g_NoMachine ?g_NoBook ?cl1_Book ?cl2_Book ?cl3_Book ?cl4_Book ?na_NoName_name ?na_InUse_name ?na_NoText_at ?na_Book_many ?na_Book_pairs ?mk1_Book ?mk2_Book ?a0 ?l0 ?c0 ?k0 ?i0 ?a1 ?l1 ?c1 ?k1 ?i1 ?a2 ?l2 ?c2 ?k2 ?i2 ?a3 ?l3 ?c3 ?k3 ?a4 ?l4 ?c4 ?k4 ?a5 ?l5 ?c5 ?k5 ?a6 ?l6 ?c6 ?k6 ?a7 ?l7 ?c7 ?k7 ?a8 ?l8 ?c8 ?k8 ?a9 ?l9 ?c9 ?k9 ?a10 ?l10 ?c10 ?k10 ?a11 ?l11 ?c11 ?k11 ?a12 ?l12 ?c12 ?k12 ?a13 ?l13 ?c13 ?k13 ?i13 ?a14 ?l14 ?c14 ?k14 ?i14 ?a15 ?l15 ?c15 ?k15 ?i15 ?a16 ?l16 ?c16 ?k16 ?i16 ?a17 ?l17 ?c17 ?k17 ?i17 ?a18 ?l18 ?c18 ?k18 ?a19 ?l19 ?c19 ?k19 ?a20 ?l20 ?c20 ?k20 ?a21 ?l21 ?c21 ?k21 ?a22 ?l22 ?c22 ?k22 ?a23 ?l23 ?c23 ?k23 ?a24 ?l24 ?c24 ?k24 ?a25 ?l25 ?c25 ?k25 ?a26 ?l26 ?c26 ?k26 ?a27 ?l27 ?c27 ?k27 ?a28 ?l28 ?c28 ?k28 ?a29 ?l29 ?c29 ?k29 ?a30 ?l30 ?c30 ?k30 ?a31 ?l31 ?c31 ?k31 ?ce28 ?lc28 ?lp28 ?np28 ?ce29 ?lc29 ?lp29 ?np29 ?ndT ?z_int ?z_isinstance ?z_bool ?z_tuple ?z_len ?z_all ?z_sorted ?z_list ?z_range ?z_abs ?z_enumerate ?z_repr ?z_str ?z_ValueError ?z_max ?i_LEAST_MANY ?i_MOST_MANY ?i_MOST_HANDS ?ol_NoName ?or_NoName ?os_NoName ?ob_NoName ?ot_NoName ?ok_NoName ?ol_InUse ?or_InUse ?os_InUse ?ob_InUse ?ot_InUse ?ok_InUse ?ol_NoText ?or_NoText ?os_NoText ?ob_NoText ?ot_NoText ?ok_NoText ?xa_InUse ?xg_InUse ?xu_InUse ?xh_InUse ?xa_NoName ?xg_NoName ?xu_NoName ?xh_NoName ?xa_NoText ?xg_NoText ?xu_NoText ?xh_NoText ?xq_NoTurn ?xk_NoTurn ?xb_NoTurn ?xt_NoTurn ?xq_NoWord ?xk_NoWord ?xb_NoWord ?xt_NoWord ?xq_NoRow ?xk_NoRow ?xb_NoRow ?xt_NoRow ?ex_NoRow_HandError ?ex_NoTurn_HandError ?ex_NoWord_HandError ?kt_NoneType_NoText ?echg_NoRow ?echk_NoRow ?echs_NoRow ?echd_NoRow ?echa_NoRow ?echn_NoRow ?echt_NoRow ?echm_NoRow ?kt_NoRow_NoText ?echg_NoTurn ?echk_NoTurn ?echs_NoTurn ?echd_NoTurn ?echa_NoTurn ?echn_NoTurn ?echt_NoTurn ?echm_NoTurn ?kt_NoTurn_NoText ?echg_NoWord ?echk_NoWord ?echs_NoWord ?echd_NoWord ?echa_NoWord ?echn_NoWord ?echt_NoWord ?echm_NoWord ?kt_NoWord_NoText ?kt_NoneType_NoDeed ?kt_NoRow_NoDeed ?kt_NoTurn_NoDeed ?kt_NoWord_NoDeed ?kt_NoneType_InUse ?kt_NoRow_InUse ?kt_NoTurn_InUse ?kt_NoWord_InUse ?kt_NoneType_NoName ?kt_NoRow_NoName ?kt_NoTurn_NoName ?kt_NoWord_NoName ?kt_NoneType_TooMany ?kt_NoRow_TooMany ?kt_NoTurn_TooMany ?kt_NoWord_TooMany ?kt_NoneType_NoNumber ?kt_NoRow_NoNumber ?kt_NoTurn_NoNumber ?kt_NoWord_NoNumber ?kt_NoneType_NoMachine ?kt_NoRow_NoMachine ?kt_NoTurn_NoMachine ?kt_NoWord_NoMachine ?kt_NoneType_NoRow ?kt_NoRow_NoRow ?kt_NoTurn_NoRow ?kt_NoWord_NoRow ?kt_NoneType_NoWord ?kt_NoRow_NoWord ?kt_NoTurn_NoWord ?kt_NoWord_NoWord ?kt_NoneType_NoBook ?kt_NoRow_NoBook ?kt_NoTurn_NoBook ?kt_NoWord_NoBook ?kt_NoneType_NoTurn ?kt_NoRow_NoTurn ?kt_NoTurn_NoTurn ?kt_NoWord_NoTurn ?echg_NoText ?echk_NoText ?echs_NoText ?echd_NoText ?echa_NoText ?echn_NoText ?echt_NoText ?echm_NoText ?kt_NoText_NoBook ?echg_NoName ?echk_NoName ?echs_NoName ?echd_NoName ?echa_NoName ?echn_NoName ?echt_NoName ?echm_NoName ?kt_NoName_NoBook ?echg_InUse ?echk_InUse ?echs_InUse ?echd_InUse ?echa_InUse ?echn_InUse ?echt_InUse ?echm_InUse ?kt_InUse_NoBook ?kt_NoText_InUse ?kt_NoName_InUse ?kt_InUse_InUse ?kt_NoText_NoName ?kt_NoName_NoName ?kt_InUse_NoName ?kt_NoText_NoText ?kt_NoName_NoText ?kt_InUse_NoText ?kt_NoText_HandError ?kt_NoName_HandError ?kt_InUse_HandError ?kt_NoText_ValueError ?kt_NoName_ValueError ?kt_InUse_ValueError own
    (case g_NoName => k_is); (case g_InUse => k_is); (case g_NoText => k_is); (case g_NoTurn => k_is); (case g_Book => k_is); (case g_NoWord => k_is); (case g_NoRow => k_is); (case g_HandError => k_is); (case g_NoDeed => k_is); (case g_TooMany => k_is); (case g_NoNumber => k_is); (case g_NoMachine => k_is); (case g_NoBook => k_is); (case cl1_Book => k_is); (case cl2_Book => k_is); (case cl3_Book => k_is); (case cl4_Book => k_is); (case na_NoName_name => k_is); (case na_InUse_name => k_is); (case na_NoText_at => k_is); (case na_Book_many => k_is); (case na_Book_pairs => k_is); (case mk1_Book => k_is); (case mk2_Book => k_is); (case a0 => k_is); (case l0 => k_is); (case c0 => k_is); (case k0 => k_is); (case i0 => k_is); (case a1 => k_is); (case l1 => k_is); (case c1 => k_is); (case k1 => k_is); (case i1 => k_is); (case a2 => k_is); (case l2 => k_is); (case c2 => k_is); (case k2 => k_is); (case i2 => k_is); (case a3 => k_is); (case l3 => k_is); (case c3 => k_is); (case k3 => k_is); (case a4 => k_is); (case l4 => k_is); (case c4 => k_is); (case k4 => k_is); (case a5 => k_is); (case l5 => k_is); (case c5 => k_is); (case k5 => k_is); (case a6 => k_is); (case l6 => k_is); (case c6 => k_is); (case k6 => k_is); (case a7 => k_is); (case l7 => k_is); (case c7 => k_is); (case k7 => k_is); (case a8 => k_is); (case l8 => k_is); (case c8 => k_is); (case k8 => k_is); (case a9 => k_is); (case l9 => k_is); (case c9 => k_is); (case k9 => k_is); (case a10 => k_is); (case l10 => k_is); (case c10 => k_is); (case k10 => k_is); (case a11 => k_is); (case l11 => k_is); (case c11 => k_is); (case k11 => k_is); (case a12 => k_is); (case l12 => k_is); (case c12 => k_is); (case k12 => k_is); (case a13 => k_is); (case l13 => k_is); (case c13 => k_is); (case k13 => k_is); (case i13 => k_is); (case a14 => k_is); (case l14 => k_is); (case c14 => k_is); (case k14 => k_is); (case i14 => k_is); (case a15 => k_is); (case l15 => k_is); (case c15 => k_is); (case k15 => k_is); (case i15 => k_is); (case a16 => k_is); (case l16 => k_is); (case c16 => k_is); (case k16 => k_is); (case i16 => k_is); (case a17 => k_is); (case l17 => k_is); (case c17 => k_is); (case k17 => k_is); (case i17 => k_is); (case a18 => k_is); (case l18 => k_is); (case c18 => k_is); (case k18 => k_is); (case a19 => k_is); (case l19 => k_is); (case c19 => k_is); (case k19 => k_is); (case a20 => k_is); (case l20 => k_is); (case c20 => k_is); (case k20 => k_is); (case a21 => k_is); (case l21 => k_is); (case c21 => k_is); (case k21 => k_is); (case a22 => k_is); (case l22 => k_is); (case c22 => k_is); (case k22 => k_is); (case a23 => k_is); (case l23 => k_is); (case c23 => k_is); (case k23 => k_is); (case a24 => k_is); (case l24 => k_is); (case c24 => k_is); (case k24 => k_is); (case a25 => k_is); (case l25 => k_is); (case c25 => k_is); (case k25 => k_is); (case a26 => k_is); (case l26 => k_is); (case c26 => k_is); (case k26 => k_is); (case a27 => k_is); (case l27 => k_is); (case c27 => k_is); (case k27 => k_is); (case a28 => k_is); (case l28 => k_is); (case c28 => k_is); (case k28 => k_is); (case a29 => k_is); (case l29 => k_is); (case c29 => k_is); (case k29 => k_is); (case a30 => k_is); (case l30 => k_is); (case c30 => k_is); (case k30 => k_is); (case a31 => k_is); (case l31 => k_is); (case c31 => k_is); (case k31 => k_is); (case ce28 => rfl); (case lc28 => k_is); (case lp28 => rfl); (case np28 => kernel_rfl); (case ce29 => rfl); (case lc29 => k_is); (case lp29 => rfl); (case np29 => kernel_rfl); (case ndT => decide); (case z_int => k_is); (case z_isinstance => k_is); (case z_bool => k_is); (case z_tuple => k_is); (case z_len => k_is); (case z_all => k_is); (case z_sorted => k_is); (case z_list => k_is); (case z_range => k_is); (case z_abs => k_is); (case z_enumerate => k_is); (case z_repr => k_is); (case z_str => k_is); (case z_ValueError => k_is); (case z_max => k_is); (case i_LEAST_MANY => k_is); (case i_MOST_MANY => k_is); (case i_MOST_HANDS => k_is); (case ol_NoName => k_is); (case or_NoName => first | rfl | decide +kernel); (case os_NoName => k_is); (case ob_NoName => k_is); (case ot_NoName => k_is); (case ok_NoName => k_is); (case ol_InUse => k_is); (case or_InUse => first | rfl | decide +kernel); (case os_InUse => k_is); (case ob_InUse => k_is); (case ot_InUse => k_is); (case ok_InUse => k_is); (case ol_NoText => k_is); (case or_NoText => first | rfl | decide +kernel); (case os_NoText => k_is); (case ob_NoText => k_is); (case ot_NoText => k_is); (case ok_NoText => k_is); (case xa_InUse => k_is); (case xg_InUse => k_is); (case xu_InUse => k_is); (case xh_InUse => k_is); (case xa_NoName => k_is); (case xg_NoName => k_is); (case xu_NoName => k_is); (case xh_NoName => k_is); (case xa_NoText => k_is); (case xg_NoText => k_is); (case xu_NoText => k_is); (case xh_NoText => k_is); (case xq_NoTurn => k_exc); (case xk_NoTurn => k_is); (case xb_NoTurn => k_is); (case xt_NoTurn => k_is); (case xq_NoWord => k_exc); (case xk_NoWord => k_is); (case xb_NoWord => k_is); (case xt_NoWord => k_is); (case xq_NoRow => k_exc); (case xk_NoRow => k_is); (case xb_NoRow => k_is); (case xt_NoRow => k_is); (case ex_NoRow_HandError => kts_exm); (case ex_NoTurn_HandError => kts_exm); (case ex_NoWord_HandError => kts_exm); (case kt_NoneType_NoText => kit_is); (case echg_NoRow => k_is); (case echk_NoRow => k_is); (case echs_NoRow => k_is); (case echd_NoRow => k_is); (case echa_NoRow => k_is); (case echn_NoRow => k_is); (case echt_NoRow => k_is); (case echm_NoRow => k_is); (case kt_NoRow_NoText => kit_is); (case echg_NoTurn => k_is); (case echk_NoTurn => k_is); (case echs_NoTurn => k_is); (case echd_NoTurn => k_is); (case echa_NoTurn => k_is); (case echn_NoTurn => k_is); (case echt_NoTurn => k_is); (case echm_NoTurn => k_is); (case kt_NoTurn_NoText => kit_is); (case echg_NoWord => k_is); (case echk_NoWord => k_is); (case echs_NoWord => k_is); (case echd_NoWord => k_is); (case echa_NoWord => k_is); (case echn_NoWord => k_is); (case echt_NoWord => k_is); (case echm_NoWord => k_is); (case kt_NoWord_NoText => kit_is); (case kt_NoneType_NoDeed => kit_is); (case kt_NoRow_NoDeed => kit_is); (case kt_NoTurn_NoDeed => kit_is); (case kt_NoWord_NoDeed => kit_is); (case kt_NoneType_InUse => kit_is); (case kt_NoRow_InUse => kit_is); (case kt_NoTurn_InUse => kit_is); (case kt_NoWord_InUse => kit_is); (case kt_NoneType_NoName => kit_is); (case kt_NoRow_NoName => kit_is); (case kt_NoTurn_NoName => kit_is); (case kt_NoWord_NoName => kit_is); (case kt_NoneType_TooMany => kit_is); (case kt_NoRow_TooMany => kit_is); (case kt_NoTurn_TooMany => kit_is); (case kt_NoWord_TooMany => kit_is); (case kt_NoneType_NoNumber => kit_is); (case kt_NoRow_NoNumber => kit_is); (case kt_NoTurn_NoNumber => kit_is); (case kt_NoWord_NoNumber => kit_is); (case kt_NoneType_NoMachine => kit_is); (case kt_NoRow_NoMachine => kit_is); (case kt_NoTurn_NoMachine => kit_is); (case kt_NoWord_NoMachine => kit_is); (case kt_NoneType_NoRow => kit_is); (case kt_NoRow_NoRow => kit_is); (case kt_NoTurn_NoRow => kit_is); (case kt_NoWord_NoRow => kit_is); (case kt_NoneType_NoWord => kit_is); (case kt_NoRow_NoWord => kit_is); (case kt_NoTurn_NoWord => kit_is); (case kt_NoWord_NoWord => kit_is); (case kt_NoneType_NoBook => kit_is); (case kt_NoRow_NoBook => kit_is); (case kt_NoTurn_NoBook => kit_is); (case kt_NoWord_NoBook => kit_is); (case kt_NoneType_NoTurn => kit_is); (case kt_NoRow_NoTurn => kit_is); (case kt_NoTurn_NoTurn => kit_is); (case kt_NoWord_NoTurn => kit_is); (case echg_NoText => k_is); (case echk_NoText => k_is); (case echs_NoText => k_is); (case echd_NoText => k_is); (case echa_NoText => k_is); (case echn_NoText => k_is); (case echt_NoText => k_is); (case echm_NoText => k_is); (case kt_NoText_NoBook => kit_is); (case echg_NoName => k_is); (case echk_NoName => k_is); (case echs_NoName => k_is); (case echd_NoName => k_is); (case echa_NoName => k_is); (case echn_NoName => k_is); (case echt_NoName => k_is); (case echm_NoName => k_is); (case kt_NoName_NoBook => kit_is); (case echg_InUse => k_is); (case echk_InUse => k_is); (case echs_InUse => k_is); (case echd_InUse => k_is); (case echa_InUse => k_is); (case echn_InUse => k_is); (case echt_InUse => k_is); (case echm_InUse => k_is); (case kt_InUse_NoBook => kit_is); (case kt_NoText_InUse => kit_is); (case kt_NoName_InUse => kit_is); (case kt_InUse_InUse => kit_is); (case kt_NoText_NoName => kit_is); (case kt_NoName_NoName => kit_is); (case kt_InUse_NoName => kit_is); (case kt_NoText_NoText => kit_is); (case kt_NoName_NoText => kit_is); (case kt_InUse_NoText => kit_is); (case kt_NoText_HandError => kit_is); (case kt_NoName_HandError => kit_is); (case kt_InUse_HandError => kit_is); (case kt_NoText_ValueError => kit_is); (case kt_NoName_ValueError => kit_is); (case kt_InUse_ValueError => kit_is)
